import PyProof.Rows.All
import HandS.ForMost
import HandS.Iter
import HandS.Conv
import HandS.Lambda
import KE.KDictKeyed
import KE.KDictDisplayH
import KE.KDictCopyH
import KE.KEqDict
import HandS.ForExc
import HandS.IsInst
import HandS.TupAny
import HandS.TupMul
import KE.DataEq
import KE.DataCmp
import KE.DataMinMax
import KE.SortData
import KE.DataIsa
import HandS.Zip
import KE.GoesEnum
import HandS.ListItems
import HandS.Rev
import HandS.SetFor
import HandS.Strs
import HandS.Style
import HandS.List
import PyProof.AutoSeq1
import HandS.Defaults
import HandS.WordsDict
import HandS.Head0
import HandS.Head1
import HandS.Head2
import HandS.HeadEnd
import HandS.HeadHook1
import HandS.HeadHook2
import HandS.ExcIs
import HandS.ExcValue
import HandS.HeadHook4
import HandS.HeadWalk
import PySem.Challenge.RW_codecast_k19_whole_secrecy
set_option Elab.async false
set_option linter.all false
set_option maxRecDepth 100000
set_option maxHeartbeats 4000000
/-! dicts whose keys are tuples of ints and whose values are True, told by their object -/
namespace QD
open PySem PySem.Spec PyProof.Rows L2

abbrev tkd (P : Program) (w : World) : HeapKind P w (List Int) := tupleKind (PySem.intKind P w)
/-- the object at p is o -/
def DX (p : Addr) (o : Obj) : HO := .ext fun h => h.get? p = some o
theorem dx_ok {P : Program} {w : World} {H : Hp} {h : Heap} {p : Addr} {o : Obj} (e : h.get? p = some o) : ObjOk P w H h p (DX p o) := ⟨e, ⟨o, e⟩, fun _ _ a k => k _ a⟩
theorem dx_at {P : Program} {w : World} {H : Hp} {h : Heap} {p : Addr} {o : Obj} (x : ObjOk P w H h p (DX p o)) : h.get? p = some o := x.1
def thash (k : List Int) : Int := reduceHash (Builtin.Tuple.tupleHashOf (k.map hashInt))
abbrev KA := List Int × Addr
def entI (x : KA) : DictEntry := ⟨thash x.1, .ref x.2, .bool true⟩
structure DIs (o : Obj) (ks : List KA) : Prop where
  ex : o.ExactDict
  da : ∃ es ep, o.data = .dict es ep ∧ es.toList = ks.map entI
  nd : (ks.map (·.1)).Nodup
def xsOf (ks : List KA) : List (List Int × Addr × Value) := ks.map fun x => (x.1, x.2, Value.bool true)
theorem xsOf_len (ks : List KA) : (xsOf ks).length = ks.length := by simp [xsOf]
section
variable {P : Program} {w : World} {h : Heap} {p : Addr} {o : Obj} {ks : List KA}
theorem xsOf_ent (ks : List KA) : (xsOf ks).map (entryOfKey (tkd P w)) = ks.map entI := by
  unfold xsOf
  rw [List.map_map]
  rfl
theorem xsOf_keys (ks : List KA) : (xsOf ks).map (·.1) = ks.map (·.1) := by
  unfold xsOf
  rw [List.map_map]
  rfl
theorem DIs.toH (D : DIs o ks) (e : h.get? p = some o) (hk : ∀ x ∈ ks, (tkd P w).is h x.1 x.2) : h.DictOfH (tkd P w) p (xsOf ks) := by
  obtain ⟨es, ep, e1, e2⟩ := D.da
  refine ⟨o, es, ep, e, D.ex, e1, by rw [e2, xsOf_ent], fun x hx => ?_, by rw [xsOf_keys]; exact D.nd⟩
  unfold xsOf at hx
  obtain ⟨y, hy, rfl⟩ := List.mem_map.mp hx
  exact hk y hy
theorem DIs.ofH (x : h.DictOfH (tkd P w) p (xsOf ks)) : ∃ o, h.get? p = some o ∧ DIs o ks := by
  obtain ⟨o, es, ep, e, c, d, ee, _, nd⟩ := x
  exact ⟨o, e, c, ⟨es, ep, d, by rw [ee, xsOf_ent]⟩, by rw [xsOf_keys] at nd; exact nd⟩
end
theorem DIs.typeIs {s : Shared} {o : Obj} {p : Addr} {ks : List KA} (D : DIs o ks) (e : s.heap.get? p = some o) : s.TypeIs (.ref p) "dict" := ⟨o, e, D.ex.1⟩
/-- d[k] = True -/
def putI (ks : List KA) (k : List Int) (a : Addr) : List KA := if (ks.any fun x => decide (x.1 = k)) = true then ks else ks ++ [(k, a)]
theorem atKey_xsOf (k : List Int) : ∀ ks : List KA, (atKey (xsOf ks) k).isSome = ks.any fun x => decide (x.1 = k)
  | [] => rfl
  | x :: ks => by
    have ih := atKey_xsOf k ks
    unfold atKey xsOf at ih ⊢
    rw [List.map_cons, List.find?_cons, List.any_cons]
    by_cases e : x.1 = k
    · simp [e]
    · simp only [e, decide_false, Bool.false_or]
      exact ih
theorem putAt_xsOf (k : List Int) (ks : List KA) : (xsOf ks).map (putAt k (.bool true)) = xsOf ks := by
  unfold xsOf
  rw [List.map_map]
  refine List.map_congr_left fun x _ => ?_
  simp only [Function.comp, putAt]
  split <;> rfl
theorem storedH_xsOf (ks : List KA) (k : List Int) (a : Addr) : storedH (xsOf ks) k a (.bool true) = xsOf (putI ks k a) := by
  unfold storedH putI
  rw [atKey_xsOf]
  split
  · exact putAt_xsOf k ks
  · simp [xsOf]
def putAll (ks ms : List KA) : List KA := ms.foldl (fun acc m => putI acc m.1 m.2) ks
theorem storedAllH_xsOf : ∀ (ms ks : List KA), storedAllH (xsOf ks) (xsOf ms) = xsOf (putAll ks ms)
  | [], _ => rfl
  | m :: ms, ks => by
    have e : storedAllH (xsOf ks) (xsOf (m :: ms)) = storedAllH (storedH (xsOf ks) m.1 m.2 (.bool true)) (xsOf ms) := rfl
    rw [e, storedH_xsOf, storedAllH_xsOf ms]
    rfl
theorem putI_len (ks : List KA) (k : List Int) (a : Addr) : (putI ks k a).length ≤ ks.length + 1 := by
  unfold putI
  split <;> simp
theorem putAll_len : ∀ (ms ks : List KA), (putAll ks ms).length ≤ ks.length + ms.length
  | [], ks => by simp [putAll]
  | m :: ms, ks => by
    have h1 := putAll_len ms (putI ks m.1 m.2)
    have h2 := putI_len ks m.1 m.2
    show (putAll (putI ks m.1 m.2) ms).length ≤ _
    rw [List.length_cons]; omega
theorem putI_mem {ks : List KA} {k : List Int} {a : Addr} {x : KA} (h : x ∈ putI ks k a) : x ∈ ks ∨ x = (k, a) := by
  unfold putI at h
  split at h
  · exact .inl h
  · simpa using h
theorem putAll_mem : ∀ {ms ks : List KA} {x : KA}, x ∈ putAll ks ms → x ∈ ks ∨ x ∈ ms
  | [], ks, x, h => .inl h
  | m :: ms, ks, x, h => by
    rcases putAll_mem (ms := ms) (ks := putI ks m.1 m.2) h with q | q
    · rcases putI_mem q with z | z
      · exact .inl z
      · exact .inr (by rw [z]; exact List.mem_cons_self)
    · exact .inr (List.mem_cons_of_mem _ q)
section
variable {X : Cx} {pins : List (Addr × Obj)} {σ : L2.St} {H : Hp} {s : Shared}
theorem ints_are {P : Program} {w : World} : ∀ {k : List Int} {us : List Value}, Vals (k.map V.int) us → ItemsAre (PySem.intKind P w) k us
  | [], _, r => by rw [List.map_nil] at r; cases r; exact .nil
  | i :: k, _, r => by
    rw [List.map_cons] at r
    cases r with
    | cons a b =>
      obtain ⟨t, e⟩ := (show ∃ t, _ = Value.int i t from a)
      subst e
      exact .cons (by show Value.isInt i (.int i t) = true; simp [Value.isInt]) (ints_are b)
/-- a tracked tuple of ints is a key -/
theorem key_at (I : Inv X pins σ H s) {k : List Int} {a : Addr} (e : H a = some (.tup (k.map V.int))) : (tkd X.prog X.w).is s.heap k a := by
  obtain ⟨_, its, r, o, h1, h2, n, h3⟩ := (show ObjOk X.prog X.w H s.heap a (.tup (k.map V.int)) from I.hok a _ e)
  exact ⟨o, its.toArray, n, h1, h2, h3, by simpa using ints_are r⟩
theorem dx_get (I : Inv X pins σ H s) {p : Addr} {o : Obj} (e : H p = some (DX p o)) : s.heap.get? p = some o := dx_at (I.hok p _ e)
theorem dx_H (I : Inv X pins σ H s) {p : Addr} {o : Obj} {ks : List KA} (e : H p = some (DX p o)) (D : DIs o ks) (hk : ∀ x ∈ ks, H x.2 = some (.tup (x.1.map V.int))) : s.heap.DictOfH (tkd X.prog X.w) p (xsOf ks) :=
  D.toH (dx_get I e) fun x hx => key_at I (hk x hx)
theorem room (hu : X.A.units + 64 < cLine) : (tkd X.prog X.w).room X.A := by show X.A.units < cLine; omega
theorem room1 {A : Around} (hu : A.units + 64 < cLine) {P : Program} {w : World} : (tkd P w).room A.in1 := by show A.units + 1 < cLine; omega
theorem room2 {A : Around} (hu : A.units + 64 < cLine) {P : Program} {w : World} : (tkd P w).room A.in1.in1 := by show A.units + 1 + 1 < cLine; omega
theorem big_ne (I : Inv X pins σ H s) {a : Addr} (h : s.heap.objs.size ≤ a) : (a == sysModules) = false := beq_eq_false_iff_ne.mpr (Nat.ne_of_gt (Nat.lt_of_lt_of_le I.big h))
/-- {} -/
def tNew : TE := fun _ H Q => ∀ p o, H p = none → (p == sysModules) = false → DIs o [] → Q (.ref p) (upd H p (DX p o))
def o0 : Obj := { cls := .type "dict", data := .dict #[] }
theorem dis0 : DIs o0 [] := ⟨⟨rfl, rfl, rfl⟩, ⟨#[], 0, rfl, rfl⟩, List.nodup_nil⟩
theorem pe_new {pos : Pos} : PE X (.Dict [] [] pos) tNew := ⟨fun pins s σ H Q I h =>
  wpAny_Dict_empty ⟨.ref s.heap.objs.size, _, I.laid (a := s.heap.objs.size) (o := DX s.heap.objs.size o0) (t' := s.toks) (fun _ _ q => Heap.get?_push_of_some _ q) (Nat.le_refl _) (dx_ok (Heap.get?_push_size _ rfl)), rfl, h _ _ (I.hok.fresh (Nat.le_refl _)) (big_ne I (Nat.le_refl _)) dis0⟩⟩
/-- a dict's object is replaced -/
theorem dx_write {p : Addr} {o o' : Obj} {h' : Heap} {t' : Nat} (I : Inv X pins σ H s) (e : H p = some (DX p o)) (hs : Heap.SameBut p s.heap h') (he : h'.get? p = some o') : Inv X pins σ (upd H p (DX p o')) { s with heap := h', toks := t' } :=
  I.write (x := p) (e := p) (by rw [e]; exact True.intro) (.inl rfl) (fun b q hb z => (hs.2 b hb).trans z) ⟨_, he⟩ (dx_ok he)
/-- a display with tuple keys, by the keys' own tuples -/
theorem Dict_pairsX {P : Program} {w : World} {A : Around} {E : Value → Shared → Prop} {s : Shared} {env : Env} {keys : List (Option Expr)} {values : List Expr} {pos : Pos} {pairs : List (Sem Value × Sem Value)} {Q : Value → Shared → Prop} (hu : (tkd P w).room A)
    (hshape : (evalEachOpt keys env).zip ((evalEach values env).map fun v => do let x ← v; standAt pos; pure x) = pairs.map fun p => (some p.1, p.2)) (h0 : pairs ≠ []) (hlen : pairs.length ≤ 15)
    (h : wpAny (model P w) A (evalPairs pairs) (fun vs s₁ => ∃ ps, CarriesH (tkd P w) s₁.heap vs ps ∧ s₁.heap.DictOfH (tkd P w) s.heap.objs.size [] ∧
      ∀ h' tk, h'.DictOfH (tkd P w) s.heap.objs.size (storedAllH [] ps) → Heap.SameBut s.heap.objs.size s₁.heap h' → Q (.ref s.heap.objs.size) { s₁ with heap := h', toks := tk }) E
      { s with heap := s.heap.push { cls := .type "dict", data := .dict #[] } }) :
    wpAny (model P w) A (eval (.Dict keys values pos) env) Q E s := by
  rw [arm_eval_Dict, hshape, dictDisplay_pairs pairs h0 (by omega)]
  exact wpAny_bind (wpAny_standAt (wpAny_bind (wpAny_subDictH (knd := tkd P w) (Q := fun d s' => wpAny (model P w) A (pure (Value.ref d)) Q E s') hu hlen
    (wpAny_mono h (fun vs s₁ h₁ => by obtain ⟨ps, hc, hm, hq⟩ := h₁; exact ⟨ps, hc, hm, fun h' tk a b => wpAny_pure (hq h' tk a b)⟩) fun _ _ e => e))))
/-- {k: True} -/
def tOne (tk tv : TE) : TE := fun σ H Q => ∀ p o, H p = none → (p == sysModules) = false → DIs o [] → tk σ (upd H p (DX p o)) fun x H1 => tv σ H1 fun y H2 =>
  ∃ k a, x = .ref a ∧ y = .bl true ∧ H2 a = some (.tup (k.map V.int)) ∧ H2 p = some (DX p o) ∧ ∀ o', DIs o' [(k, a)] → Q (.ref p) (upd H2 p (DX p o'))
theorem pe_one' {pos : Pos} {ke ve : Expr} {tk tv : TE} (hu : X.A.units + 64 < cLine) (hk : PE X ke tk) (hv : PE X ve tv) : PE X (.Dict [some ke] [ve] pos) (tOne tk tv) := by
  refine ⟨fun pins s σ H Q I q => ?_⟩
  have hn := I.hok.fresh (Nat.le_refl s.heap.objs.size)
  have I1 : Inv X pins σ (upd H s.heap.objs.size (DX s.heap.objs.size o0)) { s with heap := s.heap.push o0 } :=
    I.laid (a := s.heap.objs.size) (o := DX s.heap.objs.size o0) (h' := s.heap.push o0) (t' := s.toks) (fun _ _ q => Heap.get?_push_of_some _ q) (Nat.le_refl _) (dx_ok (Heap.get?_push_size _ rfl))
  have q1 := q s.heap.objs.size o0 hn (big_ne I (Nat.le_refl _)) dis0
  have hp := (pps_cons (pos := pos) hk hv pps_nil).run pins _ σ _ (fun ps H2 => match ps with
    | [(x, y)] => ∃ k a, x = .ref a ∧ y = .bl true ∧ H2 a = some (.tup (k.map V.int)) ∧ H2 s.heap.objs.size = some (DX s.heap.objs.size o0) ∧ ∀ o', DIs o' [(k, a)] → Q (.ref s.heap.objs.size) (upd H2 s.heap.objs.size (DX s.heap.objs.size o'))
    | _ => False) I1 q1
  have hl := pairTrees_length [some ke] [ve] X.env pos rfl rfl
  refine Dict_pairsX (room hu) (zip_pairTrees [some ke] [ve] X.env pos rfl rfl) (fun z => by rw [z] at hl; cases hl) (by rw [hl]; simp) (thn hp fun ws s2 ⟨ps, H2, I2, rel, q2⟩ => ?_)
  cases rel with
  | nil => exact q2.elim
  | @cons pv wv _ _ r t =>
    cases t with
    | cons _ _ => exact q2.elim
    | nil =>
      obtain ⟨x, y⟩ := pv
      obtain ⟨u, v⟩ := wv
      obtain ⟨k, a, ex, ey, ha, hD, q2⟩ := q2
      subst ex ey
      obtain ⟨r1, r2⟩ := r
      cases r1
      cases r2
      refine ⟨xsOf [(k, a)], ⟨rfl, rfl, key_at I2 ha, True.intro⟩, dx_H (ks := []) I2 hD dis0 (fun x hx => by cases hx), fun h' tk dd sb => ?_⟩
      obtain ⟨o', e', D'⟩ := DIs.ofH (ks := putAll [] [(k, a)]) (by rw [← storedAllH_xsOf]; exact dd)
      exact ⟨.ref s.heap.objs.size, _, dx_write I2 hD sb e', rfl, q2 o' D'⟩
/-- dict(xs), xs a list of pairs (key, True) -/
def rOf : List V → Hp → VK → Prop := fun xs H Q => ∃ (a : Addr) (ps : List Addr) (ks : List KA), xs = [.ref a] ∧ H a = some (.lst (ps.map V.ref)) ∧ Paired (fun p k => H p = some (.tup [.ref k.2, .bl true]) ∧ H k.2 = some (.tup (k.1.map V.int))) ps ks ∧
  ∀ p o, H p = none → (p == sysModules) = false → DIs o (putAll [] ks) → Q (.ref p) (upd H p (DX p o))
theorem paired_at {α β : Type} {G : α → β → Prop} {l₁ : List α} {l₂ : List β} (h : Paired G l₁ l₂) : ∀ {i : Nat} {b : β}, l₂[i]? = some b → ∃ a, l₁[i]? = some a ∧ G a b := by
  induction h with
  | nil => intro i b e; simp at e
  | @cons a b l₁ l₂ r t ih =>
    intro i b' e
    cases i with
    | zero => simp at e; subst e; exact ⟨a, rfl, r⟩
    | succ i => simpa using ih (by simpa using e)
theorem paired_mem {α β : Type} {G : α → β → Prop} {l₁ : List α} {l₂ : List β} (h : Paired G l₁ l₂) : ∀ b ∈ l₂, ∃ a ∈ l₁, G a b := fun b hb => by
  obtain ⟨i, hi⟩ := List.getElem?_of_mem hb
  obtain ⟨a, ha, g⟩ := paired_at h hi
  exact ⟨a, List.mem_of_getElem? ha, g⟩
theorem call_of (hc : X.calm = true) (hu : X.A.units + 64 < cLine) : CallR X (.type "dict") rOf := by
  intro pins s σ H xs us Q I r h
  obtain ⟨a, ps, ks, rfl, ha, hp, q⟩ := h
  rw [Vals.ref1 r]
  obtain ⟨its, rv, pl, hz⟩ := I.list (SqL.of (K := X.K) ha)
  have ei := refs_at rv
  subst ei
  rw [List.length_map] at hz
  have hl : ps.length = ks.length := Paired.length hp
  obtain ⟨o, n, ho, hcl, hd, hdat⟩ := pl
  let prs : List (Value × Value) := ks.map fun k => (Value.ref k.2, Value.bool true)
  have tup : ∀ p ∈ ps, ∀ k : KA, H p = some (.tup [.ref k.2, .bl true]) → s.heap.IsTuple p #[Value.ref k.2, Value.bool true] := fun p _ k e => by
    obtain ⟨its, r, pt, _⟩ := I.tuple (SqT.of (K := X.K) e)
    obtain ⟨u, v, rfl, r1, r2⟩ := vals2 r
    cases r1; cases r2
    exact pt
  refine call_dict_pairsH (knd := tkd X.prog X.w) (ps := xsOf ks) (PairArg.list a (ps.map Value.ref).toArray (fun j => ps.getD j 0) prs) (I.ok.hd hc) (room2 hu) ⟨⟨o, n, ho, hcl, hd, hdat⟩, by simp [prs, hl], fun j k v e => ?_⟩ ⟨by simp [xsOf, prs], fun i key v e => ?_⟩ (fun h' hk x hx => ?_) (by simp [prs]; omega) fun h' tk dd hk => ?_
  · rw [List.getElem?_map, Option.map_eq_some_iff] at e
    obtain ⟨x, hx, ex⟩ := e
    cases ex
    obtain ⟨p, hp1, g1, g2⟩ := paired_at hp hx
    have e1 : ps.getD j 0 = p := by rw [List.getD_eq_getElem?_getD, hp1]; rfl
    show _ = some (Value.ref (ps.getD j 0)) ∧ PairAt s.heap (ps.getD j 0) _ _
    rw [e1]
    exact ⟨by simp [hp1], .inl (tup p (List.mem_of_getElem? hp1) x g1)⟩
  · have e' : prs[i]? = some (key, v) := e
    rw [List.getElem?_map, Option.map_eq_some_iff] at e'
    obtain ⟨x, hx, ex⟩ := e'
    cases ex
    exact ⟨x.1, x.2, by simp [xsOf, hx], rfl⟩
  · unfold xsOf at hx
    obtain ⟨y, hy, rfl⟩ := List.mem_map.mp hx
    obtain ⟨p, _, g1, g2⟩ := paired_mem hp y hy
    have z := key_at I g2
    exact (tupleKind_stays (knd := PySem.intKind X.prog X.w)).stays (fun b o' vs n' e1 e2 => hk b o' (Nat.ne_of_lt (Heap.lt_size e1)) (by simp) e1) z
  · obtain ⟨o', e', D'⟩ := DIs.ofH (ks := putAll [] ks) (by rw [← storedAllH_xsOf]; exact dd)
    exact ⟨.ref s.heap.objs.size, _, I.laid (t' := tk) (o := DX s.heap.objs.size o') (fun b ob z => hk b ob (by simp) z) (Nat.le_refl _) (dx_ok e'), rfl, q _ o' (I.hok.fresh (Nat.le_refl _)) (big_ne I (Nat.le_refl _)) D'⟩
/-- d[k] = True -/
def sPut (td ty tv : TE) : TS := fun D σ H => tv σ H fun v H1 => td σ H1 fun x H2 => ty σ H2 fun y H3 => ∃ p o ks k a, x = .ref p ∧ y = .ref a ∧ v = .bl true ∧ H3 p = some (DX p o) ∧ DIs o ks ∧ ks.length < sizeLine ∧
  (∀ z ∈ ks, H3 z.2 = some (.tup (z.1.map V.int))) ∧ H3 a = some (.tup (k.map V.int)) ∧ ∀ o', DIs o' (putI ks k a) → D.nx σ (upd H3 p (DX p o'))
theorem ps_put {o i value : Expr} {pos pos' : Pos} {td ty tv : TE} (hu : X.A.units + 64 < cLine) (ho : PE X o td) (hi : PE X i ty) (hv : PE X value tv) (hs : swapsWith value (some (.Subscript o i pos')) pos.line X.env = pure false) :
    PS X (.Assign [.Subscript o i pos'] value pos) (sPut td ty tv) := by
  refine ⟨fun pins s σ H D I h => ?_⟩
  refine wpAny_Assign_Subscript (thn (hv.run pins s σ H _ I h) fun r s1 ⟨v, H1, I1, rv, q1⟩ => thn (ho.run pins s1 σ H1 _ I1 q1) fun u s2 ⟨x, H2, I2, rx, q2⟩ => thn (hi.run pins s2 σ H2 _ I2 q2) fun iv s3 ⟨y, H3, I3, ry, p, ob, ks, k, a, ex, ey, ev, hp, D1, hl, hk, ha, q3⟩ => ?_) hs
  subst ex ey ev
  obtain rfl : u = Value.ref p := rx
  obtain rfl : iv = Value.ref a := ry
  obtain rfl : r = Value.bool true := rv
  refine wpAny_setItem_heap (hsz := by rw [xsOf_len]; omega) (room1 hu) (key_at I3 ha) (dx_H I3 hp D1 hk) fun h' dd sb => ?_
  rw [storedH_xsOf] at dd
  obtain ⟨o', e', D'⟩ := DIs.ofH dd
  exact ⟨σ, _, dx_write I3 hp sb e', q3 o' D'⟩
/-- d.update(e), both dicts -/
def sUpd (td te : TE) : TS := fun D σ H => td σ H fun x H1 => (∃ p o ks, x = .ref p ∧ H1 p = some (DX p o) ∧ DIs o ks) ∧ te σ H1 fun y H2 => ∃ p o ks p2 o2 ms, x = .ref p ∧ y = .ref p2 ∧ H2 p = some (DX p o) ∧ H2 p2 = some (DX p2 o2) ∧ p ≠ p2 ∧ (p2 == sysModules) = false ∧ DIs o ks ∧ DIs o2 ms ∧
  ks.length + ms.length ≤ sizeLine ∧ (∀ z ∈ ks, H2 z.2 = some (.tup (z.1.map V.int))) ∧ (∀ z ∈ ms, H2 z.2 = some (.tup (z.1.map V.int))) ∧ (ks ≠ [] ∨ (ms.map fun z => thash z.1).Nodup) ∧
  ∀ o', DIs o' (putAll ks ms) → D.nx σ (upd H2 p (DX p o'))
theorem ps_upd {o e : Expr} {apos cpos pos : Pos} {td te : TE} (hu : X.A.units + 64 < cLine) (ho : PE X o td) (he : PE X e te) (hb : attributeBase o "update" X.env (eval o X.env) = eval o X.env) (hl : (apos.endLine == cpos.line) = true) (hs : starEach [e] X.env = [(false, eval e X.env)]) :
    PS X (.Expr (.Call (.Attribute o "update" apos) [e] [] cpos) pos) (sUpd td te) := by
  have few : ((backTo cpos (starEach [e] X.env)).all (fun x => !x.1) && (backToKw cpos (keywordEach [] X.env)).all (fun x => x.1.isSome) && decide ([e].length + ([] : List Keyword).length + (if ([] : List Keyword).isEmpty then 0 else 1) < 30)) = true := by rw [hs]; rfl
  have pe : PE X (.Call (.Attribute o "update" apos) [e] [] cpos) (fun σ H Q => td σ H fun x H1 => (∃ p o ks, x = .ref p ∧ H1 p = some (DX p o) ∧ DIs o ks) ∧ te σ H1 fun y H2 => ∃ p o ks p2 o2 ms, x = .ref p ∧ y = .ref p2 ∧ H2 p = some (DX p o) ∧ H2 p2 = some (DX p2 o2) ∧ p ≠ p2 ∧ (p2 == sysModules) = false ∧ DIs o ks ∧ DIs o2 ms ∧
      ks.length + ms.length ≤ sizeLine ∧ (∀ z ∈ ks, H2 z.2 = some (.tup (z.1.map V.int))) ∧ (∀ z ∈ ms, H2 z.2 = some (.tup (z.1.map V.int))) ∧ (ks ≠ [] ∨ (ms.map fun z => thash z.1).Nodup) ∧
      ∀ o', DIs o' (putAll ks ms) → Q .non (upd H2 p (DX p o'))) := by
    refine ⟨fun pins s σ H Q I h => ?_⟩
    refine wpAny_Call_method_late hb few hl rfl (thn (ho.run pins s σ H _ I h) fun v s1 ⟨x, H1, I1, r1, ⟨p0, o1, ks1, ex, hp0, D1⟩, q1⟩ => ?_)
    subst ex
    obtain rfl : v = Value.ref p0 := r1
    refine ⟨"dict", "dict.update", PySem.F.plainAttrs_dict, PySem.F.slot_dict_update, PySem.F.type_dict_update, D1.typeIs (dx_get I1 hp0), fun b eb => ?_, ?_⟩
    · cases eb
      exact ⟨o1, dx_get I1 hp0, D1.ex.2.1⟩
    · have hA := (pa_cons he pa_nil hs).run cpos pins s1 σ H1 (fun vs H2 => match vs with
        | [y] => ∃ p o ks p2 o2 ms, V.ref p0 = .ref p ∧ y = .ref p2 ∧ H2 p = some (DX p o) ∧ H2 p2 = some (DX p2 o2) ∧ p ≠ p2 ∧ (p2 == sysModules) = false ∧ DIs o ks ∧ DIs o2 ms ∧
          ks.length + ms.length ≤ sizeLine ∧ (∀ z ∈ ks, H2 z.2 = some (.tup (z.1.map V.int))) ∧ (∀ z ∈ ms, H2 z.2 = some (.tup (z.1.map V.int))) ∧ (ks ≠ [] ∨ (ms.map fun z => thash z.1).Nodup) ∧
          ∀ o', DIs o' (putAll ks ms) → Q .non (upd H2 p (DX p o'))
        | _ => False) I1 q1
      rw [hs] at hA ⊢
      refine Calls.callWith_builtin rfl (Calls.evalArgs_plain ?_)
      refine thn hA fun us s2 ⟨vs, H2, I2, r2, q2⟩ => ?_
      have q2' := q2
      simp only at q2'
      split at q2'
      · obtain ⟨p, ob, ks, p2, o2, ms, ex, rfl, hp, hp2, ne, hsy, D, D2, hz, hk, hm, hh, q⟩ := q2'
        cases ex
        rw [Vals.ref1 r2]
        have tys : ∀ x ∈ xsOf ms, s2.TypeIs (.ref x.2.1) "tuple" := fun x hx => by
          unfold xsOf at hx
          obtain ⟨y, hy, rfl⟩ := List.mem_map.mp hx
          exact IsTupleKey.typeIs (key_at I2 (hm y hy))
        refine call_update_dictH (knd := tkd X.prog X.w) (room1 hu) ne hsy (dx_H I2 hp D hk) (dx_H I2 hp2 D2 hm) ?_ (by rw [xsOf_len, xsOf_len]; exact hz) fun h' d1 d2 sb => ?_
        · rcases hh with z | z
          · exact .inl fun e => z (by cases ks with | nil => rfl | cons _ _ => cases e)
          · refine .inr ⟨tys, ?_⟩
            have : (xsOf ms).map (fun x => (tkd X.prog X.w).hash x.1) = ms.map fun z => thash z.1 := by unfold xsOf; rw [List.map_map]; rfl
            rw [this]; exact z
        · rw [storedAllH_xsOf] at d1
          obtain ⟨o', e', D'⟩ := DIs.ofH d1
          exact ⟨.non, _, dx_write (t' := s2.toks) I2 hp sb e', rfl, q o' D'⟩
      · exact q2'.elim
  exact ps_expr pe rfl
end
end QD
namespace QD
open PySem PySem.Spec PyProof.Rows L2 PySem.W
theorem DIs.raw {o : Obj} {ks : List KA} (D : DIs o ks) : ∃ es ep, o.data = .dict es ep ∧ es.size = ks.length ∧ ∀ (i : Nat) (x : KA), ks[i]? = some x → ∃ en : DictEntry, es[i]? = some en ∧ en.key = .ref x.2 := by
  obtain ⟨es, ep, e1, e2⟩ := D.da
  refine ⟨es, ep, e1, by rw [← Array.length_toList, e2, List.length_map], fun i x h => ⟨entI x, ?_, rfl⟩⟩
  rw [← Array.getElem?_toList, e2, List.getElem?_map, h]
  rfl
section
variable {P : Program} {w : World} {A : Around} {E : Value → Shared → Prop} {s : Shared}
theorem samePairs0 {nm : String} {a b : Addr} {o o' : Obj} {ks : List KA} {Q : Bool → Shared → Prop} (ha : (a == sysModules) = false) (hb : (b == sysModules) = false) (ea : s.heap.get? a = some o) (eb : s.heap.get? b = some o') (D : DIs o ks) (D' : DIs o' []) (h : Q ks.isEmpty s) :
    wpAny (model P w) A (Builtin.Dict.samePairs nm a b) Q E s := by
  obtain ⟨es, ep, hda, hsz, _⟩ := D.raw
  obtain ⟨es', ep', hdb, hsz', _⟩ := D'.raw
  have h0 : es'.size = 0 := hsz'
  unfold Builtin.Dict.samePairs Builtin.Dict.showsAll
  rw [if_neg (show ¬ (a == sysModules) = true by rw [ha]; exact Bool.false_ne_true), if_neg (show ¬ (b == sysModules) = true by rw [hb]; exact Bool.false_ne_true)]
  refine wpAny_bind (wpAny_pure (wpAny_bind (wpAny_pure ?_)))
  refine wpAny_bind (wpAny_dictEntries ea hda ?_)
  dsimp only
  refine wpAny_bind (wpAny_dictEntries eb hdb ?_)
  by_cases z : es.size = es'.size
  case neg =>
    rw [if_pos (by simpa using z)]
    have e : ks.isEmpty = false := by cases ks with | nil => rw [h0] at z; exact absurd hsz z | cons _ _ => rfl
    rw [e] at h
    exact wpAny_bind (wpAny_rule (wpAny_pure h))
  case pos =>
    have e0 : ks.length = 0 := by omega
    have e : ks = [] := List.length_eq_zero_iff.mp e0
    subst e
    rw [if_neg (by rw [z]; simp)]
    refine wpAny_bind (wpAny_dictEpoch ea hda ?_)
    refine wpAny_bind ?_
    rw [Std.Legacy.Range.forIn_eq_forIn_range']
    have hz : es.size = 0 := by rw [z]; exact h0
    simp only [Std.Legacy.Range.size, hz, Nat.sub_zero, Nat.add_sub_cancel, Nat.div_one, List.range'_zero, Nat.zero_add, Nat.zero_div, List.forIn_nil]
    exact wpAny_pure (wpAny_pure h)
theorem eq0 {a b : Addr} {o o' : Obj} {ks : List KA} {Q : Value → Shared → Prop} (ha : (a == sysModules) = false) (hb : (b == sysModules) = false) (ea : s.heap.get? a = some o) (eb : s.heap.get? b = some o') (D : DIs o ks) (D' : DIs o' []) (hu : A.units < cLine) (h : Q (.bool ks.isEmpty) s) :
    wpAny (model P w) A (compareOp .Eq (.ref a) (.ref b)) Q E s := by
  have ta := D.typeIs ea
  have tb := D'.typeIs eb
  refine wpAny_richCompare_same_room (op := .Eq) ta tb PySem.F.slot_dict_eq (wpAny_call_entry PySem.F.slot_dict_eq ta PySem.F.entry_dict_eq ?_ (PySem.F.args_dict_eq_2 _ _)) hu
  show wpAny _ _ (Builtin.Dict.dictSlotArgs "__eq__" ⟨[.ref a, .ref b], []⟩ >>= _) _ _ s
  refine wpAny_bind ?_
  unfold Builtin.Dict.dictSlotArgs
  refine wpAny_bind (wpAny_notOrdered_dict ta ?_)
  show wpAny _ _ (pure (Value.ref a, Value.ref b)) _ _ s
  refine wpAny_pure ?_
  refine wpAny_bind (wpAny_isInstance (T := "dict") tb PySem.F.sub_dict_dict ?_)
  simp only [Bool.not_true, Bool.false_eq_true, if_false]
  refine wpAny_bind (wpAny_pure (wpAny_bind (wpAny_pure ?_)))
  refine wpAny_bind (samePairs0 ha hb ea eb D D' ?_)
  refine wpAny_pure ⟨_, rfl, ?_, ?_⟩
  · exact fun x => nomatch x
  · simpa using h
theorem ne0 {a b : Addr} {o o' : Obj} {ks : List KA} {Q : Value → Shared → Prop} (ha : (a == sysModules) = false) (hb : (b == sysModules) = false) (ea : s.heap.get? a = some o) (eb : s.heap.get? b = some o') (D : DIs o ks) (D' : DIs o' []) (hu : A.units < cLine) (h : Q (.bool (!ks.isEmpty)) s) :
    wpAny (model P w) A (compareOp .NotEq (.ref a) (.ref b)) Q E s := by
  have ta := D.typeIs ea
  have tb := D'.typeIs eb
  refine wpAny_richCompare_same_room (op := .NotEq) ta tb PySem.F.slot_dict_ne (wpAny_call_entry PySem.F.slot_dict_ne ta PySem.F.entry_dict_ne ?_ (PySem.F.args_dict_ne_2 _ _)) hu
  show wpAny _ _ (Builtin.Dict.dictSlotArgs "__ne__" ⟨[.ref a, .ref b], []⟩ >>= _) _ _ s
  refine wpAny_bind ?_
  unfold Builtin.Dict.dictSlotArgs
  refine wpAny_bind (wpAny_notOrdered_dict ta ?_)
  show wpAny _ _ (pure (Value.ref a, Value.ref b)) _ _ s
  refine wpAny_pure ?_
  refine wpAny_bind (wpAny_isInstance (T := "dict") tb PySem.F.sub_dict_dict ?_)
  simp only [Bool.not_true, Bool.false_eq_true, if_false]
  refine wpAny_bind (wpAny_pure (wpAny_bind (wpAny_pure ?_)))
  refine wpAny_bind (samePairs0 ha hb ea eb D D' ?_)
  refine wpAny_pure ⟨_, rfl, ?_, ?_⟩
  · exact fun x => nomatch x
  · simpa using h
end
section
variable {X : Cx}
/-- d == {}, d != {} -/
def rE (neg : Bool) : R2 := fun x y H Q => ∃ a b o o' ks, x = .ref a ∧ y = .ref b ∧ H a = some (DX a o) ∧ H b = some (DX b o') ∧ (a == sysModules) = false ∧ (b == sysModules) = false ∧ DIs o ks ∧ DIs o' [] ∧ Q (.bl (if neg = true then !ks.isEmpty else ks.isEmpty)) H
theorem op_eqE (hu : X.A.units + 64 < cLine) : OpR X (compareOp .Eq) (rE false) := by
  intro pins s σ H x y v u Q I rx ry h
  obtain ⟨a, b, o, o', ks, rfl, rfl, ea, eb, ha, hb, D, D', q⟩ := h
  obtain rfl : v = Value.ref a := rx
  obtain rfl : u = Value.ref b := ry
  exact eq0 ha hb (dx_get I ea) (dx_get I eb) D D' (by omega) ⟨.bl _, H, I, rfl, q⟩
theorem op_neE (hu : X.A.units + 64 < cLine) : OpR X (compareOp .NotEq) (rE true) := by
  intro pins s σ H x y v u Q I rx ry h
  obtain ⟨a, b, o, o', ks, rfl, rfl, ea, eb, ha, hb, D, D', q⟩ := h
  obtain rfl : v = Value.ref a := rx
  obtain rfl : u = Value.ref b := ry
  exact ne0 ha hb (dx_get I ea) (dx_get I eb) D D' (by omega) ⟨.bl _, H, I, rfl, q⟩
theorem vals_kas : ∀ ks : List KA, Vals (ks.map fun x => V.ref x.2) (ks.map fun x => Value.ref x.2)
  | [] => .nil
  | _ :: ks => .cons rfl (vals_kas ks)
/-- list(d) -/
def rLs : List V → Hp → VK → Prop := fun xs H Q => ∃ d o ks, xs = [V.ref d] ∧ H d = some (DX d o) ∧ (d == sysModules) = false ∧ DIs o ks ∧ ks.length ≤ sizeLine ∧ ∀ p, H p = none → Q (.ref p) (upd H p (.lst (ks.map fun x => V.ref x.2)))
theorem call_ls (hc : X.calm = true) : CallR X (.type "list") rLs := by
  intro pins s σ H xs us Q I r h
  obtain ⟨d, o, ks, rfl, hd, hs, D, hz, q⟩ := h
  rw [Vals.ref1 r]
  obtain ⟨es, ep, hdt, hsz, ent⟩ := D.raw
  refine PySem.W.kdl_call (kdl_raw hs D.ex hdt) (I.ok.hd hc) (dx_get I hd) (by omega) fun h' tk acc' c' kp e it => ?_
  have ea : acc'.toList = ks.map fun x => Value.ref x.2 := by
    have hl : acc'.toList.length = ks.length := by rw [Array.length_toList, it.1]; exact hsz
    apply List.ext_getElem?
    intro j
    rw [List.getElem?_map]
    cases hj : acc'.toList[j]? with
    | none =>
      have h1 := List.getElem?_eq_none_iff.mp hj
      rw [List.getElem?_eq_none (by omega)]
      rfl
    | some v =>
      obtain ⟨en, hen, hv⟩ := it.2 j v (by rw [← Array.getElem?_toList]; exact hj)
      cases hb : ks[j]? with
      | none =>
        have h1 := List.getElem?_eq_none_iff.mp hb
        have h2 := (List.getElem?_eq_some_iff.mp hj).1
        omega
      | some b =>
        obtain ⟨en', h1, h2⟩ := ent j b hb
        rw [hen] at h1
        cases h1
        rw [hv, h2]
        rfl
  have rv : Vals (ks.map fun x => V.ref x.2) acc'.toList := by
    rw [ea]
    exact vals_kas ks
  refine ⟨.ref s.heap.objs.size, _, I.laid (t' := tk) (o := .lst (ks.map fun x => V.ref x.2)) kp (Nat.le_refl _) ?_, rfl, q _ (I.hok.fresh (Nat.le_refl _))⟩
  exact ⟨by rw [List.length_map]; exact hz, acc'.toList, c', rv, by rw [Array.toArray_toList]; exact e⟩
/-- the keys of the dict at d -/
def ItX (d : Addr) (o : Obj) (ks : List KA) : It := ⟨fun i H => H d = some (DX d o) ∧ i < ks.length, fun i H x H' => H' = H ∧ ∃ z, ks[i]? = some z ∧ x = .ref z.2, fun i H => H d = some (DX d o) ∧ ks.length ≤ i⟩
theorem turn_X {P : Program} {w : World} {K : PySem.W.Frag} {tg : Expr} {d : Addr} {o : Obj} {es : Array DictEntry} {ep : Nat} {ks : List KA} (it : Addr) (D : DIs o ks) (hod : o.data = .dict es ep) : Turn P w K tg (ItX d o ks) [it] it (fun i h => h.IsKeyIter it d i ks.length ep) where
  mem := by simp
  obj := fun i h st b hb => by
    have e : b = it := by simpa using hb
    subst e
    obtain ⟨oi, e, c, dd⟩ := st
    exact ⟨oi, e, fun v z => by rw [dd] at z; cases z⟩
  keep := fun i h h' st k => st.at fun oi e => k it (by simp) oi e
  item := by
    intro X hP hw hK hc i pins s σ H E I hf st hg
    subst hP hw hK
    obtain ⟨hd, hi⟩ := hg
    obtain ⟨f0, f1, f2, f3, f4, f5⟩ := hf it (by simp)
    obtain ⟨es', ep', hdt, hsz, ent⟩ := D.raw
    obtain ⟨rfl, rfl⟩ := dict_ep hod hdt
    obtain ⟨z, hz⟩ : ∃ z, ks[i]? = some z := ⟨ks[i], List.getElem?_eq_getElem hi⟩
    obtain ⟨en, hen, hkey⟩ := ent i z hz
    refine next_key_item st (dx_get I hd) hdt hsz hen fun h' st' sb => ?_
    have I1 : Inv X pins σ H { s with heap := h' } := I.turned (t' := s.toks) (fun b ob hb e => (sb.2 b hb).trans e) f0 f1 f3 f4 f5
    obtain ⟨oi, e, c, dd⟩ := id st'
    exact ⟨en.key, rfl, go_of (s := { s with heap := h' }) e c dd (by decide) ⟨.ref z.2, H, I1, hkey, ⟨rfl, z, hz, rfl⟩, st', fun b hb => (hf b hb).1⟩⟩
  done := by
    intro X hP hw hK hc i pins s σ H E I hf st hg
    subst hP hw hK
    obtain ⟨hd, hi⟩ := hg
    obtain ⟨f0, f1, f2, f3, f4, f5⟩ := hf it (by simp)
    obtain ⟨es', ep', hdt, hsz, ent⟩ := D.raw
    obtain ⟨rfl, rfl⟩ := dict_ep hod hdt
    exact next_key_end (I.ok.hd hc) st (dx_get I hd) hdt hsz hi fun h' eb => ⟨rfl, I.turned (t' := s.toks) (fun b ob hb e => eb b ob hb e) f0 f1 f3 f4 f5⟩
  self := fun A i s Q E st h => wpAny_pyIter_keyiter st h
theorem iter_X {tg : Expr} {pins : List (Addr × Obj)} {σ : L2.St} {H : Hp} {s : Shared} {R : It → Hp → Prop} {d : Addr} {o : Obj} {ks : List KA} (I : Inv X pins σ H s) (hd : H d = some (DX d o)) (hs : (d == sysModules) = false) (D : DIs o ks) (q : R (ItX d o ks) H) :
    wpAny (model X.prog X.w) X.A (pyIter (.ref d)) (PIE X pins σ tg R) X.xe s := by
  obtain ⟨es, ep, hdt, hsz, ent⟩ := D.raw
  refine iter_keys hs (dx_get I hd) D.ex hdt (pi_one (tk := s.toks) I _ (turn_X _ D hdt) ⟨_, Heap.get?_push_size _ rfl, rfl, ?_⟩ q)
  rw [hsz] <;> rfl
end
end QD
namespace Q
open PySem PySem.Spec PyProof.Rows L2

/-- a value as the pure layer sees it: data, an own (fresh, mutable) list (k false) or dict of keys (k true), a frozen dict, an opaque thing -/
inductive D where
  | d (x : PyData)
  | own (k : Bool) (xs : List PyData)
  | r (v : V)
  | fd (xs : List PyData)
/-- a slot -/
inductive S where
  | no
  | d (x : PyData)
  | own (k : Bool) (xs : List PyData)
  | r (v : V)
  | fd (xs : List PyData)
@[reducible] def D.s : D → S
  | .d x => .d x
  | .own k xs => .own k xs
  | .r v => .r v
  | .fd xs => .fd xs

/-- the name that the law's lambdas bear -/
def qLam : Str := "law.<locals>.<lambda>"
/-- neither a table nor a code object -/
def Plain (o : HO) : Prop := (∀ ps, o ≠ .tbl ps) ∧ ∀ c q, o ≠ LamX.CodeO c q
theorem plain_lst {xs : List V} : Plain (.lst xs) := ⟨fun _ h => (by cases h), fun _ _ h => by unfold LamX.CodeO at h; cases h⟩
theorem plain_tup {xs : List V} : Plain (.tup xs) := ⟨fun _ h => (by cases h), fun _ _ h => by unfold LamX.CodeO at h; cases h⟩
def heapOf (o : Obj) : Nat → Heap
  | 0 => { objs := #[] }
  | n + 1 => (heapOf o n).push o
theorem heapOf_size (o : Obj) : ∀ n, (heapOf o n).objs.size = n
  | 0 => rfl
  | n + 1 => by
    have := heapOf_size o n
    simp [heapOf, Heap.push, this]
theorem heapOf_get {o : Obj} (hf : o.isFreed = false) : ∀ {n a : Nat}, a < n → ∃ u, (heapOf o n).get? a = some u ∧ u.data = o.data
  | n + 1, a, h => by
    by_cases e : a < n
    · obtain ⟨u, h1, h2⟩ := heapOf_get hf e
      exact ⟨u, Heap.get?_push_of_some _ h1, h2⟩
    · have e2 : a = (heapOf o n).objs.size := by rw [heapOf_size]; omega
      subst e2
      exact ⟨o, Heap.get?_push_size _ hf, rfl⟩
theorem plain_dx {p : Addr} {o : Obj} {es : Array DictEntry} {ep : Nat} (hd : o.data = .dict es ep) : Plain (QD.DX p o) := by
  refine ⟨fun _ h => (by unfold QD.DX at h; cases h), fun c q h => ?_⟩
  unfold QD.DX LamX.CodeO at h
  injection h with h
  let ob : Obj := { cls := .none, data := .fields #[.none, .str q 0] }
  obtain ⟨u, h1, h2⟩ := heapOf_get (o := ob) rfl (n := max c p + 1) (a := c) (by omega)
  obtain ⟨u', h3, h4⟩ := heapOf_get (o := ob) rfl (n := max c p + 1) (a := p) (by omega)
  have z := congrFun h (heapOf ob (max c p + 1))
  have z2 : (heapOf ob (max c p + 1)).get? p = some o := by
    rw [z]
    exact ⟨u, #[.none, .str q 0], 0, h1, h2, rfl⟩
  rw [h3] at z2
  cases z2
  rw [h4] at hd
  cases hd
/-- a key as data -/
def tI (k : List Int) : PyData := .tuple (k.map .int)
/-- ob, at p, is the own thing of the items xs, told by vs -/
def IsOb (k : Bool) (p : Addr) (ob : HO) (vs : List V) (xs : List PyData) : Prop := match k with
  | false => ob = .lst vs
  | true => ∃ o ks, ob = QD.DX p o ∧ (p == sysModules) = false ∧ QD.DIs o ks ∧ vs = (ks.map fun x => V.ref x.2) ∧ xs = ks.map fun x => tI x.1
theorem IsOb.plain {k : Bool} {p : Addr} {ob : HO} {vs : List V} {xs : List PyData} (h : IsOb k p ob vs xs) : Plain ob := by
  cases k with
  | false => cases (show ob = .lst vs from h); exact plain_lst
  | true =>
    obtain ⟨o, ks, rfl, _, D, _⟩ := h
    obtain ⟨es, ep, e, _⟩ := D.da
    exact plain_dx e
/-- nothing but a table is told of a -/
def Fr (H : Hp) (a : Addr) : Prop := ∀ o, H a = some o → ∃ ps, o = .tbl ps
theorem Fr.none {H : Hp} {a : Addr} (h : H a = none) : Fr H a := fun o e => by rw [h] at e; cases e
theorem Fr.not {H : Hp} {a : Addr} {o : HO} (h : Fr H a) (e : H a = some o) (p : Plain o) : False := by
  obtain ⟨ps, q⟩ := h o e
  exact p.1 ps q
/-- a code object -/
def Cd (H : Hp) (a : Addr) : Prop := ∃ q, H a = some (LamX.CodeO a q)
/-- F (frozen), M (the world's part) lie in H -/
structure Hw {Ω : Type} (W : Ω → Hp → Prop) (ω : Ω) (F M H : Hp) : Prop where
  fh : ∀ a o, F a = some o → H a = some o
  mh : ∀ a o, M a = some o → H a = some o
  fm : ∀ a o, F a = some o → M a = none
  fp : ∀ a o, F a = some o → Plain o
  w : W ω M
/-- from (H, F, M) to (H', F', M'): all but the world's part is kept -/
structure Ex (H F M H' F' M' : Hp) : Prop where
  keep : ∀ a o, H a = some o → M a = none → Plain o → H' a = some o
  f0 : ∀ a o, F a = some o → F' a = some o
  nf : ∀ a o, F' a = some o → F a = some o ∨ Fr H a
  nm : ∀ a o, M' a = some o → M a ≠ none ∨ Fr H a ∨ Cd H a
  al : ∀ a, Fr H' a → Fr H a
  cd : ∀ a, Cd H' a → Cd H a ∨ Fr H a ∨ M a ≠ none
theorem Ex.refl (H F M : Hp) : Ex H F M H F M := ⟨fun _ _ h _ _ => h, fun _ _ h => h, fun _ _ h => .inl h, fun a o h => .inl (by rw [h]; simp), fun _ h => h, fun _ h => .inl h⟩
theorem Ex.mnone {H F M H' F' M' : Hp} (x : Ex H F M H' F' M') {a : Addr} {o : HO} (h : H a = some o) (m : M a = none) (p : Plain o := by first | exact plain_lst | exact plain_tup) : M' a = none := by
  cases e : M' a with
  | none => rfl
  | some u =>
    rcases x.nm a u e with z | z | ⟨q, z⟩
    · exact absurd m z
    · exact (z.not h p).elim
    · rw [h] at z; exact absurd (Option.some.inj z) (p.2 a q)
theorem Ex.fnone {H F M H' F' M' : Hp} (x : Ex H F M H' F' M') {a : Addr} {o : HO} (h : H a = some o) (m : F a = none) (p : Plain o := by first | exact plain_lst | exact plain_tup) : F' a = none := by
  cases e : F' a with
  | none => rfl
  | some u =>
    rcases x.nf a u e with z | z
    · rw [m] at z; cases z
    · exact (z.not h p).elim
theorem Ex.trans {H F M H1 F1 M1 H2 F2 M2 : Hp} (x : Ex H F M H1 F1 M1) (y : Ex H1 F1 M1 H2 F2 M2) : Ex H F M H2 F2 M2 where
  keep := fun a o h m p => y.keep a o (x.keep a o h m p) (x.mnone h m p) p
  f0 := fun a o h => y.f0 a o (x.f0 a o h)
  nf := fun a o h => by
    rcases y.nf a o h with z | z
    · exact x.nf a o z
    · exact .inr (x.al a z)
  nm := fun a o h => by
    rcases y.nm a o h with z | z | z
    · cases e : M1 a with
      | none => exact absurd e z
      | some u => exact x.nm a u e
    · exact .inr (.inl (x.al a z))
    · rcases x.cd a z with q | q | q
      · exact .inr (.inr q)
      · exact .inr (.inl q)
      · exact .inl q
  al := fun a h => x.al a (y.al a h)
  cd := fun a h => by
    rcases y.cd a h with z | z | z
    · exact x.cd a z
    · exact .inr (.inl (x.al a z))
    · cases e : M1 a with
      | none => exact absurd e z
      | some u =>
        rcases x.nm a u e with q | q | q
        · exact .inr (.inr q)
        · exact .inr (.inl q)
        · exact .inl q
theorem Fr.upd {H : Hp} {p a : Addr} {o : HO} (pl : Plain o) (h : Fr (upd H p o) a) : Fr H a ∧ a ≠ p := by
  have ne : a ≠ p := fun z => by
    obtain ⟨ps, q⟩ := h o (by rw [z, upd_same])
    exact pl.1 ps q
  exact ⟨fun u e => h u (by rw [upd_ne ne]; exact e), ne⟩
theorem Cd.upd {H : Hp} {p a : Addr} {o : HO} (pl : Plain o) (h : Cd (L2.upd H p o) a) : Cd H a := by
  obtain ⟨q, e⟩ := h
  have ne : a ≠ p := fun z => by
    rw [z, upd_same] at e
    exact pl.2 _ q (Option.some.inj e)
  exact ⟨q, by rw [upd_ne ne] at e; exact e⟩
/-- a new frozen object -/
theorem alloc {Ω : Type} {W : Ω → Hp → Prop} {ω : Ω} {F M H : Hp} {p : Addr} {o : HO} (h : Hw W ω F M H) (n : H p = none) (pl : Plain o := by first | exact plain_lst | exact plain_tup) : Hw W ω (upd F p o) M (upd H p o) ∧ Ex H F M (upd H p o) (upd F p o) M := by
  have nM : M p = none := by
    cases e : M p with
    | none => rfl
    | some u => rw [h.mh p u e] at n; cases n
  refine ⟨⟨fun a u e => ?_, fun a u e => ?_, fun a u e => ?_, fun a u e => ?_, h.w⟩, ⟨fun a u e _ _ => ?_, fun a u e => ?_, fun a u e => ?_, fun a u e => .inl (by rw [e]; simp), fun a e => (e.upd pl).1, fun a e => .inl (e.upd pl)⟩⟩
  · by_cases z : a = p
    · subst z; rw [upd_same] at e ⊢; exact e
    · rw [upd_ne z] at e ⊢; exact h.fh a u e
  · by_cases z : a = p
    · subst z; rw [nM] at e; cases e
    · rw [upd_ne z]; exact h.mh a u e
  · by_cases z : a = p
    · subst z; exact nM
    · rw [upd_ne z] at e; exact h.fm a u e
  · by_cases z : a = p
    · subst z; rw [upd_same] at e; cases e; exact pl
    · rw [upd_ne z] at e; exact h.fp a u e
  · by_cases z : a = p
    · subst z; rw [n] at e; cases e
    · rw [upd_ne z]; exact e
  · by_cases z : a = p
    · subst z; rw [h.fh a u e] at n; cases n
    · rw [upd_ne z]; exact e
  · by_cases z : a = p
    · subst z; exact .inr (Fr.none n)
    · rw [upd_ne z] at e; exact .inl e
/-- a new own object: neither frozen nor the world's -/
theorem allocO {Ω : Type} {W : Ω → Hp → Prop} {ω : Ω} {F M H : Hp} {p : Addr} {o : HO} (h : Hw W ω F M H) (n : H p = none) (pl : Plain o := by first | exact plain_lst | exact plain_tup) : Hw W ω F M (upd H p o) ∧ Ex H F M (upd H p o) F M ∧ F p = none ∧ M p = none := by
  have nM : M p = none := by
    cases e : M p with
    | none => rfl
    | some u => rw [h.mh p u e] at n; cases n
  have nF : F p = none := by
    cases e : F p with
    | none => rfl
    | some u => rw [h.fh p u e] at n; cases n
  refine ⟨⟨fun a u e => ?_, fun a u e => ?_, h.fm, h.fp, h.w⟩, ⟨fun a u e _ _ => ?_, fun a u e => e, fun a u e => .inl e, fun a u e => .inl (by rw [e]; simp), fun a e => (e.upd pl).1, fun a e => .inl (e.upd pl)⟩, nF, nM⟩
  · by_cases z : a = p
    · subst z; rw [nF] at e; cases e
    · rw [upd_ne z]; exact h.fh a u e
  · by_cases z : a = p
    · subst z; rw [nM] at e; cases e
    · rw [upd_ne z]; exact h.mh a u e
  · by_cases z : a = p
    · subst z; rw [n] at e; cases e
    · rw [upd_ne z]; exact e

/-! ### data in the frozen part -/
mutual
/-- v is the data x, by the objects of F -/
inductive Rp (F : Hp) : V → PyData → Prop
  | non : Rp F .non .none
  | bl (b : Bool) : Rp F (.bl b) (.bool b)
  | int (i : Int) : Rp F (.int i) (.int i)
  | str (x : Str) : Rp F (.str x) (.str x)
  | lst {a : Addr} {vs : List V} {xs : List PyData} : F a = some (.lst vs) → vs.length ≤ 1000000 → Rps F vs xs → Rp F (.ref a) (.list xs)
  | tup {a : Addr} {vs : List V} {xs : List PyData} : F a = some (.tup vs) → vs.length ≤ 1000000 → Rps F vs xs → Rp F (.ref a) (.tuple xs)
inductive Rps (F : Hp) : List V → List PyData → Prop
  | nil : Rps F [] []
  | cons {v : V} {vs : List V} {x : PyData} {xs : List PyData} : Rp F v x → Rps F vs xs → Rps F (v :: vs) (x :: xs)
end
mutual
theorem rp_sub {F F' : Hp} (s : ∀ a o, F a = some o → F' a = some o) : ∀ {x : PyData} {v : V}, Rp F v x → Rp F' v x
  | .none, _, h => by cases h; exact .non
  | .bool b, _, h => by cases h; exact .bl b
  | .int i, _, h => by cases h; exact .int i
  | .str z, _, h => by cases h; exact .str z
  | .list xs, _, h => by cases h with | lst a l b => exact .lst (s _ _ a) l (rps_sub s b)
  | .tuple xs, _, h => by cases h with | tup a l b => exact .tup (s _ _ a) l (rps_sub s b)
  | .dict _, _, h => by cases h
theorem rps_sub {F F' : Hp} (s : ∀ a o, F a = some o → F' a = some o) : ∀ {xs : List PyData} {vs : List V}, Rps F vs xs → Rps F' vs xs
  | [], _, h => by cases h; exact .nil
  | _ :: _, _, h => by cases h with | cons a b => exact .cons (rp_sub s a) (rps_sub s b)
end
mutual
theorem rp_dp {K : PySem.W.Frag} {F : Hp} : ∀ {x : PyData} {v : V}, Rp F v x → Dp K F v x
  | .none, _, h => by cases h; exact .non
  | .bool b, _, h => by cases h; exact .bl b
  | .int i, _, h => by cases h; exact .int i
  | .str z, _, h => by cases h; exact .str z
  | .list xs, _, h => by cases h with | lst a l b => exact .lst (SqL.of a) (rps_dp b)
  | .tuple xs, _, h => by cases h with | tup a l b => exact .tup (SqT.of a) (rps_dp b)
  | .dict _, _, h => by cases h
theorem rps_dp {K : PySem.W.Frag} {F : Hp} : ∀ {xs : List PyData} {vs : List V}, Rps F vs xs → DpAll K F vs xs
  | [], _, h => by cases h; exact .nil
  | _ :: _, _, h => by cases h with | cons a b => exact .cons (rp_dp a) (rps_dp b)
end
mutual
theorem rp_plain {F : Hp} : ∀ {x : PyData} {v : V}, Rp F v x → x.plain = true
  | .none, _, h => by simp [PyData.plain]
  | .bool b, _, h => by simp [PyData.plain]
  | .int i, _, h => by simp [PyData.plain]
  | .str z, _, h => by simp [PyData.plain]
  | .list xs, _, h => by cases h with | lst a l b => simp only [PyData.plain]; exact rps_plain b
  | .tuple xs, _, h => by cases h with | tup a l b => simp only [PyData.plain]; exact rps_plain b
  | .dict _, _, h => by cases h
theorem rps_plain {F : Hp} : ∀ {xs : List PyData} {vs : List V}, Rps F vs xs → PyData.plainAll xs = true
  | [], _, h => by simp [PyData.plainAll]
  | _ :: _, _, h => by cases h with | cons a b => simp only [PyData.plainAll, Bool.and_eq_true]; exact ⟨rp_plain a, rps_plain b⟩
end
theorem rps_len {F : Hp} : ∀ {xs : List PyData} {vs : List V}, Rps F vs xs → vs.length = xs.length
  | [], _, h => by cases h; rfl
  | _ :: _, _, h => by cases h with | cons a b => simp [rps_len b]
theorem rps_get {F : Hp} : ∀ {xs : List PyData} {vs : List V} {i : Nat} {x : PyData}, Rps F vs xs → xs[i]? = some x → ∃ v, vs[i]? = some v ∧ Rp F v x
  | [], _, _, _, h, e => by simp at e
  | _ :: _, _, 0, _, h, e => by cases h with | cons a b => simp at e; subst e; exact ⟨_, rfl, a⟩
  | _ :: _, _, i + 1, _, h, e => by cases h with | cons a b => simpa using rps_get b (by simpa using e)
theorem rps_get' {F : Hp} : ∀ {xs : List PyData} {vs : List V} {i : Nat} {v : V}, Rps F vs xs → vs[i]? = some v → ∃ x, xs[i]? = some x ∧ Rp F v x
  | [], _, _, _, h, e => by cases h; simp at e
  | _ :: _, _, 0, _, h, e => by cases h with | cons a b => simp at e; subst e; exact ⟨_, rfl, a⟩
  | _ :: _, _, i + 1, _, h, e => by cases h with | cons a b => simpa using rps_get' b (by simpa using e)
theorem rps_app {F : Hp} : ∀ {xs ys : List PyData} {vs us : List V}, Rps F vs xs → Rps F us ys → Rps F (vs ++ us) (xs ++ ys)
  | [], _, _, _, h, g => by cases h; exact g
  | _ :: _, _, _, _, h, g => by cases h with | cons a b => exact .cons a (rps_app b g)
theorem rps_take {F : Hp} : ∀ {xs : List PyData} {vs : List V} (n : Nat), Rps F vs xs → Rps F (vs.take n) (xs.take n)
  | _, _, 0, _ => .nil
  | [], _, _ + 1, h => by cases h; exact .nil
  | _ :: _, _, n + 1, h => by cases h with | cons a b => exact .cons a (rps_take n b)
theorem rps_drop {F : Hp} : ∀ {xs : List PyData} {vs : List V} (n : Nat), Rps F vs xs → Rps F (vs.drop n) (xs.drop n)
  | _, _, 0, h => h
  | [], _, _ + 1, h => by cases h; exact .nil
  | _ :: _, _, n + 1, h => by cases h with | cons a b => exact rps_drop n b

/-- v is the value d; H0: the heap ahead of the expression -/
def RD (H0 F M H : Hp) : V → D → Prop
  | v, .d x => Rp F v x
  | v, .r u => v = u
  | v, .own k xs => ∃ p vs ob, v = .ref p ∧ Fr H0 p ∧ F p = none ∧ M p = none ∧ H p = some ob ∧ IsOb k p ob vs xs ∧ vs.length ≤ 1000000 ∧ Rps F vs xs
  | v, .fd xs => ∃ p vs ob, v = .ref p ∧ F p = some ob ∧ IsOb true p ob vs xs ∧ vs.length ≤ 1000000 ∧ Rps F vs xs
theorem RD.step {H0 F M H F' M' H' : Hp} {v : V} {d : D} (x : Ex H F M H' F' M') (h : RD H0 F M H v d) : RD H0 F' M' H' v d := by
  cases d with
  | d y => exact rp_sub x.f0 h
  | r u => exact h
  | own k xs =>
    obtain ⟨p, vs, ob, e, h0, f, m, hp, io, l, a⟩ := h
    exact ⟨p, vs, ob, e, h0, x.fnone hp f io.plain, x.mnone hp m io.plain, x.keep _ _ hp m io.plain, io, l, rps_sub x.f0 a⟩
  | fd xs =>
    obtain ⟨p, vs, ob, e, f, io, l, a⟩ := h
    exact ⟨p, vs, ob, e, x.f0 _ _ f, io, l, rps_sub x.f0 a⟩
theorem RD.back {H0 H1 F M H : Hp} {v : V} {d : D} (x : ∀ a, Fr H1 a → Fr H0 a) (h : RD H1 F M H v d) : RD H0 F M H v d := by
  cases d with
  | d y => exact h
  | r u => exact h
  | own k xs =>
    obtain ⟨p, vs, ob, e, h0, q⟩ := h
    exact ⟨p, vs, ob, e, x p h0, q⟩
  | fd xs => exact h

def SlotOk (F M H : Hp) : S → Option V → Prop
  | .no, _ => True
  | .d x, ov => ∃ v, ov = some v ∧ Rp F v x
  | .r u, ov => ov = some u
  | .own k xs, ov => ∃ p vs ob, ov = some (.ref p) ∧ F p = none ∧ M p = none ∧ H p = some ob ∧ IsOb k p ob vs xs ∧ vs.length ≤ 1000000 ∧ Rps F vs xs
  | .fd xs, ov => ∃ p vs ob, ov = some (.ref p) ∧ F p = some ob ∧ IsOb true p ob vs xs ∧ vs.length ≤ 1000000 ∧ Rps F vs xs
theorem SlotOk.step {F M H F' M' H' : Hp} {s : S} {ov : Option V} (x : Ex H F M H' F' M') (h : SlotOk F M H s ov) : SlotOk F' M' H' s ov := by
  cases s with
  | no => trivial
  | d y =>
    obtain ⟨v, e, h⟩ := h
    exact ⟨v, e, rp_sub x.f0 h⟩
  | r u => exact h
  | own k xs =>
    obtain ⟨p, vs, ob, e, f, m, hp, io, l, a⟩ := h
    exact ⟨p, vs, ob, e, x.fnone hp f io.plain, x.mnone hp m io.plain, x.keep _ _ hp m io.plain, io, l, rps_sub x.f0 a⟩
  | fd xs =>
    obtain ⟨p, vs, ob, e, f, io, l, a⟩ := h
    exact ⟨p, vs, ob, e, x.f0 _ _ f, io, l, rps_sub x.f0 a⟩

/-- the slots, the world and the heap fit together -/
structure J {Ω : Type} (W : Ω → Hp → Prop) (env : List S) (ω : Ω) (F M : Hp) (σ : L2.St) (H : Hp) : Prop where
  hw : Hw W ω F M H
  sl : ∀ (i : Nat) s, env[i]? = some s → ∃ ov, σ[i]? = some ov ∧ SlotOk F M H s ov
  di : ∀ (i j : Nat) k xs l ys p, i ≠ j → env[i]? = some (.own k xs) → env[j]? = some (.own l ys) → σ[i]? = some (some (.ref p)) → σ[j]? = some (some (.ref p)) → False
theorem J.step {Ω : Type} {W : Ω → Hp → Prop} {env : List S} {ω ω' : Ω} {F M F' M' H H' : Hp} {σ : L2.St} (j : J W env ω F M σ H) (h : Hw W ω' F' M' H') (x : Ex H F M H' F' M') : J W env ω' F' M' σ H' :=
  ⟨h, fun i s e => let ⟨ov, e1, q⟩ := j.sl i s e; ⟨ov, e1, q.step x⟩, j.di⟩

/-! ### the readings of the pure layer, as readings of HandS -/
abbrev XD (Ω : Type) := Nat → Ω → Prop
abbrev QD (Ω : Type) := D → Ω → Prop
abbrev TD (Ω : Type) := XD Ω → List S → Ω → QD Ω → Prop
abbrev TDb (Ω : Type) := XD Ω → List S → Ω → (Bool → Ω → Prop) → Prop
abbrev TDa (Ω : Type) := XD Ω → List S → Ω → (List D → Ω → Prop) → Prop
/-- the exceptions' classes by number; what is wanted of exceptions -/
structure Cxx where
  cx : Nat → Value
  wx : XK
section
variable {Ω : Type} (W : Ω → Hp → Prop) (C : Cxx)
/-- exceptions told by Ec, made from (H, F, M) on, are taken -/
def XOk (Ec : XD Ω) (H F M : Hp) : Prop := ∀ c ω' H' F' M', Ec c ω' → Hw W ω' F' M' H' → Ex H F M H' F' M' → C.wx (C.cx c) none H'
def tOf (T : TD Ω) : TE := fun σ H Q => ∃ (env : List S) (ω : Ω) (F M : Hp) (Ec : XD Ω) (Qc : QD Ω), J W env ω F M σ H ∧ T Ec env ω Qc ∧ XOk W C Ec H F M ∧
  ∀ d ω' v H' F' M', Qc d ω' → Hw W ω' F' M' H' → Ex H F M H' F' M' → RD H F' M' H' v d → Q v H'
def bOf (T : TDb Ω) : TT := fun σ H Q => ∃ (env : List S) (ω : Ω) (F M : Hp) (Ec : XD Ω) (Qc : Bool → Ω → Prop), J W env ω F M σ H ∧ T Ec env ω Qc ∧ XOk W C Ec H F M ∧
  ∀ b ω' H' F' M', Qc b ω' → Hw W ω' F' M' H' → Ex H F M H' F' M' → Q b H'
def RDs (H0 F M H : Hp) : List V → List D → Prop := Paired (RD H0 F M H)
def aOf (T : TDa Ω) : TA := fun σ H Q => ∃ (env : List S) (ω : Ω) (F M : Hp) (Ec : XD Ω) (Qc : List D → Ω → Prop), J W env ω F M σ H ∧ T Ec env ω Qc ∧ XOk W C Ec H F M ∧
  ∀ ds ω' vs H' F' M', Qc ds ω' → Hw W ω' F' M' H' → Ex H F M H' F' M' → RDs H F' M' H' vs ds → Q vs H'
end
section
variable {Ω : Type} {W : Ω → Hp → Prop} {C : Cxx}
theorem XOk.step {Ec : XD Ω} {H F M H' F' M' : Hp} (x : XOk W C Ec H F M) (e : Ex H F M H' F' M') : XOk W C Ec H' F' M' := fun c ω' H2 F2 M2 a b d => x c ω' H2 F2 M2 a b (e.trans d)
theorem pe_imp {X : Cx} {e : Expr} {t t' : TE} (h : PE X e t) (i : ∀ σ H Q, t' σ H Q → t σ H Q) : PE X e t' := ⟨fun pins s σ H Q I q => h.run pins s σ H Q I (i σ H Q q)⟩
theorem pt_imp {X : Cx} {e : Expr} {t t' : TT} (h : PT X e t) (i : ∀ σ H Q, t' σ H Q → t σ H Q) : PT X e t' := ⟨fun pins s σ H Q I q => h.run pins s σ H Q I (i σ H Q q)⟩
theorem pa_imp {X : Cx} {e : List Expr} {t t' : TA} (h : PA X e t) (i : ∀ σ H Q, t' σ H Q → t σ H Q) : PA X e t' := ⟨fun pos pins s σ H Q I q => h.run pos pins s σ H Q I (i σ H Q q)⟩
theorem ps_imp {X : Cx} {e : Stmt} {t t' : TS} (h : PS X e t) (i : ∀ D σ H, t' D σ H → t D σ H) : PS X e t' := ⟨fun pins s σ H D I q => h.run pins s σ H D I (i D σ H q)⟩
theorem pss_imp {X : Cx} {e : List Stmt} {t t' : TS} (h : PSs X e t) (i : ∀ D σ H, t' D σ H → t D σ H) : PSs X e t' := ⟨fun pins s σ H D I q => h.run pins s σ H D I (i D σ H q)⟩
end
end Q
namespace Q
open PySem PySem.Spec PyProof.Rows L2

/-! ### data operators, as HandS rules over what reads as data -/
section
variable {X : Cx}
theorem rp_reads {pins : List (Addr × Obj)} {σ : L2.St} {H : Hp} {s : Shared} (I : Inv X pins σ H s) {x : V} {v : Value} {d : PyData} (h : Rp H x d) (r : RelV x v) : ∃ as, Reads s.heap v d as := Dp.reads I d x v (rp_dp h) r
theorem rps_reads {pins : List (Addr × Obj)} {σ : L2.St} {H : Hp} {s : Shared} (I : Inv X pins σ H s) {xs : List V} {vs : List Value} {ds : List PyData} (h : Rps H xs ds) (r : Vals xs vs) : ∃ as, ReadsAll s.heap vs ds as := Dp.readsAll I ds xs vs (rps_dp h) r
def rData2 (c : PyData → PyData → Prop) (g : PyData → PyData → Bool) : R2 := fun x y H Q => ∃ d e, Rp H x d ∧ Rp H y e ∧ c d e ∧ Q (.bl (g d e)) H
abbrev cEq (d e : PyData) : Prop := min d.depth e.depth ≤ 60
theorem op_eqP (hu : X.A.units + 64 < cLine) : OpR X (compareOp .Eq) (rData2 cEq PyData.eqv) := by
  intro pins s σ H x y v u Q I rx ry h
  obtain ⟨d, e, hd, he, c, q⟩ := h
  obtain ⟨as, r1⟩ := rp_reads I hd rx
  obtain ⟨bs, r2⟩ := rp_reads I he ry
  exact PySem.SeqAt.eq_plain r1 r2 (rp_plain hd) (rp_plain he) (by simp only [cEq] at c; omega) ⟨.bl _, H, I, rfl, q⟩
theorem op_neP (hu : X.A.units + 64 < cLine) : OpR X (compareOp .NotEq) (rData2 cEq fun d e => !PyData.eqv d e) := by
  intro pins s σ H x y v u Q I rx ry h
  obtain ⟨d, e, hd, he, c, q⟩ := h
  obtain ⟨as, r1⟩ := rp_reads I hd rx
  obtain ⟨bs, r2⟩ := rp_reads I he ry
  exact PySem.SeqAt.ne_plain r1 r2 (rp_plain hd) (rp_plain he) (by simp only [cEq] at c; omega) ⟨.bl _, H, I, rfl, q⟩
abbrev cLt (d e : PyData) : Prop := PySem.W.alike d e = true ∧ d ≠ .none ∧ min d.depth e.depth ≤ 60
theorem op_ltP (hu : X.A.units + 64 < cLine) : OpR X (compareOp .Lt) (rData2 cLt PySem.W.dataLt) := by
  intro pins s σ H x y v u Q I rx ry h
  obtain ⟨d, e, hd, he, ⟨c1, c2, c3⟩, q⟩ := h
  obtain ⟨as, r1⟩ := rp_reads I hd rx
  obtain ⟨bs, r2⟩ := rp_reads I he ry
  exact PySem.W.lt_data r1 r2 c1 c2 (by omega) ⟨.bl _, H, I, rfl, q⟩
theorem op_gtP (hu : X.A.units + 64 < cLine) : OpR X (compareOp .Gt) (rData2 cLt fun d e => PySem.W.dataLt e d) := by
  intro pins s σ H x y v u Q I rx ry h
  obtain ⟨d, e, hd, he, ⟨c1, c2, c3⟩, q⟩ := h
  obtain ⟨as, r1⟩ := rp_reads I hd rx
  obtain ⟨bs, r2⟩ := rp_reads I he ry
  exact PySem.W.gt_data r1 r2 c1 c2 (by omega) ⟨.bl _, H, I, rfl, q⟩
theorem op_leP (hu : X.A.units + 64 < cLine) : OpR X (compareOp .LtE) (rData2 cLt fun d e => !PySem.W.dataLt e d) := by
  intro pins s σ H x y v u Q I rx ry h
  obtain ⟨d, e, hd, he, ⟨c1, c2, c3⟩, q⟩ := h
  obtain ⟨as, r1⟩ := rp_reads I hd rx
  obtain ⟨bs, r2⟩ := rp_reads I he ry
  exact PySem.W.le_data r1 r2 c1 c2 (by omega) ⟨.bl _, H, I, rfl, q⟩
theorem op_geP (hu : X.A.units + 64 < cLine) : OpR X (compareOp .GtE) (rData2 cLt fun d e => !PySem.W.dataLt d e) := by
  intro pins s σ H x y v u Q I rx ry h
  obtain ⟨d, e, hd, he, ⟨c1, c2, c3⟩, q⟩ := h
  obtain ⟨as, r1⟩ := rp_reads I hd rx
  obtain ⟨bs, r2⟩ := rp_reads I he ry
  exact PySem.W.ge_data r1 r2 c1 c2 (by omega) ⟨.bl _, H, I, rfl, q⟩
/-- x in xs -/
def memD (d : PyData) (xs : List PyData) : Bool := xs.any fun z => PyData.eqv z d
def rInP (neg : Bool) : R2 := fun x y H Q => ∃ d xs, Rp H x d ∧ (Rp H y (.list xs) ∨ Rp H y (.tuple xs)) ∧ min (PyData.depthAll xs) d.depth ≤ 60 ∧ Q (.bl (if neg then !memD d xs else memD d xs)) H
theorem op_inP (hu : X.A.units + 64 < cLine) : OpR X (compareOp .In) (rInP false) := by
  intro pins s σ H x y v u Q I rx ry h
  obtain ⟨d, xs, hd, he, c, q⟩ := h
  obtain ⟨as, r1⟩ := rp_reads I hd rx
  rcases he with he | he
  · obtain ⟨bs, r2⟩ := rp_reads I he ry
    have p := rp_plain he
    simp only [PyData.plain] at p
    exact PySem.SeqAt.in_list_data r2 r1 p (rp_plain hd) (by omega) ⟨.bl _, H, I, rfl, q⟩
  · obtain ⟨bs, r2⟩ := rp_reads I he ry
    have p := rp_plain he
    simp only [PyData.plain] at p
    exact PySem.SeqAt.in_tuple_data r2 r1 p (rp_plain hd) (by omega) ⟨.bl _, H, I, rfl, q⟩
theorem op_notinP (hu : X.A.units + 64 < cLine) : OpR X (compareOp .NotIn) (rInP true) := by
  intro pins s σ H x y v u Q I rx ry h
  obtain ⟨d, xs, hd, he, c, q⟩ := h
  obtain ⟨as, r1⟩ := rp_reads I hd rx
  rcases he with he | he
  · obtain ⟨bs, r2⟩ := rp_reads I he ry
    have p := rp_plain he
    simp only [PyData.plain] at p
    exact PySem.SeqAt.notIn_list_data r2 r1 p (rp_plain hd) (by omega) ⟨.bl _, H, I, rfl, q⟩
  · obtain ⟨bs, r2⟩ := rp_reads I he ry
    have p := rp_plain he
    simp only [PyData.plain] at p
    exact PySem.SeqAt.notIn_tuple_data r2 r1 p (rp_plain hd) (by omega) ⟨.bl _, H, I, rfl, q⟩
/-- isinstance -/
inductive Ty where | int | bool | tuple | str | list
  deriving DecidableEq
@[reducible] def Ty.nm : Ty → String
  | .int => "int" | .bool => "bool" | .tuple => "tuple" | .str => "str" | .list => "list"
def isaT : Ty → PyData → Bool
  | .int, .int _ => true
  | .int, .bool _ => true
  | .bool, .bool _ => true
  | .tuple, .tuple _ => true
  | .str, .str _ => true
  | .list, .list _ => true
  | _, _ => false
theorem call_isiP (T : Ty) : CallR X (.builtin "isinstance") (fun xs H Q => ∃ x d, xs = [x, .ty T.nm] ∧ Rp H x d ∧ Q (.bl (isaT T d)) H) := by
  intro pins s σ H xs us Q I r h
  obtain ⟨x, d, rfl, hd, q⟩ := h
  obtain ⟨u, w', rfl, r1, r2⟩ := vals2 r
  cases r2
  obtain ⟨as, rr⟩ := rp_reads I hd r1
  cases T with
  | int =>
    have e : d.isInt = isaT .int d := by cases d <;> rfl
    exact PySem.W.isinstance_int_data rr fun tk _ => ⟨.bl _, H, I.tok tk, rfl, by rw [e]; exact q⟩
  | bool =>
    have e : d.isBool = isaT .bool d := by cases d <;> rfl
    exact PySem.W.isinstance_bool_data rr fun tk _ => ⟨.bl _, H, I.tok tk, rfl, by rw [e]; exact q⟩
  | tuple =>
    have e : d.isTuple = isaT .tuple d := by cases d <;> rfl
    exact PySem.W.isinstance_tuple_data rr fun tk _ => ⟨.bl _, H, I.tok tk, rfl, by rw [e]; exact q⟩
  | str =>
    have e : d.isStr = isaT .str d := by cases d <;> rfl
    exact PySem.W.isinstance_str_data rr fun tk _ => ⟨.bl _, H, I.tok tk, rfl, by rw [e]; exact q⟩
  | list =>
    have e : d.isList = isaT .list d := by cases d <;> rfl
    exact PySem.W.isinstance_list_data rr fun tk _ => ⟨.bl _, H, I.tok tk, rfl, by rw [e]; exact q⟩
/-- sorted(list of alike data) -/
theorem each_of : ∀ {vs : List V} {us : List Value} {ds : List PyData} {H : Hp} {F : Hp}, Vals vs us → Rps F vs ds → PySem.W.EachIs (fun u d => ∃ v, RelV v u ∧ Rp F v d) us ds
  | [], _, _, _, _, r, h => by cases r; cases h; exact .nil
  | _ :: _, _, _, H, _, r, h => by
    cases r with
    | cons r1 r2 =>
      cases h with
      | cons a b => exact .cons ⟨_, r1, a⟩ (each_of (H := H) r2 b)
theorem each_back : ∀ {us : List Value} {ds : List PyData} {F : Hp}, PySem.W.EachIs (fun u d => ∃ v, RelV v u ∧ Rp F v d) us ds → ∃ vs, Vals vs us ∧ Rps F vs ds
  | [], _, _, h => by cases h; exact ⟨[], .nil, .nil⟩
  | _ :: _, _, _, h => by
    cases h with
    | cons a b =>
      obtain ⟨v, r, p⟩ := a
      obtain ⟨vs, r2, p2⟩ := each_back b
      exact ⟨v :: vs, .cons r r2, .cons p p2⟩
end
end Q
namespace Q
open PySem PySem.Spec PyProof.Rows L2

/-! ### the operators over pure values -/
inductive Op2 where
  | add | addO | sub | mul | mod | fdiv | band | bxor | eq | ne | lt | le | gt | ge | isin | notin | ix
  deriving DecidableEq
inductive Op1 where
  | neg | inv
  deriving DecidableEq
/-- what a two-place operator gives -/
def p2 : Op2 → D → D → (D → Prop) → Prop
  | .add, .d (.int i), .d (.int j), Q => Q (.d (.int (i + j)))
  | .add, .d (.tuple xs), .d (.tuple ys), Q => xs.length + ys.length ≤ 1000000 ∧ Q (.d (.tuple (xs ++ ys)))
  | .add, .d (.list xs), .d (.list ys), Q => xs.length + ys.length ≤ 1000000 ∧ Q (.d (.list (xs ++ ys)))
  | .add, .d (.str s), .d (.str t), Q => s.length + t.length ≤ 1000000 ∧ Q (.d (.str (s ++ t)))
  | .addO, .d (.list xs), .d (.list ys), Q => xs.length + ys.length ≤ 1000000 ∧ Q (.own false (xs ++ ys))
  | .sub, .d (.int i), .d (.int j), Q => Q (.d (.int (i - j)))
  | .mul, .d (.int i), .d (.int j), Q => CMul i j ∧ Q (.d (.int (i * j)))
  | .mul, .d (.tuple xs), .d (.int k), Q => xs ≠ [] ∧ 2 ≤ k ∧ k ≤ 1000 ∧ xs.length ≤ 1000 ∧ Q (.d (.tuple (List.replicate k.toNat xs).flatten))
  | .mul, .d (.list xs), .d (.int k), Q => 0 ≤ k ∧ k ≤ 1000 ∧ xs.length ≤ 1000 ∧ Q (.d (.list (List.replicate k.toNat xs).flatten))
  | .mod, .d (.int i), .d (.int j), Q => 0 < j ∧ Q (.d (.int (i % j)))
  | .fdiv, .d (.int i), .d (.int j), Q => (0 < j ∧ j < 1073741824) ∧ Q (.d (.int (i / j)))
  | .band, .d (.int i), .d (.int j), Q => Q (.d (.int (Builtin.bitAnd i j)))
  | .bxor, .d (.int i), .d (.int j), Q => Q (.d (.int (Builtin.bitXor i j)))
  | .eq, .d x, .d y, Q => cEq x y ∧ Q (.d (.bool (PyData.eqv x y)))
  | .ne, .d x, .d y, Q => cEq x y ∧ Q (.d (.bool (!PyData.eqv x y)))
  | .eq, .fd xs, .own true [], Q => Q (.d (.bool xs.isEmpty))
  | .ne, .fd xs, .own true [], Q => Q (.d (.bool (!xs.isEmpty)))
  | .lt, .d (.int i), .d (.int j), Q => Q (.d (.bool (decide (i < j))))
  | .le, .d (.int i), .d (.int j), Q => Q (.d (.bool (decide (i ≤ j))))
  | .gt, .d (.int i), .d (.int j), Q => Q (.d (.bool (decide (j < i))))
  | .ge, .d (.int i), .d (.int j), Q => Q (.d (.bool (decide (j ≤ i))))
  | .lt, .d x, .d y, Q => cLt x y ∧ Q (.d (.bool (PySem.W.dataLt x y)))
  | .isin, .d x, .d (.list xs), Q => min (PyData.depthAll xs) x.depth ≤ 60 ∧ Q (.d (.bool (memD x xs)))
  | .isin, .d x, .d (.tuple xs), Q => min (PyData.depthAll xs) x.depth ≤ 60 ∧ Q (.d (.bool (memD x xs)))
  | .notin, .d x, .d (.list xs), Q => min (PyData.depthAll xs) x.depth ≤ 60 ∧ Q (.d (.bool (!memD x xs)))
  | .notin, .d x, .d (.tuple xs), Q => min (PyData.depthAll xs) x.depth ≤ 60 ∧ Q (.d (.bool (!memD x xs)))
  | .ix, .d (.list xs), .d (.int i), Q => ∃ x, atI xs i = some x ∧ Q (.d x)
  | .ix, .d (.tuple xs), .d (.int i), Q => ∃ x, atI xs i = some x ∧ Q (.d x)
  | _, _, _, _ => False
def p1 : Op1 → D → (D → Prop) → Prop
  | .neg, .d (.int i), Q => Q (.d (.int (-i)))
  | .inv, .d (.int i), Q => Q (.d (.int (Builtin.bitNot i)))
  | _, _, _ => False
/-- truth -/
def pTru : D → (Bool → Prop) → Prop
  | .d .none, Q => Q false
  | .d (.bool b), Q => Q b
  | .d (.int i), Q => Q (i != 0)
  | .d (.list xs), Q => Q (!xs.isEmpty)
  | .d (.tuple xs), Q => Q (!xs.isEmpty)
  | _, _ => False

section
variable {Ω : Type} {W : Ω → Hp → Prop} {X : Cx}
/-- a value-level rule serves a pure operator -/
def Lift2 (W : Ω → Hp → Prop) (r : R2) (p : D → D → (D → Prop) → Prop) : Prop :=
  ∀ (x y : V) (a b : D) (H0 H F M : Hp) (ω : Ω) (Qc : D → Prop) (Q : VK), Hw W ω F M H → RD H0 F M H x a → RD H0 F M H y b → p a b Qc →
    (∀ d v H' F' M', Qc d → Hw W ω F' M' H' → Ex H F M H' F' M' → RD H F' M' H' v d → Q v H') → r x y H Q
theorem big_ok {n : Nat} (h : n ≤ 1000000) : n ≤ sizeLine := by rw [sizeLine_eq]; omega
theorem fin0 {ω : Ω} {F M H H0 : Hp} {Qc : D → Prop} {Q : VK} (hw : Hw W ω F M H) (k : ∀ d v H' F' M', Qc d → Hw W ω F' M' H' → Ex H F M H' F' M' → RD H F' M' H' v d → Q v H') {x : PyData} {v : V} (q : Qc (.d x)) (r : Rp F v x) : Q v H :=
  k _ _ _ _ _ q hw (Ex.refl H F M) r
theorem finT {ω : Ω} {F M H : Hp} {Qc : D → Prop} {Q : VK} (hw : Hw W ω F M H) (k : ∀ d v H' F' M', Qc d → Hw W ω F' M' H' → Ex H F M H' F' M' → RD H F' M' H' v d → Q v H') {xs : List PyData} {vs : List V} {p : Addr} (n : H p = none) (q : Qc (.d (.tuple xs))) (l : xs.length ≤ 1000000) (r : Rps F vs xs) : Q (.ref p) (upd H p (.tup vs)) := by
  obtain ⟨h1, h2⟩ := alloc (o := .tup vs) hw n
  exact k _ _ _ _ _ q h1 h2 (Rp.tup upd_same (by rw [rps_len r]; exact l) (rps_sub h2.f0 r))
theorem finL {ω : Ω} {F M H : Hp} {Qc : D → Prop} {Q : VK} (hw : Hw W ω F M H) (k : ∀ d v H' F' M', Qc d → Hw W ω F' M' H' → Ex H F M H' F' M' → RD H F' M' H' v d → Q v H') {xs : List PyData} {vs : List V} {p : Addr} (n : H p = none) (q : Qc (.d (.list xs))) (l : xs.length ≤ 1000000) (r : Rps F vs xs) : Q (.ref p) (upd H p (.lst vs)) := by
  obtain ⟨h1, h2⟩ := alloc (o := .lst vs) hw n
  exact k _ _ _ _ _ q h1 h2 (Rp.lst upd_same (by rw [rps_len r]; exact l) (rps_sub h2.f0 r))
theorem finO {ω : Ω} {F M H : Hp} {Qc : D → Prop} {Q : VK} (hw : Hw W ω F M H) (k : ∀ d v H' F' M', Qc d → Hw W ω F' M' H' → Ex H F M H' F' M' → RD H F' M' H' v d → Q v H') {xs : List PyData} {vs : List V} {p : Addr} (n : H p = none) (q : Qc (.own false xs)) (l : xs.length ≤ 1000000) (r : Rps F vs xs) : Q (.ref p) (upd H p (.lst vs)) := by
  obtain ⟨h1, h2, f, m⟩ := allocO (o := .lst vs) hw n
  exact k _ _ _ _ _ q h1 h2 ⟨p, vs, _, rfl, Fr.none n, f, m, upd_same, rfl, by rw [rps_len r]; exact l, r⟩
theorem rp_int {F : Hp} {v : V} {i : Int} (h : Rp F v (.int i)) : v = .int i := by cases h; rfl
theorem rp_str {F : Hp} {v : V} {i : Str} (h : Rp F v (.str i)) : v = .str i := by cases h; rfl
theorem rp_bl {F : Hp} {v : V} {i : Bool} (h : Rp F v (.bool i)) : v = .bl i := by cases h; rfl
theorem rp_tup {F : Hp} {v : V} {xs : List PyData} (h : Rp F v (.tuple xs)) : ∃ a vs, v = .ref a ∧ F a = some (.tup vs) ∧ xs.length ≤ 1000000 ∧ Rps F vs xs := by cases h with | tup a l b => exact ⟨_, _, rfl, a, by rw [← rps_len b]; exact l, b⟩
theorem rp_lst {F : Hp} {v : V} {xs : List PyData} (h : Rp F v (.list xs)) : ∃ a vs, v = .ref a ∧ F a = some (.lst vs) ∧ xs.length ≤ 1000000 ∧ Rps F vs xs := by cases h with | lst a l b => exact ⟨_, _, rfl, a, by rw [← rps_len b]; exact l, b⟩
theorem rps_nil {F : Hp} {vs : List V} {xs : List PyData} (h : Rps F vs xs) : vs = [] ↔ xs = [] := by cases h <;> simp
theorem rps_rep {F : Hp} {vs : List V} {xs : List PyData} (h : Rps F vs xs) : ∀ k : Nat, Rps F (List.replicate k vs).flatten (List.replicate k xs).flatten
  | 0 => .nil
  | k + 1 => by rw [List.replicate_succ, List.replicate_succ, List.flatten_cons, List.flatten_cons]; exact rps_app h (rps_rep h k)
def rAddAll (K : PySem.W.Frag) : R2 := fun x y H Q => rI0 (fun i j => .int (i + j)) x y H Q ∨ (rCatA K x y H Q ∨ (rCat x y H Q ∨ (∃ i j, x = .str i ∧ y = .str j ∧ i.length + j.length ≤ sizeLine ∧ Q (.str (i ++ j)) H)))
theorem op_addAll : OpR X (binaryOp .Add) (rAddAll X.K) := op_add.or (op_catA.or (op_cat.or op_add_str))
theorem lift_add (K : PySem.W.Frag) : Lift2 W (rAddAll K) (p2 .add) := by
  intro x y a b H0 H F M ω Qc Q hw ra rb h k
  unfold p2 at h
  split at h <;> try first | exact h.elim | contradiction
  all_goals rename_i e; try cases e
  · cases rp_int ra; cases rp_int rb
    exact .inl ⟨_, _, rfl, rfl, fin0 (H0 := H0) hw k h (.int _)⟩
  · obtain ⟨hl, q⟩ := h
    obtain ⟨a, vs, rfl, fa, la, pa⟩ := rp_tup ra
    obtain ⟨b, us, rfl, fb, lb, pb⟩ := rp_tup rb
    refine .inr (.inl ⟨a, b, vs, us, rfl, rfl, SqT.of (hw.fh _ _ fa), SqT.of (hw.fh _ _ fb), by rw [rps_len pa, rps_len pb]; exact big_ok hl, fun e => ?_, fun e1 e2 => ?_, fun _ _ p n => finT hw k n q (by rw [List.length_append]; exact hl) (rps_app pa pb)⟩)
    · rw [(rps_nil pa).mp e, List.nil_append] at q
      exact fin0 (H0 := H0) hw k q (.tup fb (by rw [rps_len pb]; exact lb) pb)
    · rw [(rps_nil pb).mp e2, List.append_nil] at q
      exact fin0 (H0 := H0) hw k q (.tup fa (by rw [rps_len pa]; exact la) pa)
  · obtain ⟨hl, q⟩ := h
    obtain ⟨a, vs, rfl, fa, la, pa⟩ := rp_lst ra
    obtain ⟨b, us, rfl, fb, lb, pb⟩ := rp_lst rb
    exact .inr (.inr (.inl ⟨a, b, vs, us, rfl, rfl, hw.fh _ _ fa, hw.fh _ _ fb, by rw [rps_len pa, rps_len pb]; exact big_ok hl, fun p n => finL hw k n q (by rw [List.length_append]; exact hl) (rps_app pa pb)⟩))
  · obtain ⟨hl, q⟩ := h
    cases rp_str ra; cases rp_str rb
    exact .inr (.inr (.inr ⟨_, _, rfl, rfl, big_ok hl, fin0 (H0 := H0) hw k q (.str _)⟩))
end
end Q
namespace Q
open PySem PySem.Spec PyProof.Rows L2
section
variable {Ω : Type} {W : Ω → Hp → Prop} {X : Cx}
theorem lift_addO (K : PySem.W.Frag) : Lift2 W (rAddAll K) (p2 .addO) := by
  intro x y a b H0 H F M ω Qc Q hw ra rb h k
  unfold p2 at h
  split at h <;> try first | exact h.elim | contradiction
  all_goals rename_i e; try cases e
  obtain ⟨hl, q⟩ := h
  obtain ⟨a, vs, rfl, fa, la, pa⟩ := rp_lst ra
  obtain ⟨b, us, rfl, fb, lb, pb⟩ := rp_lst rb
  exact .inr (.inr (.inl ⟨a, b, vs, us, rfl, rfl, hw.fh _ _ fa, hw.fh _ _ fb, by rw [rps_len pa, rps_len pb]; exact big_ok hl, fun p n => finO hw k n q (by rw [List.length_append]; exact hl) (rps_app pa pb)⟩))
theorem lift_sub : Lift2 W (rI0 fun i j => .int (i - j)) (p2 .sub) := by
  intro x y a b H0 H F M ω Qc Q hw ra rb h k
  unfold p2 at h
  split at h <;> try first | exact h.elim | contradiction
  all_goals rename_i e; try cases e
  cases rp_int ra; cases rp_int rb
  exact ⟨_, _, rfl, rfl, fin0 (H0 := H0) hw k h (.int _)⟩
theorem lift_band : Lift2 W (rI0 fun i j => .int (Builtin.bitAnd i j)) (p2 .band) := by
  intro x y a b H0 H F M ω Qc Q hw ra rb h k
  unfold p2 at h
  split at h <;> try first | exact h.elim | contradiction
  all_goals rename_i e; try cases e
  cases rp_int ra; cases rp_int rb
  exact ⟨_, _, rfl, rfl, fin0 (H0 := H0) hw k h (.int _)⟩
theorem lift_bxor : Lift2 W (rI0 fun i j => .int (Builtin.bitXor i j)) (p2 .bxor) := by
  intro x y a b H0 H F M ω Qc Q hw ra rb h k
  unfold p2 at h
  split at h <;> try first | exact h.elim | contradiction
  all_goals rename_i e; try cases e
  cases rp_int ra; cases rp_int rb
  exact ⟨_, _, rfl, rfl, fin0 (H0 := H0) hw k h (.int _)⟩
theorem lift_mod : Lift2 W (rI (fun _ j => 0 < j) fun i j => .int (i % j)) (p2 .mod) := by
  intro x y a b H0 H F M ω Qc Q hw ra rb h k
  unfold p2 at h
  split at h <;> try first | exact h.elim | contradiction
  all_goals rename_i e; try cases e
  cases rp_int ra; cases rp_int rb
  exact ⟨_, _, rfl, rfl, h.1, fin0 (H0 := H0) hw k h.2 (.int _)⟩
theorem lift_fdiv : Lift2 W (rI CDiv fun i j => .int (i / j)) (p2 .fdiv) := by
  intro x y a b H0 H F M ω Qc Q hw ra rb h k
  unfold p2 at h
  split at h <;> try first | exact h.elim | contradiction
  all_goals rename_i e; try cases e
  cases rp_int ra; cases rp_int rb
  exact ⟨_, _, rfl, rfl, h.1, fin0 (H0 := H0) hw k h.2 (.int _)⟩
theorem rep_len {xs : List PyData} {k : Nat} (h : xs.length ≤ 1000) (hk : k ≤ 1000) : (List.replicate k xs).flatten.length ≤ 1000000 := by
  rw [List.length_flatten, List.map_replicate, List.sum_replicate_nat]
  exact Nat.mul_le_mul hk h
def rMulAll (K : PySem.W.Frag) : R2 := fun x y H Q => rI CMul (fun i j => .int (i * j)) x y H Q ∨ (rRepT K x y H Q ∨ rRep x y H Q)
theorem op_mulAll : OpR X (binaryOp .Mult) (rMulAll X.K) := op_mul.or (op_repT.or op_rep)
theorem lift_mul (K : PySem.W.Frag) : Lift2 W (rMulAll K) (p2 .mul) := by
  intro x y a b H0 H F M ω Qc Q hw ra rb h k
  unfold p2 at h
  split at h <;> try first | exact h.elim | contradiction
  all_goals rename_i e; try cases e
  · cases rp_int ra; cases rp_int rb
    exact .inl ⟨_, _, rfl, rfl, h.1, fin0 (H0 := H0) hw k h.2 (.int _)⟩
  · obtain ⟨h1, h2, h3, h4, q⟩ := h
    obtain ⟨a, vs, rfl, fa, la, pa⟩ := rp_tup ra
    cases rp_int rb
    exact .inr (.inl ⟨a, _, vs, rfl, rfl, SqT.of (hw.fh _ _ fa), fun z => h1 ((rps_nil pa).mp z), h2, h3, by rw [rps_len pa]; exact h4, fun p n => finT hw k n q (rep_len h4 (by omega)) (rps_rep pa _)⟩)
  · obtain ⟨h1, h3, h4, q⟩ := h
    obtain ⟨a, vs, rfl, fa, la, pa⟩ := rp_lst ra
    cases rp_int rb
    rename_i xs kk
    refine .inr (.inr ⟨a, _, vs, rfl, rfl, hw.fh _ _ fa, by omega, by omega, ?_, fun p n => finL hw k n q (rep_len h4 (by omega)) (rps_rep pa _)⟩)
    rw [rps_len pa, sizeLine_eq]
    have z : kk.toNat ≤ 1000 := by omega
    calc xs.length * kk.toNat ≤ 1000 * 1000 := Nat.mul_le_mul h4 z
      _ ≤ 16777216 := by decide
theorem lift_data {op : Op2} {c : PyData → PyData → Prop} {g : PyData → PyData → Bool} (hp : ∀ a b Q, p2 op a b Q → ∃ x y, a = .d x ∧ b = .d y ∧ c x y ∧ Q (.d (.bool (g x y)))) : Lift2 W (rData2 c g) (p2 op) := by
  intro x y a b H0 H F M ω Qc Q hw ra rb h k
  obtain ⟨d, e, rfl, rfl, hc, q⟩ := hp a b _ h
  exact ⟨d, e, rp_sub hw.fh ra, rp_sub hw.fh rb, hc, fin0 (H0 := H0) hw k q (.bl _)⟩
theorem lift_eq : Lift2 W (fun x y H Q => rData2 cEq PyData.eqv x y H Q ∨ QD.rE false x y H Q) (p2 .eq) := by
  intro x y a b H0 H F M ω Qc Q hw ra rb h k
  unfold p2 at h
  split at h <;> try first | exact h.elim | contradiction
  all_goals rename_i e; try cases e
  · exact .inl ⟨_, _, rp_sub hw.fh ra, rp_sub hw.fh rb, h.1, fin0 (H0 := H0) hw k h.2 (.bl _)⟩
  · obtain ⟨p, vs, ob, rfl, fp, ⟨o, ks, rfl, hs, D, ev, exs⟩, _, _⟩ := ra
    obtain ⟨p', vs', ob', rfl, _, _, _, hp', ⟨o', ks', rfl, hs', D', ev', exs'⟩, _⟩ := rb
    have e0 : ks' = [] := List.map_eq_nil_iff.mp exs'.symm
    subst e0 exs
    rw [List.isEmpty_map] at h
    exact .inr ⟨p, p', o, o', ks, rfl, rfl, hw.fh _ _ fp, hp', hs, hs', D, D', fin0 (H0 := H0) hw k h (.bl _)⟩
theorem lift_ne : Lift2 W (fun x y H Q => rData2 cEq (fun d e => !PyData.eqv d e) x y H Q ∨ QD.rE true x y H Q) (p2 .ne) := by
  intro x y a b H0 H F M ω Qc Q hw ra rb h k
  unfold p2 at h
  split at h <;> try first | exact h.elim | contradiction
  all_goals rename_i e; try cases e
  · exact .inl ⟨_, _, rp_sub hw.fh ra, rp_sub hw.fh rb, h.1, fin0 (H0 := H0) hw k h.2 (.bl _)⟩
  · obtain ⟨p, vs, ob, rfl, fp, ⟨o, ks, rfl, hs, D, ev, exs⟩, _, _⟩ := ra
    obtain ⟨p', vs', ob', rfl, _, _, _, hp', ⟨o', ks', rfl, hs', D', ev', exs'⟩, _⟩ := rb
    have e0 : ks' = [] := List.map_eq_nil_iff.mp exs'.symm
    subst e0 exs
    rw [List.isEmpty_map] at h
    exact .inr ⟨p, p', o, o', ks, rfl, rfl, hw.fh _ _ fp, hp', hs, hs', D, D', fin0 (H0 := H0) hw k h (.bl _)⟩
theorem cLt_int (i j : Int) : cLt (.int i) (.int j) := ⟨by simp [PySem.W.alike], by simp, by simp [PyData.depth]⟩
theorem lift_lt : Lift2 W (rData2 cLt PySem.W.dataLt) (p2 .lt) := lift_data fun a b Q h => by
  unfold p2 at h
  split at h <;> try first | exact h.elim | contradiction
  all_goals rename_i e; try cases e
  · exact ⟨_, _, rfl, rfl, cLt_int _ _, by rw [PySem.W.dataLt_int]; exact h⟩
  · exact ⟨_, _, rfl, rfl, h⟩
theorem lift_gt : Lift2 W (rData2 cLt fun d e => PySem.W.dataLt e d) (p2 .gt) := lift_data fun a b Q h => by
  unfold p2 at h
  split at h <;> try first | exact h.elim | contradiction
  all_goals rename_i e; try cases e
  exact ⟨_, _, rfl, rfl, cLt_int _ _, by rw [PySem.W.dataLt_int]; exact h⟩
theorem lift_le : Lift2 W (rData2 cLt fun d e => !PySem.W.dataLt e d) (p2 .le) := lift_data fun a b Q h => by
  unfold p2 at h
  split at h <;> try first | exact h.elim | contradiction
  all_goals rename_i e; try cases e
  refine ⟨_, _, rfl, rfl, cLt_int _ _, ?_⟩
  rw [PySem.W.dataLt_int, PySem.W.cmp_not_lt]; exact h
theorem lift_ge : Lift2 W (rData2 cLt fun d e => !PySem.W.dataLt d e) (p2 .ge) := lift_data fun a b Q h => by
  unfold p2 at h
  split at h <;> try first | exact h.elim | contradiction
  all_goals rename_i e; try cases e
  refine ⟨_, _, rfl, rfl, cLt_int _ _, ?_⟩
  rw [PySem.W.dataLt_int, PySem.W.cmp_not_lt]; exact h
theorem lift_in : Lift2 W (rInP false) (p2 .isin) := by
  intro x y a b H0 H F M ω Qc Q hw ra rb h k
  unfold p2 at h
  split at h <;> try first | exact h.elim | contradiction
  all_goals rename_i e; try cases e
  · exact ⟨_, _, rp_sub hw.fh ra, .inl (rp_sub hw.fh rb), h.1, fin0 (H0 := H0) hw k h.2 (.bl _)⟩
  · exact ⟨_, _, rp_sub hw.fh ra, .inr (rp_sub hw.fh rb), h.1, fin0 (H0 := H0) hw k h.2 (.bl _)⟩
theorem lift_notin : Lift2 W (rInP true) (p2 .notin) := by
  intro x y a b H0 H F M ω Qc Q hw ra rb h k
  unfold p2 at h
  split at h <;> try first | exact h.elim | contradiction
  all_goals rename_i e; try cases e
  · exact ⟨_, _, rp_sub hw.fh ra, .inl (rp_sub hw.fh rb), h.1, fin0 (H0 := H0) hw k h.2 (.bl _)⟩
  · exact ⟨_, _, rp_sub hw.fh ra, .inr (rp_sub hw.fh rb), h.1, fin0 (H0 := H0) hw k h.2 (.bl _)⟩
theorem rps_at {F : Hp} {vs : List V} {xs : List PyData} {i : Int} {x : PyData} (r : Rps F vs xs) (h : atI xs i = some x) : ∃ v, atI vs i = some v ∧ Rp F v x := by
  unfold atI at h ⊢
  rw [rps_len r]
  cases e : ixN xs.length i with
  | none => rw [e] at h; cases h
  | some j =>
    rw [e] at h
    exact rps_get r h
theorem lift_ix (K : PySem.W.Frag) : Lift2 W (rIx K) (p2 .ix) := by
  intro x y a b H0 H F M ω Qc Q hw ra rb h k
  unfold p2 at h
  split at h <;> try first | exact h.elim | contradiction
  all_goals rename_i e; try cases e
  · obtain ⟨z, hz, q⟩ := h
    obtain ⟨a, vs, rfl, fa, la, pa⟩ := rp_lst ra
    cases rp_int rb
    obtain ⟨v, hv, pv⟩ := rps_at pa hz
    exact .inl ⟨a, vs, _, v, rfl, rfl, SqL.of (hw.fh _ _ fa), hv, fin0 (H0 := H0) hw k q pv⟩
  · obtain ⟨z, hz, q⟩ := h
    obtain ⟨a, vs, rfl, fa, la, pa⟩ := rp_tup ra
    cases rp_int rb
    obtain ⟨v, hv, pv⟩ := rps_at pa hz
    exact .inr (.inl ⟨a, vs, _, v, rfl, rfl, SqT.of (hw.fh _ _ fa), hv, fin0 (H0 := H0) hw k q pv⟩)
/-! which operator of the language it is -/
@[reducible] def Op2.bin : Op2 → Option Operator
  | .add => some .Add | .addO => some .Add | .sub => some .Sub | .mul => some .Mult | .mod => some .Mod | .fdiv => some .FloorDiv | .band => some .BitAnd | .bxor => some .BitXor
  | _ => none
@[reducible] def Op2.cmp : Op2 → Option CmpOp
  | .eq => some .Eq | .ne => some .NotEq | .lt => some .Lt | .le => some .LtE | .gt => some .Gt | .ge => some .GtE | .isin => some .In | .notin => some .NotIn
  | _ => none
theorem op_bin (W : Ω → Hp → Prop) (X : Cx) : ∀ {o : Op2} {op : Operator}, o.bin = some op → ∃ r, OpR X (binaryOp op) r ∧ Lift2 W r (p2 o)
  | .add, _, e => by cases e; exact ⟨_, op_addAll, lift_add _⟩
  | .addO, _, e => by cases e; exact ⟨_, op_addAll, lift_addO _⟩
  | .sub, _, e => by cases e; exact ⟨_, op_sub, lift_sub⟩
  | .mul, _, e => by cases e; exact ⟨_, op_mulAll, lift_mul _⟩
  | .mod, _, e => by cases e; exact ⟨_, op_mod, lift_mod⟩
  | .fdiv, _, e => by cases e; exact ⟨_, op_fdiv, lift_fdiv⟩
  | .band, _, e => by cases e; exact ⟨_, op_and, lift_band⟩
  | .bxor, _, e => by cases e; exact ⟨_, op_xor, lift_bxor⟩
theorem op_cmp (W : Ω → Hp → Prop) (X : Cx) (hu : X.A.units + 64 < cLine) : ∀ {o : Op2} {op : CmpOp}, o.cmp = some op → ∃ r, OpR X (compareOp op) r ∧ Lift2 W r (p2 o)
  | .eq, _, e => by cases e; exact ⟨_, (op_eqP hu).or (QD.op_eqE hu), lift_eq⟩
  | .ne, _, e => by cases e; exact ⟨_, (op_neP hu).or (QD.op_neE hu), lift_ne⟩
  | .lt, _, e => by cases e; exact ⟨_, op_ltP hu, lift_lt⟩
  | .le, _, e => by cases e; exact ⟨_, op_leP hu, lift_le⟩
  | .gt, _, e => by cases e; exact ⟨_, op_gtP hu, lift_gt⟩
  | .ge, _, e => by cases e; exact ⟨_, op_geP hu, lift_ge⟩
  | .isin, _, e => by cases e; exact ⟨_, op_inP hu, lift_in⟩
  | .notin, _, e => by cases e; exact ⟨_, op_notinP hu, lift_notin⟩
end
end Q
/-! sorted() of a list of tuples of which some are empty -/
namespace PySem.W
open PySem PySem.Calls PyProof.Rows PySem.SeqAt
section
variable {prog : Program} {w : World} {A : Around} {E : Value → Shared → Prop} {s : Shared}
theorem callX_tuple_lt {Q : Value → Shared → Prop} {l b : Addr} {items items2 : Array Value} {e r : Nat → Bool} (hl : s.heap.IsTuple l items) (hb : s.heap.IsTuple b items2)
    (he : ∀ j (h1 : j < items.size) (h2 : j < items2.size), EqAt A.in1 s items[j] items2[j] (e j)) (hr : ∀ j (h1 : j < items.size) (h2 : j < items2.size), e j = false → RcLt A.in1 s items[j] items2[j] (r j))
    (h : Q (.bool (firstLt e r (decide (items.size < items2.size)) (List.range (min items.size items2.size)))) s) : wpAny (model prog w) A (call (.builtin "tuple.__lt__") [.ref l, .ref b]) Q E s := by
  obtain ⟨⟨cls, dd, data, sl⟩, ho, hc, n, hd⟩ := id hl
  obtain ⟨⟨cls2, dd2, data2, sl2⟩, ho2, hc2, n2, hd2⟩ := id hb
  simp only at hc hd hc2 hd2
  subst hc hd hc2 hd2
  exact call_meets F.slot_tuple_lt ⟨_, ho, rfl⟩ F.entry_tuple_lt (F.args_tuple_lt_2 _ _) (tuple_ltAt l b items items2 n n2 dd dd2 sl sl2 e r) ⟨ho, ho2, he, hr, h⟩
theorem oneLtX_tuple {xs ys : List PyData} {a b : Value} {as bs : List Addr} {Q : Bool → Shared → Prop} (ra : Reads s.heap a (.tuple xs) as) (rb : Reads s.heap b (.tuple ys) bs) (h : alike (.tuple xs) (.tuple ys) = true)
    (hu : A.units + min (PyData.tuple xs).depth (PyData.tuple ys).depth < cLine) (hq : Q (dataLt (.tuple xs) (.tuple ys)) s) : wpAny (model prog w) A (oneLt' true a b) Q E s := by
  have hal : alikeAll xs ys = true := by simpa [alike] using h
  cases ra with
  | @tuple l o vs n _ as₁ h1 h2 h3 h4 =>
    cases rb with
    | @tuple l' o' vs' n' _ bs₁ k1 k2 k3 k4 =>
      have n1 : vs.size = xs.length := by simpa using ReadsAll.length _ _ _ h4
      have n2 : vs'.size = ys.length := by simpa using ReadsAll.length _ _ _ k4
      rw [dataLt_tuple, ← firstLt_toks xs ys hal, ← n1, ← n2] at hq
      rw [oneLt'_eq]
      simp only [if_true]
      refine wpAny_bind (wpAny_cRoomFor (room_here hu) ?_)
      refine wpAny_bind (wpAny_callSpecialIfBound?_slot (T := "tuple") ⟨_, h1, h2⟩ F.slot_tuple_lt (callX_tuple_lt (e := pairEq xs ys) (r := fun j => dataLt (xs.getD j .none) (ys.getD j .none)) ⟨_, h1, h2, _, h3⟩ ⟨_, k1, k2, _, k3⟩ (fun j j1 j2 => ?_) (fun j j1 j2 hj => ?_) ?_))
      · have := eqAt_alikeAll xs ys A.in1 s vs.toList vs'.toList _ _ h4 k4 hal (room_in hu) j (by simpa using j1) (by simpa using j2)
        simpa using this
      · have := rcLt_alikeAll xs ys A.in1 s vs.toList vs'.toList _ _ h4 k4 hal (room_in hu) j (by simpa using j1) (by simpa using j2) hj
        simpa using this
      · exact wpAny_truthy_bool hq
end
section
variable {M : Model} {A : Around} {E : Value → Shared → Prop} {s : Shared}
/-- what stands first in each -/
theorem firstsX : ∀ (vs : List Value) (ds : List PyData) {Q : List (Option Value) → Shared → Prop}, EachIs (fun v d => ∃ as, Reads s.heap v d as) vs ds → (∀ d, d ∈ ds → ∃ l, d = .tuple l) →
    (∀ fs : List (Option Value), fs.length = vs.length → (∀ i : Nat, (∃ f, fs[i]? = some (some f)) ↔ ∃ x r, ds[i]? = some (PyData.tuple (x :: r))) → Q fs s) → wpAny M A (vs.mapM firstOfTuple') Q E s
  | _, _, Q, .nil, _, h => by rw [List.mapM_nil]; exact wpAny_pure (h [] rfl fun i => by simp)
  | v :: vs, d :: ds, Q, .cons ⟨as, r⟩ t, ht, h => by
    rw [List.mapM_cons]
    obtain ⟨l, rfl⟩ := ht d List.mem_cons_self
    cases r with
    | @tuple a o xs n _ _ ho hc hd hr =>
      refine wpAny_bind ?_
      rw [kas_first_eq]
      refine wpAny_bind (Looks.here (show Looks M s.heap (typeOf (.ref a)) o.cls from (Looks.ld ho).andThen .now) ?_)
      rw [hc, if_neg (by first | decide | simp)]
      refine wpAny_bind (listItems_at ho hd (wpAny_pure ?_))
      refine wpAny_bind (firstsX vs ds (Q := fun bs s' => wpAny M A (pure (xs[0]? :: bs)) Q E s') t (fun d hd => ht d (List.mem_cons_of_mem _ hd)) fun fs hl hf => wpAny_pure (h _ (by simp [hl]) fun i => ?_))
      cases i with
      | zero =>
        simp only [List.getElem?_cons_zero, Option.some.injEq]
        have e : xs[0]? = xs.toList[0]? := by rw [Array.getElem?_toList]
        rw [e]
        cases l with
        | nil => cases q : xs.toList with
          | nil => simp
          | cons f fr => rw [q] at hr; cases hr
        | cons y l => cases q : xs.toList with
          | nil => rw [q] at hr; cases hr
          | cons f fr => simp
      | succ i => simpa using hf i
theorem typesX {vs : List Value} {ds : List PyData} {Q : Option Value → Shared → Prop} (e : EachIs (fun v d => ∃ as, Reads s.heap v d as) vs ds) (ht : ∀ d, d ∈ ds → ∃ l, d = .tuple l) (hn : vs ≠ []) (h : Q (some (.type "tuple")) s) : wpAny M A (oneTypeOnly' vs.toArray) Q E s := by
  obtain ⟨v₁, rest, rfl⟩ : ∃ v₁ rest, vs = v₁ :: rest := by
    cases vs with
    | nil => exact absurd rfl hn
    | cons a b => exact ⟨a, b, rfl⟩
  rw [oneTypeOnly'_eq, List.mapM_toArray, map_eq_pure_bind]
  refine wpAny_bind (wpAny_bind (kas_mapM (r := Value.type "tuple") _ (fun v hv Q' hq => ?_) (wpAny_pure ?_)))
  · obtain ⟨d, hd, as, r⟩ := e.left v hv
    obtain ⟨l, rfl⟩ := ht d hd
    exact (looks_reads r).here hq
  · have hall : ((List.map (fun _ => Value.type "tuple") (v₁ :: rest)).toArray.all fun x => x == Value.type "tuple") = true := by
      simp only [List.all_toArray, List.all_map, List.all_eq_true]
      intro _ _
      rfl
    have h0 : (List.map (fun _ => Value.type "tuple") (v₁ :: rest)).toArray[0]? = some (Value.type "tuple") := by simp
    rw [h0]
    simp only [hall, if_true]
    exact wpAny_pure h
end
section
variable {prog : Program} {w : World} {A : Around} {E : Value → Shared → Prop} {s : Shared}
/-- all are tuples, or none is a tuple or None -/
def SortableX (ds : List PyData) : Prop := (∀ d, d ∈ ds → ∃ l, d = .tuple l) ∨ ∀ d, d ∈ ds → d ≠ .none ∧ ∀ xs, d ≠ .tuple xs
theorem SortsAt.dataX {vs : List Value} {ds : List PyData} (e : EachIs (fun v d => ∃ as, Reads s.heap v d as) vs ds) (hal : AllAlike ds) (hk : SortableX ds) (hu : ∀ d, d ∈ ds → A.units + d.depth < cLine) : SortsAt prog w A s (dataKind s.heap ds) vs := by
  rcases hk with ht | hn
  · by_cases hne : ∀ d, d ∈ ds → ∃ x r, d = .tuple (x :: r)
    · exact SortsAt.data e hal (.inl hne) hu
    have room : ∀ {d d' : PyData}, d ∈ ds → A.units + min d.depth d'.depth < cLine := fun {d d'} hd => Nat.lt_of_le_of_lt (Nat.add_le_add_left (Nat.min_le_left _ _) _) (hu d hd)
    have hemp : ∃ i : Nat, ds[i]? = some (.tuple []) := by
      obtain ⟨d, hd⟩ := Classical.not_forall.mp hne
      obtain ⟨hd, hx⟩ := Classical.not_imp.mp hd
      obtain ⟨l, rfl⟩ := ht d hd
      cases l with
      | nil => exact List.getElem?_of_mem hd
      | cons x r => exact absurd ⟨x, r, rfl⟩ hx
    refine ⟨fun v hv => ?_, ?_⟩
    · obtain ⟨d, hd, as, r⟩ := e.left v hv
      exact ⟨_, dataKind_some hal hd r⟩
    · by_cases h0 : ∃ x r, ds[0]? = some (.tuple (x :: r))
      · refine ⟨general', ?_, fun h2 E Q hq => ?_⟩
        · intro E x y a b Q ha hb hq
          obtain ⟨d, as, hd, ra, rfl⟩ := dataKind_inv ha
          obtain ⟨d', as', hd', rb, rfl⟩ := dataKind_inv hb
          obtain ⟨l, rfl⟩ := ht d hd
          show wpAny (model prog w) A (oneLt' false x y) Q E s
          exact oneLt_alike (fun z => by cases z) ra rb (hal _ hd _ hd') (by simp) (room hd) hq
        · rw [keyKind'_eq, List.mapM_toArray, map_eq_pure_bind]
          refine wpAny_bind (wpAny_bind (firstsX vs ds e ht fun fs hl hf => wpAny_pure ?_))
          have hna : (fs.toArray.all fun x => x.isSome) = false := by
            obtain ⟨i, hi⟩ := hemp
            rw [Bool.eq_false_iff]
            intro q
            simp only [List.all_toArray, List.all_eq_true] at q
            have hlt : i < fs.length := by rw [hl, e.length]; exact (List.getElem?_eq_some_iff.mp hi).1
            have z := q fs[i] (List.getElem_mem hlt)
            obtain ⟨f, hf'⟩ := Option.isSome_iff_exists.mp z
            obtain ⟨x, r, q2⟩ := (hf i).mp ⟨f, by rw [List.getElem?_eq_getElem hlt, hf']⟩
            rw [hi] at q2; cases q2
          rw [if_neg (by rw [hna]; simp)]
          obtain ⟨f, hf0⟩ := (hf 0).mpr h0
          rw [if_pos (by simp [hf0])]
          exact wpAny_pure hq
      · refine ⟨oneType', ?_, fun h2 E Q hq => ?_⟩
        · intro E x y a b Q ha hb hq
          obtain ⟨d, as, hd, ra, rfl⟩ := dataKind_inv ha
          obtain ⟨d', as', hd', rb, rfl⟩ := dataKind_inv hb
          obtain ⟨l, rfl⟩ := ht d hd
          obtain ⟨l', rfl⟩ := ht d' hd'
          rw [keyLt'_oneType]
          exact oneLtX_tuple ra rb (hal _ hd _ hd') (room hd) hq
        · rw [keyKind'_eq, List.mapM_toArray, map_eq_pure_bind]
          refine wpAny_bind (wpAny_bind (firstsX vs ds e ht fun fs hl hf => wpAny_pure ?_))
          have hn0 : ¬ ∃ f, fs[0]? = some (some f) := fun z => h0 ((hf 0).mp z)
          have hb0 : ((fs.toArray[0]?).bind id).isSome = false := by
            rw [Bool.eq_false_iff]
            intro z
            obtain ⟨f, hf'⟩ := Option.isSome_iff_exists.mp z
            cases q : fs[0]? with
            | none => simp [q] at hf'
            | some o =>
              cases o with
              | none => simp [q] at hf'
              | some f' => exact hn0 ⟨f', q⟩
          have hna : (fs.toArray.all fun x => x.isSome) = false := by
            rw [Bool.eq_false_iff]
            intro q
            simp only [List.all_toArray, List.all_eq_true] at q
            have hlt : 0 < fs.length := by omega
            have z := q fs[0] (List.getElem_mem hlt)
            obtain ⟨f, hf'⟩ := Option.isSome_iff_exists.mp z
            exact hn0 ⟨f, by rw [List.getElem?_eq_getElem hlt, hf']⟩
          rw [if_neg (by rw [hna]; simp), if_neg (by rw [hb0]; simp)]
          refine wpAny_bind (typesX e ht (fun z => by rw [z] at h2; simp at h2) ?_)
          exact wpAny_pure hq
  · exact SortsAt.data e hal (.inr hn) hu
theorem sorted_dataX {β : Type} {vs : List Value} {bs : List β} {enc : β → PyData} {R : Value → β → Prop} {l : Addr} {Q : Value → Shared → Prop} (hl : s.heap.IsList l vs.toArray) (e : EachIs R vs bs) (er : EachIs (fun v b => ∃ as, Reads s.heap v (enc b) as) vs bs) (hal : AllAlike (bs.map enc)) (hk : SortableX (bs.map enc)) (hL : bs.length ≤ sizeLine)
    (hu : ∀ b, b ∈ bs → A.units + 2 + (enc b).depth < cLine) (h : ∀ out, out.length = bs.length → EachIs R out (bs.mergeSort (dataLe false enc)) → Q (.ref (s.heap.objs.size + 1)) { s with heap := sortedAll s.heap vs (List.toArray out) }) :
    wpAny (model prog w) A (call (.builtin "sorted") [.ref l]) Q E s := by
  have er' : EachIs (fun v b => ∃ as, Reads (sortingHeap (copyHeap s.heap vs) (s.heap.objs.size + 1) vs) v (enc b) as) vs bs := er.mono fun _ _ ⟨as, r⟩ => ⟨as, PyProof.Rows.Reads.keeps (fun _ _ => sorting_copy_old) r⟩
  exact sorted_vals hl (SortsAt.dataX (s := { s with heap := sortingHeap (copyHeap s.heap vs) (s.heap.objs.size + 1) vs }) (each_map (R := fun v d => ∃ as, Reads (sortingHeap (copyHeap s.heap vs) (s.heap.objs.size + 1) vs) v d as) enc er') hal hk (bound_map hu)) (by rw [e.length]; exact hL)
    (h _ (by rw [sortVals_length false rfl]; exact e.length) (sortVals_data false e er' hal))
end
end PySem.W
namespace PySem.W
open PySem PyProof.Rows
section
variable {prog : Program} {w : World} {A : Around} {E : Value → Shared → Prop} {s : Shared}
theorem collect_tup {l : Addr} {vs : List Value} {Q : List Value → Shared → Prop} (hl : s.heap.IsTuple l vs.toArray)
    (h : Q vs { s with heap := (s.heap.push (seqObj "list" #[] 0)).update s.heap.objs.size (Obj.mapSeq (· ++ vs.toArray)) }) (hsz : vs.length ≤ sizeLine := by size_fits) :
    wpAny (model prog w) A (collect (.ref l)) Q E s := by
  obtain ⟨o, ho, hc, n, hd⟩ := id hl
  unfold collect
  refine wpAny_bind (wpAny_runValue (codeAny_builtin entry_proto_collect' ?_))
  show wpAny _ _ (do again (.builtin "list.__iadd__" ⟨[← newList [], .ref l], []⟩)) _ _ s
  refine wpAny_bind (wpAny_newList (wpAny_pure ⟨Code.quiet_builtin _ (by decide +kernel), codeAny_builtin entry_list_iadd' ?_⟩))
  show wpAny _ _ (Builtin.List.listExtendWith (.ref s.heap.objs.size) (.ref l) (.ref s.heap.objs.size)) _ _ { s with heap := s.heap.push (seqObj "list" #[] 0) }
  unfold Builtin.List.listExtendWith
  have ho' : (s.heap.push (seqObj "list" #[] 0)).get? l = some o := Heap.get?_push_of_some _ ho
  refine wpAny_bind (wpAny_typeOf (T := "tuple") ⟨o, ho', hc⟩ ?_)
  have ht : (Value.type "tuple" == Value.type "tuple") = true := by rfl
  rw [if_pos (by rw [ht]; simp)]
  refine wpAny_bind (listItems_at ho' hd ?_)
  refine wpAny_bind (listItems_at (xs := #[]) (n := 0) (Heap.get?_push_size _ rfl) rfl ?_)
  rw [if_neg (by simp)]
  refine wpAny_bind (listUpdate_at (xs := #[]) (n := 0) (Heap.get?_push_size _ rfl) rfl ?_ (Nat.zero_le _) (by show (#[] ++ vs.toArray).size ≤ sizeLine + 1; simp only [Array.size_append, List.size_toArray, List.length_nil]; omega))
  refine wpAny_pure ?_
  show wpAny (model prog w) A (do
      let o ← load s.heap.objs.size
      match o.data with
      | .seq xs _ => pure xs.toList
      | _ => unsupported "internal:collect") Q E { s with heap := (s.heap.push (seqObj "list" #[] 0)).update s.heap.objs.size (Obj.mapSeq (· ++ vs.toArray)) }
  refine wpAny_bind (wpAny_load (get?_update_seq (Heap.get?_push_size _ rfl) _) ?_)
  show wpAny _ _ (pure ((#[] : Array Value) ++ vs.toArray).toList) Q E _
  rw [show ((#[] : Array Value) ++ vs.toArray).toList = vs by simp]
  exact wpAny_pure h
theorem sorted_of_sortT {l : Addr} {vs : List Value} {Q : Value → Shared → Prop} (hl : s.heap.IsTuple l vs.toArray) (hL : vs.length ≤ sizeLine)
    (body : ∀ E' : Value → Shared → Prop, wpAny (model prog w) A.in1.in1 (Builtin.«list.sort» ⟨[.ref (s.heap.objs.size + 1)], []⟩) (fun f s' => f = .done (.ret .none) ∧ Q (.ref (s.heap.objs.size + 1)) s') E' { s with heap := copyHeap s.heap vs }) :
    wpAny (model prog w) A (call (.builtin "sorted") [.ref l] []) Q E s := by
  refine call_function_entry_kw kind_sorted plain_sorted entry_sorted (args_sorted1 _) ?_
  unfold Builtin.«sorted»
  refine wpAny_bind (m := checkCount "sorted" 1 1 _) (wpAny_pure ?_)
  refine wpAny_bind (collect_tup hl ?_ hL)
  refine wpAny_bind (wpAny_newList ?_ hL)
  have hsz : ((s.heap.push (seqObj "list" #[] 0)).update s.heap.objs.size (Obj.mapSeq (· ++ vs.toArray))).objs.size = s.heap.objs.size + 1 := by
    rw [Heap.size_update, size_push']
  show wpAny _ _ _ _ _ { s with heap := copyHeap s.heap vs }
  rw [hsz]
  refine wpAny_bind (wpAny_holding (wpAny_call_entry_kw slot_list_sort ⟨_, copyHeap_at s.heap vs, rfl⟩ entry_list_sort ?body (args_list_sort _)))
  case body =>
    show wpAny (model prog w) A.in1.in1 (Builtin.«list.sort» ⟨[.ref (s.heap.objs.size + 1)], []⟩) _ _ _
    refine wpAny_mono (body _) (fun f s' hf => ?_) fun _ _ e => e
    obtain ⟨rfl, hq⟩ := hf
    exact ⟨_, rfl, wpAny_pure ⟨_, rfl, hq⟩⟩
theorem sorted_valsT {κ : PyProof.Rows.KeyKind} {l : Addr} {vs : List Value} {Q : Value → Shared → Prop} (hl : s.heap.IsTuple l vs.toArray) (S : SortsAt prog w A.in1.in1 { s with heap := sortingHeap (copyHeap s.heap vs) (s.heap.objs.size + 1) vs } κ vs) (hL : vs.length ≤ sizeLine)
    (h : Q (.ref (s.heap.objs.size + 1)) { s with heap := sortedAll s.heap vs (sortVals κ false vs vs).toArray }) : wpAny (model prog w) A (call (.builtin "sorted") [.ref l]) Q E s :=
  sorted_of_sortT hl hL fun _ => list_sort_vals (s := { s with heap := copyHeap s.heap vs }) (copyHeap_at s.heap vs) S hL ⟨rfl, h⟩
theorem sorted_dataXT {β : Type} {vs : List Value} {bs : List β} {enc : β → PyData} {R : Value → β → Prop} {l : Addr} {Q : Value → Shared → Prop} (hl : s.heap.IsTuple l vs.toArray) (e : EachIs R vs bs) (er : EachIs (fun v b => ∃ as, Reads s.heap v (enc b) as) vs bs) (hal : AllAlike (bs.map enc)) (hk : SortableX (bs.map enc)) (hL : bs.length ≤ sizeLine)
    (hu : ∀ b, b ∈ bs → A.units + 2 + (enc b).depth < cLine) (h : ∀ out, out.length = bs.length → EachIs R out (bs.mergeSort (dataLe false enc)) → Q (.ref (s.heap.objs.size + 1)) { s with heap := sortedAll s.heap vs (List.toArray out) }) :
    wpAny (model prog w) A (call (.builtin "sorted") [.ref l]) Q E s := by
  have er' : EachIs (fun v b => ∃ as, Reads (sortingHeap (copyHeap s.heap vs) (s.heap.objs.size + 1) vs) v (enc b) as) vs bs := er.mono fun _ _ ⟨as, r⟩ => ⟨as, PyProof.Rows.Reads.keeps (fun _ _ => sorting_copy_old) r⟩
  exact sorted_valsT hl (SortsAt.dataX (s := { s with heap := sortingHeap (copyHeap s.heap vs) (s.heap.objs.size + 1) vs }) (each_map (R := fun v d => ∃ as, Reads (sortingHeap (copyHeap s.heap vs) (s.heap.objs.size + 1) vs) v d as) enc er') hal hk (bound_map hu)) (by rw [e.length]; exact hL)
    (h _ (by rw [sortVals_length false rfl]; exact e.length) (sortVals_data false e er' hal))
end
end PySem.W
namespace Q
open PySem PySem.Spec PyProof.Rows L2

/-! ### built-in functions over pure values -/
inductive Blt where
  | len | tup | lst | all | srt | min | min2 | max2
  deriving DecidableEq
def tru : PyData → Bool
  | .bool b => b
  | _ => false
def isB : PyData → Bool
  | .bool _ => true
  | _ => false
def dle (a b : PyData) : Bool := !PySem.W.dataLt b a
def pB : Blt → List D → (D → Prop) → Prop
  | .len, [.d (.list xs)], Q => Q (.d (.int xs.length))
  | .len, [.d (.tuple xs)], Q => Q (.d (.int xs.length))
  | .len, [.d (.str z)], Q => z.length ≤ 1000000 ∧ Q (.d (.int z.length))
  | .tup, [.d (.list xs)], Q => Q (.d (.tuple xs))
  | .tup, [.d (.tuple xs)], Q => Q (.d (.tuple xs))
  | .lst, [.d (.list xs)], Q => Q (.d (.list xs))
  | .lst, [.d (.tuple xs)], Q => Q (.d (.list xs))
  | .lst, [.fd xs], Q => Q (.d (.list xs))
  | .all, [.d (.list xs)], Q => xs.all isB = true ∧ Q (.d (.bool (xs.all tru)))
  | .srt, [.d (.list xs)], Q => PySem.W.AllAlike xs ∧ PySem.W.SortableX xs ∧ (∀ x, x ∈ xs → x.depth ≤ 50) ∧ Q (.d (.list (xs.mergeSort dle)))
  | .srt, [.d (.tuple xs)], Q => PySem.W.AllAlike xs ∧ PySem.W.SortableX xs ∧ (∀ x, x ∈ xs → x.depth ≤ 50) ∧ Q (.d (.list (xs.mergeSort dle)))
  | .min, [.d (.list (x :: xs))], Q => PySem.W.AlikeAll (x :: xs) ∧ PyData.depthAll (x :: xs) ≤ 50 ∧ Q (.d (PySem.W.minD x xs))
  | .min2, [.d (.int i), .d (.int j)], Q => Q (.d (.int (if j < i then j else i)))
  | .max2, [.d (.int i), .d (.int j)], Q => Q (.d (.int (if j > i then j else i)))
  | _, _, _ => False
section
variable {Ω : Type} {W : Ω → Hp → Prop} {X : Cx}
def LiftN (W : Ω → Hp → Prop) (r : List V → Hp → VK → Prop) (p : List D → (D → Prop) → Prop) : Prop :=
  ∀ (vs : List V) (ds : List D) (H0 H F M : Hp) (ω : Ω) (Qc : D → Prop) (Q : VK), Hw W ω F M H → RDs H0 F M H vs ds → p ds Qc →
    (∀ d v H' F' M', Qc d → Hw W ω F' M' H' → Ex H F M H' F' M' → RD H F' M' H' v d → Q v H') → r vs H Q
theorem rds1 {H0 F M H : Hp} {vs : List V} {a : D} (h : RDs H0 F M H vs [a]) : ∃ v, vs = [v] ∧ RD H0 F M H v a := by
  cases h with
  | cons r t => cases t; exact ⟨_, rfl, r⟩
theorem rds2 {H0 F M H : Hp} {vs : List V} {a b : D} (h : RDs H0 F M H vs [a, b]) : ∃ v u, vs = [v, u] ∧ RD H0 F M H v a ∧ RD H0 F M H u b := by
  cases h with
  | cons r t =>
    cases t with
    | cons r2 t2 => cases t2; exact ⟨_, _, rfl, r, r2⟩
def rLenAll (K : PySem.W.Frag) : List V → Hp → VK → Prop := fun xs H Q => (∃ p ys, xs = [.ref p] ∧ (SqL K H p ys ∨ SqT K H p ys) ∧ Q (.int ys.length) H) ∨ (∃ z, xs = [.str z] ∧ z.length ≤ sizeLine ∧ Q (.int z.length) H)
theorem call_lenAll : CallR X (.builtin "len") (rLenAll X.K) := call_len_seq.or call_len_str
theorem lift_len (K : PySem.W.Frag) : LiftN W (rLenAll K) (pB .len) := by
  intro vs ds H0 H F M ω Qc Q hw ra h k
  unfold pB at h
  split at h <;> try first | exact h.elim | contradiction
  all_goals rename_i e; try cases e
  · obtain ⟨v, rfl, r⟩ := rds1 ra
    obtain ⟨a, us, rfl, fa, la, pa⟩ := rp_lst r
    exact .inl ⟨a, us, rfl, .inl (SqL.of (hw.fh _ _ fa)), fin0 (H0 := H0) hw k h (by rw [rps_len pa]; exact .int _)⟩
  · obtain ⟨v, rfl, r⟩ := rds1 ra
    obtain ⟨a, us, rfl, fa, la, pa⟩ := rp_tup r
    exact .inl ⟨a, us, rfl, .inr (SqT.of (hw.fh _ _ fa)), fin0 (H0 := H0) hw k h (by rw [rps_len pa]; exact .int _)⟩
  · obtain ⟨v, rfl, r⟩ := rds1 ra
    cases rp_str r
    exact .inr ⟨_, rfl, big_ok h.1, fin0 (H0 := H0) hw k h.2 (.int _)⟩
theorem lift_tup (K : PySem.W.Frag) : LiftN W (fun xs H Q => ∃ p ys, xs = [.ref p] ∧ ((SqL K H p ys ∧ ∀ l, H l = none → Q (.ref l) (upd H l (.tup ys))) ∨ (SqT K H p ys ∧ Q (.ref p) H))) (pB .tup) := by
  intro vs ds H0 H F M ω Qc Q hw ra h k
  unfold pB at h
  split at h <;> try first | exact h.elim | contradiction
  all_goals rename_i e; try cases e
  · obtain ⟨v, rfl, r⟩ := rds1 ra
    obtain ⟨a, us, rfl, fa, la, pa⟩ := rp_lst r
    exact ⟨a, us, rfl, .inl ⟨SqL.of (hw.fh _ _ fa), fun l n => finT hw k n h la pa⟩⟩
  · obtain ⟨v, rfl, r⟩ := rds1 ra
    obtain ⟨a, us, rfl, fa, la, pa⟩ := rp_tup r
    exact ⟨a, us, rfl, .inr ⟨SqT.of (hw.fh _ _ fa), fin0 (H0 := H0) hw k h (.tup fa (by rw [rps_len pa]; exact la) pa)⟩⟩
theorem lift_lst (K : PySem.W.Frag) : LiftN W (fun xs H Q => (∃ p ys, xs = [.ref p] ∧ (SqL K H p ys ∨ SqT K H p ys) ∧ ∀ l, H l = none → Q (.ref l) (upd H l (.lst ys))) ∨ QD.rLs xs H Q) (pB .lst) := by
  intro vs ds H0 H F M ω Qc Q hw ra h k
  unfold pB at h
  split at h <;> try first | exact h.elim | contradiction
  all_goals rename_i e; try cases e
  · obtain ⟨v, rfl, r⟩ := rds1 ra
    obtain ⟨a, us, rfl, fa, la, pa⟩ := rp_lst r
    exact .inl ⟨a, us, rfl, .inl (SqL.of (hw.fh _ _ fa)), fun l n => finL hw k n h la pa⟩
  · obtain ⟨v, rfl, r⟩ := rds1 ra
    obtain ⟨a, us, rfl, fa, la, pa⟩ := rp_tup r
    exact .inl ⟨a, us, rfl, .inr (SqT.of (hw.fh _ _ fa)), fun l n => finL hw k n h la pa⟩
  · obtain ⟨v, rfl, r⟩ := rds1 ra
    obtain ⟨p, vs, ob, rfl, fp, ⟨o, ks, rfl, hs, D, rfl, exs⟩, l, pr⟩ := r
    rw [List.length_map] at l
    exact .inr ⟨p, o, ks, rfl, hw.fh _ _ fp, hs, D, big_ok l, fun q n => finL hw k n h (by rw [← rps_len pr, List.length_map]; exact l) pr⟩
theorem rps_bools {F : Hp} : ∀ {xs : List PyData} {vs : List V}, Rps F vs xs → xs.all isB = true → vs = (xs.map tru).map V.bl
  | [], _, r, _ => by cases r; rfl
  | x :: xs, _, r, h => by
    cases r with
    | cons a b =>
      rw [List.all_cons, Bool.and_eq_true] at h
      rw [rps_bools b h.2]
      cases x with
      | bool y => cases a; rfl
      | _ => simp [isB] at h
theorem lift_all (K : PySem.W.Frag) : LiftN W (rAll K) (pB .all) := by
  intro vs ds H0 H F M ω Qc Q hw ra h k
  unfold pB at h
  split at h <;> try first | exact h.elim | contradiction
  all_goals rename_i e; try cases e
  obtain ⟨v, rfl, r⟩ := rds1 ra
  obtain ⟨a, us, rfl, fa, la, pa⟩ := rp_lst r
  rename_i xs
  refine ⟨a, xs.map tru, rfl, SqL.of ?_, fin0 (H0 := H0) hw k h.2 ?_⟩
  · rw [← rps_bools pa h.1]; exact hw.fh _ _ fa
  · rw [List.all_map]; exact .bl _
/-- sorted(xs), the items alike -/
def rSrtP : List V → Hp → VK → Prop := fun vs H Q => ∃ (a : Addr) (us : List V) (xs : List PyData) (F : Hp), vs = [V.ref a] ∧ (H a = some (.lst us) ∨ H a = some (.tup us)) ∧ (∀ a o, F a = some o → H a = some o) ∧ Rps F us xs ∧ PySem.W.AllAlike xs ∧ PySem.W.SortableX xs ∧ (∀ x, x ∈ xs → x.depth ≤ 50) ∧
  ∀ (ws : List V) (p : Addr), H p = none → Rps F ws (xs.mergeSort dle) → Q (.ref p) (upd H p (.lst ws))
theorem call_srtP (hu : X.A.units + 64 < cLine) : CallR X (.builtin "sorted") rSrtP := by
  intro pins s σ H vs us Q I r h
  obtain ⟨a, ws, xs, F, rfl, ha, sb, hr, h1, h2, h3, q⟩ := h
  rw [Vals.ref1 r]
  have src : ∃ its : List Value, Vals ws its ∧ (s.heap.IsList a its.toArray ∨ s.heap.IsTuple a its.toArray) ∧ ws.length ≤ sizeLine := by
    rcases ha with ha | ha
    · obtain ⟨its, rv, hl, hz⟩ := I.list (SqL.of (K := X.K) ha)
      exact ⟨its, rv, .inl hl.isList, hz⟩
    · obtain ⟨its, rv, hl, hz⟩ := I.tuple (SqT.of (K := X.K) ha)
      exact ⟨its, rv, .inr (show s.heap.IsTuple a its.toArray from hl), hz⟩
  obtain ⟨its, rv, hl, hz⟩ := src
  have ee : PySem.W.EachIs (fun u d => ∃ v, RelV v u ∧ Rp F v d) its xs := each_of (H := H) rv hr
  have hlen := rps_len hr
  have er : PySem.W.EachIs (fun v b => ∃ as, Reads s.heap v (id b) as) its xs := ee.mono fun u d ⟨v, rv, rp⟩ => rp_reads I (rp_sub sb rp) rv
  have fin : ∀ out : List Value, out.length = xs.length → PySem.W.EachIs (fun u d => ∃ v, RelV v u ∧ Rp F v d) out (xs.mergeSort (PySem.W.dataLe false id)) → EP X pins σ Q (.ref (s.heap.objs.size + 1)) { s with heap := PyProof.Rows.sortedAll s.heap its (List.toArray out) } := by
    intro out ho eo
    obtain ⟨ep, he'⟩ := PyProof.Rows.sortedAll_at s.heap its (List.toArray out)
    obtain ⟨ys, v1, v2⟩ := each_back eo
    have hd : PySem.W.dataLe false id = dle := rfl
    rw [hd] at v2
    have hlen2 : ys.length ≤ sizeLine := by rw [rps_len v2, List.length_mergeSort, ← hlen]; exact hz
    exact ⟨.ref _, upd H (s.heap.objs.size + 1) (.lst ys), I.laid (t' := s.toks) (fun _ _ => PyProof.Rows.sortedAll_old) (Nat.le_succ _) ⟨hlen2, out, ep, v1, he'⟩, rfl, q ys _ (I.hok.fresh (Nat.le_succ _)) v2⟩
  rcases hl with hl | hl
  · exact PySem.W.sorted_dataX (enc := id) hl ee er (by rw [List.map_id]; exact h1) (by rw [List.map_id]; exact h2) (by omega) (fun b hb => by have := h3 b hb; simp only [id]; omega) fin
  · exact PySem.W.sorted_dataXT (enc := id) hl ee er (by rw [List.map_id]; exact h1) (by rw [List.map_id]; exact h2) (by omega) (fun b hb => by have := h3 b hb; simp only [id]; omega) fin
theorem lift_srt : LiftN W rSrtP (pB .srt) := by
  intro vs ds H0 H F M ω Qc Q hw ra h k
  unfold pB at h
  split at h <;> try first | exact h.elim | contradiction
  all_goals rename_i e; try cases e
  · obtain ⟨v, rfl, r⟩ := rds1 ra
    obtain ⟨a, us, rfl, fa, la, pa⟩ := rp_lst r
    exact ⟨a, us, _, F, rfl, .inl (hw.fh _ _ fa), hw.fh, pa, h.1, h.2.1, h.2.2.1, fun ws p n rw' => finL hw k n h.2.2.2 (by rw [List.length_mergeSort]; exact la) rw'⟩
  · obtain ⟨v, rfl, r⟩ := rds1 ra
    obtain ⟨a, us, rfl, fa, la, pa⟩ := rp_tup r
    exact ⟨a, us, _, F, rfl, .inr (hw.fh _ _ fa), hw.fh, pa, h.1, h.2.1, h.2.2.1, fun ws p n rw' => finL hw k n h.2.2.2 (by rw [List.length_mergeSort]; exact la) rw'⟩
/-- min(xs), the items alike -/
def rMinP : List V → Hp → VK → Prop := fun vs H Q => ∃ (a : Addr) (us : List V) (x : PyData) (xs : List PyData) (F : Hp), vs = [V.ref a] ∧ H a = some (.lst us) ∧ (∀ a o, F a = some o → H a = some o) ∧ Rps F us (x :: xs) ∧ PySem.W.AlikeAll (x :: xs) ∧ PyData.depthAll (x :: xs) ≤ 50 ∧
  ∀ (w : V), Rp F w (PySem.W.minD x xs) → Q w H
theorem call_minP (hc : X.calm = true) (hu : X.A.units + 64 < cLine) : CallR X (.builtin "min") rMinP := by
  intro pins s σ H vs us Q I r h
  obtain ⟨a, ws, x, xs, F, rfl, ha, sb, hr, h1, h2, q⟩ := h
  obtain ⟨its, rv, hl, hz⟩ := I.list (SqL.of (K := X.K) ha)
  rw [Vals.ref1 r]
  obtain ⟨as, hra⟩ := rps_reads I (rps_sub sb hr) rv
  refine PySem.W.min_list_data (I.ok.hd hc) hl.isList (by simpa using hra) h1 (by omega) fun i v h' tk bs hi hrd hk => ?_
  have hi' : its[i]? = some v := by simpa using hi
  have hlt : i < ws.length := by rw [rv.length]; exact (List.getElem?_eq_some_iff.mp hi').1
  obtain ⟨w0, hw0⟩ : ∃ w0, ws[i]? = some w0 := ⟨ws[i], List.getElem?_eq_getElem hlt⟩
  obtain ⟨u, hu1, ru⟩ := rv.get hw0
  rw [hi'] at hu1; cases hu1
  obtain ⟨d, hd, hrp⟩ := rps_get' hr hw0
  obtain ⟨cs, rd⟩ := rp_reads I (rp_sub sb hrp) ru
  have e := PySem.SeqAt.plain_unique d _ v _ _ (rp_plain hrp) (PySem.W.reads_keeps hk rd) hrd
  refine ⟨w0, H, I.kept hk, ru, q w0 (by rw [← e]; exact hrp)⟩
theorem lift_min : LiftN W rMinP (pB .min) := by
  intro vs ds H0 H F M ω Qc Q hw ra h k
  unfold pB at h
  split at h <;> try first | exact h.elim | contradiction
  all_goals rename_i e; try cases e
  obtain ⟨v, rfl, r⟩ := rds1 ra
  obtain ⟨a, us, rfl, fa, la, pa⟩ := rp_lst r
  exact ⟨a, us, _, _, F, rfl, hw.fh _ _ fa, hw.fh, pa, h.1, h.2.1, fun w rw' => fin0 (H0 := H0) hw k h.2.2 rw'⟩
theorem lift_min2 : LiftN W (fun xs H Q => ∃ i j, xs = [.int i, .int j] ∧ Q (.int (if j < i then j else i)) H) (pB .min2) := by
  intro vs ds H0 H F M ω Qc Q hw ra h k
  unfold pB at h
  split at h <;> try first | exact h.elim | contradiction
  all_goals rename_i e; try cases e
  obtain ⟨v, u, rfl, r1, r2⟩ := rds2 ra
  cases rp_int r1; cases rp_int r2
  exact ⟨_, _, rfl, fin0 (H0 := H0) hw k h (.int _)⟩
theorem lift_max2 : LiftN W (fun xs H Q => ∃ i j, xs = [.int i, .int j] ∧ Q (.int (if j > i then j else i)) H) (pB .max2) := by
  intro vs ds H0 H F M ω Qc Q hw ra h k
  unfold pB at h
  split at h <;> try first | exact h.elim | contradiction
  all_goals rename_i e; try cases e
  obtain ⟨v, u, rfl, r1, r2⟩ := rds2 ra
  cases rp_int r1; cases rp_int r2
  exact ⟨_, _, rfl, fin0 (H0 := H0) hw k h (.int _)⟩
/-- its name, and the value of that name -/
@[reducible] def Blt.nm : Blt → Str
  | .len => "len" | .tup => "tuple" | .lst => "list" | .all => "all" | .srt => "sorted" | .min => "min" | .min2 => "min" | .max2 => "max"
@[reducible] def Blt.val : Blt → Value
  | .len => .builtin "len" | .tup => .type "tuple" | .lst => .type "list" | .all => .builtin "all" | .srt => .builtin "sorted" | .min => .builtin "min" | .min2 => .builtin "min" | .max2 => .builtin "max"
theorem Blt.boot : ∀ b : Blt, bootBuiltins b.nm = some b.val := by
  intro b
  cases b <;> decide +kernel
theorem blt_ok (W : Ω → Hp → Prop) (X : Cx) (hc : X.calm = true) (hu : X.A.units + 64 < cLine) : ∀ b : Blt, ∃ r, CallR X b.val r ∧ LiftN W r (pB b)
  | .len => ⟨_, call_lenAll, lift_len _⟩
  | .tup => ⟨_, call_tuple_of, lift_tup _⟩
  | .lst => ⟨_, call_list_of.or (QD.call_ls hc), lift_lst _⟩
  | .all => ⟨_, cr_all hc, lift_all _⟩
  | .srt => ⟨_, call_srtP hu, lift_srt⟩
  | .min => ⟨_, call_minP hc hu, lift_min⟩
  | .min2 => ⟨_, call_min2 hc, lift_min2⟩
  | .max2 => ⟨_, call_max2 hc, lift_max2⟩
end
end Q
namespace Q
open PySem PySem.Spec PyProof.Rows L2

/-! ### pure readings of expressions -/
section
variable {Ω : Type}
def dVar (i : Nat) : TD Ω := fun _ env ω Q => match env[i]? with
  | some (.d x) => Q (.d x) ω
  | some (.r v) => Q (.r v) ω
  | some (.fd xs) => Q (.fd xs) ω
  | _ => False
def dCon (x : PyData) : TD Ω := fun _ _ ω Q => Q (.d x) ω
def dBin (o : Op2) (a b : TD Ω) : TD Ω := fun E env ω Q => a E env ω fun x ω1 => b E env ω1 fun y ω2 => p2 o x y fun d => Q d ω2
def dUn (o : Op1) (a : TD Ω) : TD Ω := fun E env ω Q => a E env ω fun x ω1 => p1 o x fun d => Q d ω1
def dChain (o o' : Op2) (a b c : TD Ω) : TD Ω := fun E env ω Q => a E env ω fun x ω1 => b E env ω1 fun y ω2 => p2 o x y fun d => match d with
  | .d (.bool true) => c E env ω2 fun z ω3 => p2 o' y z fun d => Q d ω3
  | .d (.bool false) => Q (.d (.bool false)) ω2
  | _ => False
def dIsN (neg : Bool) (a : TD Ω) : TD Ω := fun E env ω Q => a E env ω fun x ω1 => match x with
  | .d .none => Q (.d (.bool (!neg))) ω1
  | .d _ => Q (.d (.bool neg)) ω1
  | _ => False
def dNil : TDa Ω := fun _ _ ω Q => Q [] ω
def dCons (a : TD Ω) (r : TDa Ω) : TDa Ω := fun E env ω Q => a E env ω fun x ω1 => r E env ω1 fun xs ω2 => Q (x :: xs) ω2
/-- all are data -/
def dats : List D → Option (List PyData)
  | [] => some []
  | .d x :: r => (dats r).map (x :: ·)
  | _ => none
def dTup (a : TDa Ω) : TD Ω := fun E env ω Q => a E env ω fun ds ω1 => match dats ds with
  | some xs => xs.length ≤ 1000000 ∧ Q (.d (.tuple xs)) ω1
  | none => False
def dLst (own : Bool) (a : TDa Ω) : TD Ω := fun E env ω Q => a E env ω fun ds ω1 => match dats ds with
  | some xs => xs.length ≤ 1000000 ∧ Q (if own = true then .own false xs else .d (.list xs)) ω1
  | none => False
def dBlt (b : Blt) (a : TDa Ω) : TD Ω := fun E env ω Q => a E env ω fun ds ω1 => pB b ds fun d => Q d ω1
def dIsa (T : Ty) (a : TD Ω) : TD Ω := fun E env ω Q => a E env ω fun x ω1 => match x with
  | .d y => Q (.d (.bool (isaT T y))) ω1
  | _ => False
abbrev FSpec (Ω : Type) := List D → Ω → QD Ω → XD Ω → Prop
def dCall (sp : FSpec Ω) (a : TDa Ω) : TD Ω := fun E env ω Q => a E env ω fun ds ω1 => sp ds ω1 Q E
/-- and, or, not as values: what stands left is a truth value -/
def dAndV (a b : TD Ω) : TD Ω := fun E env ω Q => a E env ω fun x ω1 => match x with
  | .d (.bool true) => b E env ω1 Q
  | .d (.bool false) => Q (.d (.bool false)) ω1
  | _ => False
def dOrV (a b : TD Ω) : TD Ω := fun E env ω Q => a E env ω fun x ω1 => match x with
  | .d (.bool true) => Q (.d (.bool true)) ω1
  | .d (.bool false) => b E env ω1 Q
  | _ => False
def dNotV (a : TD Ω) : TD Ω := fun E env ω Q => a E env ω fun x ω1 => match x with
  | .d (.bool c) => Q (.d (.bool (!c))) ω1
  | _ => False
/-- tests -/
def dTru (a : TD Ω) : TDb Ω := fun E env ω Q => a E env ω fun x ω1 => pTru x fun b => Q b ω1
def dAnd (a b : TDb Ω) : TDb Ω := fun E env ω Q => a E env ω fun c ω1 => match c with
  | true => b E env ω1 Q
  | false => Q false ω1
def dOr (a b : TDb Ω) : TDb Ω := fun E env ω Q => a E env ω fun c ω1 => match c with
  | true => Q true ω1
  | false => b E env ω1 Q
def dNot (a : TDb Ω) : TDb Ω := fun E env ω Q => a E env ω fun c ω1 => Q (!c) ω1
def dIf (t : TDb Ω) (a b : TD Ω) : TD Ω := fun E env ω Q => t E env ω fun c ω1 => match c with
  | true => a E env ω1 Q
  | false => b E env ω1 Q
/-- slices -/
abbrev TDo (Ω : Type) := XD Ω → List S → Ω → (Option Int → Ω → Prop) → Prop
def dNo : TDo Ω := fun _ _ ω Q => Q none ω
def dSome (a : TD Ω) : TDo Ω := fun E env ω Q => a E env ω fun x ω1 => match x with
  | .d (.int i) => Q (some i) ω1
  | _ => False
def cutD {α : Type} (xs : List α) (lo hi : Option Int) : List α := (xs.drop (HT.sIx xs.length 0 lo)).take (HT.sIx xs.length xs.length hi - HT.sIx xs.length 0 lo)
def pSl : D → Option Int → Option Int → (D → Prop) → Prop
  | .d (.list xs), lo, hi, Q => Q (.d (.list (cutD xs lo hi)))
  | .d (.tuple xs), lo, hi, Q => Q (.d (.tuple (cutD xs lo hi)))
  | .d (.str z), lo, hi, Q => z.length ≤ 1000000 ∧ Q (.d (.str (cutS z lo hi)))
  | _, _, _, _ => False
def dSl (a : TD Ω) (lo hi : TDo Ω) : TD Ω := fun E env ω Q => a E env ω fun x ω1 => lo E env ω1 fun l ω2 => hi E env ω2 fun u ω3 => pSl x l u fun d => Q d ω3
end

section
variable {Ω : Type} {W : Ω → Hp → Prop} {C : Cxx} {X : Cx} {a b c : Expr} {ta tb tc : TD Ω} {pos : Pos}
theorem de_var {i : Nat} {x : Str} (hN : X.N[i]? = some x) (hv : Vis X.env.scope x) (hd : (x == ("__debug__" : Str)) = false) (hcd : (x == ("__classdict__" : Str)) = false) : PE X (.Name x pos) (tOf W C (dVar i)) := by
  refine pe_imp (pe_var hN hv hd hcd) fun σ H Q h => ?_
  obtain ⟨env, ω, F, M, Ec, Qc, j, ht, hx, k⟩ := h
  unfold dVar at ht
  split at ht
  · rename_i x e
    obtain ⟨ov, e1, v, rfl, rp⟩ := j.sl i _ e
    exact ⟨v, e1, k _ _ _ _ _ _ ht j.hw (Ex.refl H F M) rp⟩
  · rename_i v e
    obtain ⟨ov, e1, rfl⟩ := j.sl i _ e
    exact ⟨v, e1, k _ _ _ _ _ _ ht j.hw (Ex.refl H F M) rfl⟩
  · rename_i xs e
    obtain ⟨ov, e1, p, vs, ob, rfl, fp, io, l, pr⟩ := j.sl i _ e
    exact ⟨.ref p, e1, k _ _ _ _ _ _ ht j.hw (Ex.refl H F M) ⟨p, vs, ob, rfl, fp, io, l, pr⟩⟩
  · exact ht.elim
theorem de_con {x : PyData} {v : V} (h : PE X a (tC v)) (hr : ∀ F, Rp F v x) : PE X a (tOf W C (dCon x)) := by
  refine pe_imp h fun σ H Q h => ?_
  obtain ⟨env, ω, F, M, Ec, Qc, j, ht, hx, k⟩ := h
  exact k _ _ _ _ _ _ ht j.hw (Ex.refl H F M) (hr F)
theorem imp_bin {o : Op2} {r : R2} (lf : Lift2 W r (p2 o)) (σ : L2.St) (H : Hp) (Q : VK) (h : tOf W C (dBin o ta tb) σ H Q) : tOp r (tOf W C ta) (tOf W C tb) σ H Q := by
  obtain ⟨env, ω, F, M, Ec, Qc, j, ht, hx, k⟩ := h
  refine ⟨env, ω, F, M, Ec, _, j, ht, hx, fun x ω1 v1 H1 F1 M1 q1 hw1 ex1 r1 => ?_⟩
  refine ⟨env, ω1, F1, M1, Ec, _, j.step hw1 ex1, q1, hx.step ex1, fun y ω2 v2 H2 F2 M2 q2 hw2 ex2 r2 => ?_⟩
  have ex := ex1.trans ex2
  exact lf v1 v2 x y H H2 F2 M2 ω2 _ _ hw2 (r1.step ex2) (r2.back ex1.al) q2 fun d v H' F' M' q hw' ex' r' => k d ω2 v H' F' M' q hw' (ex.trans ex') (r'.back ex.al)
theorem de_bin {o : Op2} {op : Operator} (e : o.bin = some op) (ha : PE X a (tOf W C ta)) (hb : PE X b (tOf W C tb)) : PE X (.BinOp a op b pos) (tOf W C (dBin o ta tb)) := by
  obtain ⟨r, ho, lf⟩ := op_bin W X e
  exact pe_imp (pe_op ho ha hb) (imp_bin lf)
theorem de_cmp {o : Op2} {op : CmpOp} (e : o.cmp = some op) (hu : X.A.units + 64 < cLine) (ha : PE X a (tOf W C ta)) (hb : PE X b (tOf W C tb)) (hm : behindInMarks op b = false) : PE X (.Compare a [op] [b] pos) (tOf W C (dBin o ta tb)) := by
  obtain ⟨r, ho, lf⟩ := op_cmp W X hu e
  exact pe_imp (pe_cmpR ho ha hb hm) (imp_bin lf)
theorem de_ix (ha : PE X a (tOf W C ta)) (hb : PE X b (tOf W C tb)) (hs : PlainIx b) : PE X (.Subscript a b pos) (tOf W C (dBin .ix ta tb)) :=
  pe_imp (pe_ix ix_seq ha hb hs) (imp_bin (lift_ix _))
theorem de_neg (ha : PE X a (tOf W C ta)) : PE X (.UnaryOp .USub a pos) (tOf W C (dUn .neg ta)) := by
  refine pe_imp (pe_un un_neg ha) fun σ H Q h => ?_
  obtain ⟨env, ω, F, M, Ec, Qc, j, ht, hx, k⟩ := h
  refine ⟨env, ω, F, M, Ec, _, j, ht, hx, fun x ω1 v1 H1 F1 M1 q1 hw1 ex1 r1 => ?_⟩
  unfold p1 at q1
  split at q1 <;> try first | exact q1.elim | contradiction
  cases rp_int r1
  exact ⟨_, rfl, k _ _ _ _ _ _ q1 hw1 ex1 (.int _)⟩
theorem de_inv (ha : PE X a (tOf W C ta)) : PE X (.UnaryOp .Invert a pos) (tOf W C (dUn .inv ta)) := by
  refine pe_imp (pe_un un_inv ha) fun σ H Q h => ?_
  obtain ⟨env, ω, F, M, Ec, Qc, j, ht, hx, k⟩ := h
  refine ⟨env, ω, F, M, Ec, _, j, ht, hx, fun x ω1 v1 H1 F1 M1 q1 hw1 ex1 r1 => ?_⟩
  unfold p1 at q1
  split at q1 <;> try first | exact q1.elim | contradiction
  cases rp_int r1
  exact ⟨_, rfl, k _ _ _ _ _ _ q1 hw1 ex1 (.int _)⟩
/-- a op b op' c -/
theorem imp_chain {o o' : Op2} {r r' : R2} (lf : Lift2 W r (p2 o)) (lf' : Lift2 W r' (p2 o')) (σ : L2.St) (H : Hp) (Q : VK) (h : tOf W C (dChain o o' ta tb tc) σ H Q) : tChain r r' (tOf W C ta) (tOf W C tb) (tOf W C tc) σ H Q := by
  obtain ⟨env, ω, F, M, Ec, Qc, j, ht, hx, k⟩ := h
  refine ⟨env, ω, F, M, Ec, _, j, ht, hx, fun x ω1 v1 H1 F1 M1 q1 hw1 ex1 r1 => ?_⟩
  refine ⟨env, ω1, F1, M1, Ec, _, j.step hw1 ex1, q1, hx.step ex1, fun y ω2 v2 H2 F2 M2 q2 hw2 ex2 r2 => ?_⟩
  have ex := ex1.trans ex2
  refine lf v1 v2 x y H H2 F2 M2 ω2 _ _ hw2 (r1.step ex2) (r2.back ex1.al) q2 fun d v H' F' M' q hw' ex' r' => ?_
  have ex3 := ex.trans ex'
  split at q
  · cases rp_bl r'
    refine ⟨true, rfl, ?_⟩
    rw [if_pos rfl]
    refine ⟨env, ω2, F', M', Ec, _, j.step hw' ex3, q, hx.step ex3, fun z ω3 v3 H3 F3 M3 q3 hw3 ex4 r3 => ?_⟩
    have ex5 := ex3.trans ex4
    exact lf' v2 v3 y z H H3 F3 M3 ω3 _ _ hw3 (((r2.back ex1.al).step ex').step ex4) (r3.back ex3.al) q3 fun d v H' F' M' q hw' ex' r' => k d ω3 v H' F' M' q hw' (ex5.trans ex') (r'.back ex5.al)
  · cases rp_bl r'
    refine ⟨false, rfl, ?_⟩
    rw [if_neg Bool.false_ne_true]
    exact k _ _ _ _ _ _ q hw' ex3 (.bl _)
  · exact q.elim
theorem de_chain {o o' : Op2} {op op' : CmpOp} (e : o.cmp = some op) (e' : o'.cmp = some op') (hu : X.A.units + 64 < cLine) (ha : PE X a (tOf W C ta)) (hb : PE X b (tOf W C tb)) (hc : PE X c (tOf W C tc)) (h2 : behindInMarks op' c = false) :
    PE X (.Compare a [op, op'] [b, c] pos) (tOf W C (dChain o o' ta tb tc)) := by
  obtain ⟨r, ho, lf⟩ := op_cmp W X hu e
  obtain ⟨r', ho', lf'⟩ := op_cmp W X hu e'
  exact pe_imp (pe_chain ho ho' ha hb hc (show lastMarks [op, op'] [b, c] = false from h2)) (imp_chain lf lf')
/-- is None, is not None -/
theorem de_isN {neg : Bool} {k0 : Nat} {pos' : Pos} (ha : PE X a (tOf W C ta)) : PE X (.Compare a [if neg = true then .IsNot else .Is] [.Constant .none k0 pos'] pos) (tOf W C (dIsN neg ta)) := by
  have rn : ∀ {F : Hp} {v : V} {x : PyData}, Rp F v x → decide (v = V.non) = (match x with | .none => true | _ => false) := fun {F v x} r => by cases r <;> rfl
  cases neg with
  | false =>
    refine pe_imp (pe_cmp (pc_isN ha) rfl) fun σ H Q h => ?_
    obtain ⟨env, ω, F, M, Ec, Qc, j, ht, hx, k⟩ := h
    refine ⟨env, ω, F, M, Ec, _, j, ht, hx, fun x ω1 v1 H1 F1 M1 q1 hw1 ex1 r1 => ?_⟩
    cases x with
    | d y =>
      rw [rn r1]
      cases y <;> exact k _ _ _ _ _ _ q1 hw1 ex1 (.bl _)
    | _ => exact q1.elim
  | true =>
    refine pe_imp (pe_cmp (pc_notN ha) rfl) fun σ H Q h => ?_
    obtain ⟨env, ω, F, M, Ec, Qc, j, ht, hx, k⟩ := h
    refine ⟨env, ω, F, M, Ec, _, j, ht, hx, fun x ω1 v1 H1 F1 M1 q1 hw1 ex1 r1 => ?_⟩
    cases x with
    | d y =>
      rw [rn r1]
      cases y <;> exact k _ _ _ _ _ _ q1 hw1 ex1 (.bl _)
    | _ => exact q1.elim
/-! arguments -/
variable {es : List Expr} {ts : TDa Ω}
theorem da_nil : PA X [] (aOf W C (dNil (Ω := Ω))) := by
  refine pa_imp pa_nil fun σ H Q h => ?_
  obtain ⟨env, ω, F, M, Ec, Qc, j, ht, hx, k⟩ := h
  exact k _ _ _ _ _ _ ht j.hw (Ex.refl H F M) .nil
theorem RDs.step {H0 F M H F' M' H' : Hp} {vs : List V} {ds : List D} (x : Ex H F M H' F' M') (h : RDs H0 F M H vs ds) : RDs H0 F' M' H' vs ds := L2.Paired.mapP h fun _ _ r => r.step x
theorem RDs.back {H0 H1 F M H : Hp} {vs : List V} {ds : List D} (x : ∀ a, Fr H1 a → Fr H0 a) (h : RDs H1 F M H vs ds) : RDs H0 F M H vs ds := L2.Paired.mapP h fun _ _ r => r.back x
theorem da_cons (ha : PE X a (tOf W C ta)) (hr : PA X es (aOf W C ts)) (hs : starEach (a :: es) X.env = (false, eval a X.env) :: starEach es X.env) : PA X (a :: es) (aOf W C (dCons ta ts)) := by
  refine pa_imp (pa_cons ha hr hs) fun σ H Q h => ?_
  obtain ⟨env, ω, F, M, Ec, Qc, j, ht, hx, k⟩ := h
  refine ⟨env, ω, F, M, Ec, _, j, ht, hx, fun x ω1 v1 H1 F1 M1 q1 hw1 ex1 r1 => ?_⟩
  refine ⟨env, ω1, F1, M1, Ec, _, j.step hw1 ex1, q1, hx.step ex1, fun xs ω2 vs H2 F2 M2 q2 hw2 ex2 r2 => ?_⟩
  exact k _ _ _ _ _ _ q2 hw2 (ex1.trans ex2) (.cons (r1.step ex2) (r2.back ex1.al))
theorem rds_dats {H0 F M H : Hp} : ∀ {ds : List D} {vs : List V} {xs : List PyData}, RDs H0 F M H vs ds → dats ds = some xs → Rps F vs xs
  | [], _, _, r, e => by cases r; cases e; exact .nil
  | .d x :: r, _, xs, h, e => by
    cases h with
    | cons a b =>
      simp only [dats] at e
      cases q : dats r with
      | none => rw [q] at e; cases e
      | some ys => rw [q] at e; cases e; exact .cons a (rds_dats b q)
  | .own _ _ :: _, _, _, _, e => by cases e
  | .fd _ :: _, _, _, _, e => by cases e
  | .r _ :: _, _, _, _, e => by cases e
theorem de_tup {k1 : Nat} (h : PA X es (aOf W C ts)) : PE X (.Tuple es k1 pos) (tOf W C (dTup ts)) := by
  refine pe_imp (pe_tup h) fun σ H Q h => ?_
  obtain ⟨env, ω, F, M, Ec, Qc, j, ht, hx, k⟩ := h
  refine ⟨env, ω, F, M, Ec, _, j, ht, hx, fun ds ω1 vs H1 F1 M1 q1 hw1 ex1 r1 => ?_⟩
  split at q1
  · rename_i xs e
    have pa := rds_dats r1 e
    exact ⟨by rw [rps_len pa]; exact big_ok q1.1, fun p n => finT hw1 (fun d v H' F' M' q hw' ex' r' => k d ω1 v H' F' M' q hw' (ex1.trans ex') (r'.back ex1.al)) n q1.2 q1.1 pa⟩
  · exact q1.elim
theorem de_lst {own : Bool} (h : PA X es (aOf W C ts)) : PE X (.List es pos) (tOf W C (dLst own ts)) := by
  refine pe_imp (pe_lst h) fun σ H Q h => ?_
  obtain ⟨env, ω, F, M, Ec, Qc, j, ht, hx, k⟩ := h
  refine ⟨env, ω, F, M, Ec, _, j, ht, hx, fun ds ω1 vs H1 F1 M1 q1 hw1 ex1 r1 => ?_⟩
  split at q1
  · rename_i xs e
    have pa := rds_dats r1 e
    refine ⟨by rw [rps_len pa]; exact big_ok q1.1, fun p n => ?_⟩
    cases own with
    | true => exact finO hw1 (fun d v H' F' M' q hw' ex' r' => k d ω1 v H' F' M' q hw' (ex1.trans ex') (r'.back ex1.al)) n q1.2 q1.1 pa
    | false => exact finL hw1 (fun d v H' F' M' q hw' ex' r' => k d ω1 v H' F' M' q hw' (ex1.trans ex') (r'.back ex1.al)) n q1.2 q1.1 pa
  · exact q1.elim
theorem imp_blt {b : Blt} {r : List V → Hp → VK → Prop} (lf : LiftN W r (pB b)) (σ : L2.St) (H : Hp) (Q : VK) (h : tOf W C (dBlt b ts) σ H Q) : tCB r (aOf W C ts) σ H Q := by
  obtain ⟨env, ω, F, M, Ec, Qc, j, ht, hx, k⟩ := h
  refine ⟨env, ω, F, M, Ec, _, j, ht, hx, fun ds ω1 vs H1 F1 M1 q1 hw1 ex1 r1 => ?_⟩
  exact lf vs ds H H1 F1 M1 ω1 _ _ hw1 r1 q1 fun d v H' F' M' q hw' ex' r' => k d ω1 v H' F' M' q hw' (ex1.trans ex') (r'.back ex1.al)
theorem de_blt {b : Blt} {p : Pos} (hc : X.calm = true) (hu : X.A.units + 64 < cLine) (hg : Gl X b.nm) (hm : X.mg b.nm = none) (ha : PA X (a :: es) (aOf W C ts)) (he : starEach (a :: es) X.env = (false, eval a X.env) :: starEach es X.env) (hpl : (backTo pos (starEach es X.env)).any (·.1) = false) :
    PE X (.Call (.Name b.nm p) (a :: es) [] pos) (tOf W C (dBlt b ts)) := by
  obtain ⟨r, hr, lf⟩ := blt_ok W X hc hu b
  have hbt := b.boot
  cases b <;> first
    | exact pe_imp (pe_callB hr hg hm hbt ha (by decide) (by decide) he hpl) (imp_blt lf)
    | exact pe_imp (pe_callTy hr hg hm hbt ha (by decide) (by decide) he hpl) (imp_blt lf)
/-- isinstance(e, T) -/
theorem Ty.boot : ∀ T : Ty, bootBuiltins (Str.ofString T.nm) = some (.type T.nm) := by
  intro T
  cases T <;> decide +kernel
theorem de_isa {T : Ty} {p p2 : Pos} (hg : Gl X "isinstance") (hm : X.mg "isinstance" = none) (hg2 : Gl X (Str.ofString T.nm)) (hm2 : X.mg (Str.ofString T.nm) = none) (ha : PE X a (tOf W C ta)) (he : starEach [a, .Name (Str.ofString T.nm) p2] X.env = (false, eval a X.env) :: starEach [.Name (Str.ofString T.nm) p2] X.env) :
    PE X (.Call (.Name "isinstance" p) [a, .Name (Str.ofString T.nm) p2] [] pos) (tOf W C (dIsa T ta)) := by
  have h2 : PE X (.Name (Str.ofString T.nm) p2) (tC (.ty T.nm)) := pe_bltn hg2 hm2 T.boot rfl (by cases T <;> decide) (by cases T <;> decide)
  refine pe_imp (pe_callB (call_isiP T) hg hm (by decide +kernel) (pa_cons ha (pa_cons h2 pa_nil) he) (by decide) (by decide) he (by rfl)) fun σ H Q h => ?_
  obtain ⟨env, ω, F, M, Ec, Qc, j, ht, hx, k⟩ := h
  refine ⟨env, ω, F, M, Ec, _, j, ht, hx, fun x ω1 v1 H1 F1 M1 q1 hw1 ex1 r1 => ?_⟩
  cases x with
  | d y => exact ⟨v1, y, rfl, rp_sub hw1.fh r1, k _ _ _ _ _ _ q1 hw1 ex1 (.bl _)⟩
  | _ => exact q1.elim
/-! and, or, not as values -/
variable {rest : List Expr}
theorem de_one {op : BoolOp} {t : TD Ω} (h : PE X a (tOf W C t)) : PE X (.BoolOp op [a] pos) (tOf W C t) := pe_one h
theorem de_and (ha : PE X a (tOf W C ta)) (hb : PE X (.BoolOp .And (b :: rest) pos) (tOf W C tb)) : PE X (.BoolOp .And (a :: b :: rest) pos) (tOf W C (dAndV ta tb)) := by
  refine pe_imp (pe_and ha hb) fun σ H Q h => ?_
  obtain ⟨env, ω, F, M, Ec, Qc, j, ht, hx, k⟩ := h
  refine ⟨env, ω, F, M, Ec, _, j, ht, hx, fun x ω1 v1 H1 F1 M1 q1 hw1 ex1 r1 => ?_⟩
  split at q1
  · cases rp_bl r1
    refine ⟨true, rfl, ?_⟩
    rw [if_pos rfl]
    exact ⟨env, ω1, F1, M1, Ec, _, j.step hw1 ex1, q1, hx.step ex1, fun d ω' v H' F' M' q hw' ex' r' => k d ω' v H' F' M' q hw' (ex1.trans ex') (r'.back ex1.al)⟩
  · cases rp_bl r1
    refine ⟨false, rfl, ?_⟩
    rw [if_neg Bool.false_ne_true]
    exact k _ _ _ _ _ _ q1 hw1 ex1 (.bl _)
  · exact q1.elim
theorem de_or (ha : PE X a (tOf W C ta)) (hb : PE X (.BoolOp .Or (b :: rest) pos) (tOf W C tb)) : PE X (.BoolOp .Or (a :: b :: rest) pos) (tOf W C (dOrV ta tb)) := by
  refine pe_imp (pe_or ha hb) fun σ H Q h => ?_
  obtain ⟨env, ω, F, M, Ec, Qc, j, ht, hx, k⟩ := h
  refine ⟨env, ω, F, M, Ec, _, j, ht, hx, fun x ω1 v1 H1 F1 M1 q1 hw1 ex1 r1 => ?_⟩
  split at q1
  · cases rp_bl r1
    refine ⟨true, rfl, ?_⟩
    rw [if_pos rfl]
    exact k _ _ _ _ _ _ q1 hw1 ex1 (.bl _)
  · cases rp_bl r1
    refine ⟨false, rfl, ?_⟩
    rw [if_neg Bool.false_ne_true]
    exact ⟨env, ω1, F1, M1, Ec, _, j.step hw1 ex1, q1, hx.step ex1, fun d ω' v H' F' M' q hw' ex' r' => k d ω' v H' F' M' q hw' (ex1.trans ex') (r'.back ex1.al)⟩
  · exact q1.elim
theorem de_not (ha : PE X a (tOf W C ta)) : PE X (.UnaryOp .Not a pos) (tOf W C (dNotV ta)) := by
  refine pe_imp (pe_not ha) fun σ H Q h => ?_
  obtain ⟨env, ω, F, M, Ec, Qc, j, ht, hx, k⟩ := h
  refine ⟨env, ω, F, M, Ec, _, j, ht, hx, fun x ω1 v1 H1 F1 M1 q1 hw1 ex1 r1 => ?_⟩
  split at q1
  · cases rp_bl r1
    exact ⟨_, rfl, k _ _ _ _ _ _ q1 hw1 ex1 (.bl _)⟩
  · exact q1.elim
/-! tests -/
variable {sa sb : TDb Ω}
theorem rps_empty {F : Hp} {vs : List V} {xs : List PyData} (h : Rps F vs xs) : vs.isEmpty = xs.isEmpty := by cases h <;> rfl
theorem imp_tru {t : TE} {T : TD Ω} (hi : ∀ σ H Q, tOf W C T σ H Q → t σ H Q) (σ : L2.St) (H : Hp) (Q : Bool → Hp → Prop) (h : bOf W C (dTru T) σ H Q) : t σ H fun x H' => ∃ k, TruV X.K x H' k ∧ Q k H' := by
  obtain ⟨env, ω, F, M, Ec, Qc, j, ht, hx, k⟩ := h
  refine hi σ H _ ⟨env, ω, F, M, Ec, _, j, ht, hx, fun x ω1 v1 H1 F1 M1 q1 hw1 ex1 r1 => ?_⟩
  unfold pTru at q1
  split at q1
  · cases r1; exact ⟨_, rfl, k _ _ _ _ _ q1 hw1 ex1⟩
  · cases rp_bl r1; exact ⟨_, rfl, k _ _ _ _ _ q1 hw1 ex1⟩
  · cases rp_int r1; exact ⟨_, rfl, k _ _ _ _ _ q1 hw1 ex1⟩
  · obtain ⟨a, vs, rfl, fa, la, pa⟩ := rp_lst r1
    refine ⟨_, .inl ⟨vs, SqL.of (hw1.fh _ _ fa), rfl⟩, ?_⟩
    rw [rps_empty pa]; exact k _ _ _ _ _ q1 hw1 ex1
  · obtain ⟨a, vs, rfl, fa, la, pa⟩ := rp_tup r1
    refine ⟨_, .inr (.inl ⟨vs, SqT.of (hw1.fh _ _ fa), rfl⟩), ?_⟩
    rw [rps_empty pa]; exact k _ _ _ _ _ q1 hw1 ex1
  · exact q1.elim
/-- a plain expression as a test -/
theorem dt_tru (ha : PE X a (tOf W C ta)) (he : ∀ whole, isTrue a X.env whole = (do let v ← whole; standAt a.pos; holding [v] (truthy v))) : PT X a (bOf W C (dTru ta)) :=
  pt_imp (pt_truth ha he) (imp_tru fun _ _ _ h => h)
/-- a comparison as a test: its value is a truth value -/
theorem p2_bool {o : Op2} {op : CmpOp} (e : o.cmp = some op) (x y : D) (Q : D → Prop) (h : p2 o x y Q) : p2 o x y fun d => (∃ b, d = .d (.bool b)) ∧ Q d := by
  cases o <;> first | (cases e; done) | skip
  all_goals
    unfold p2 at h ⊢
    split at h <;> first | exact h.elim | contradiction | skip
  all_goals first
    | (exact ⟨⟨_, rfl⟩, h⟩)
    | (exact ⟨h.1, ⟨_, rfl⟩, h.2⟩)
    | skip
  all_goals (rename_i e; first | (cases e; done) | skip)
theorem imp_binT {o : Op2} {op : CmpOp} {r : R2} (e : o.cmp = some op) (lf : Lift2 W r (p2 o)) (σ : L2.St) (H : Hp) (Q : Bool → Hp → Prop) (h : bOf W C (dTru (dBin o ta tb)) σ H Q) : tTest (tOp r (tOf W C ta) (tOf W C tb)) σ H Q := by
  obtain ⟨env, ω, F, M, Ec, Qc, j, ht, hx, k⟩ := h
  refine ⟨env, ω, F, M, Ec, _, j, ht, hx, fun x ω1 v1 H1 F1 M1 q1 hw1 ex1 r1 => ?_⟩
  refine ⟨env, ω1, F1, M1, Ec, _, j.step hw1 ex1, q1, hx.step ex1, fun y ω2 v2 H2 F2 M2 q2 hw2 ex2 r2 => ?_⟩
  have ex := ex1.trans ex2
  refine lf v1 v2 x y H H2 F2 M2 ω2 _ _ hw2 (r1.step ex2) (r2.back ex1.al) (p2_bool e x y _ q2) fun d v H' F' M' q hw' ex' r' => ?_
  obtain ⟨⟨b, rfl⟩, q⟩ := q
  cases rp_bl r'
  exact ⟨b, rfl, k b ω2 H' F' M' q hw' (ex.trans ex')⟩
theorem dt_cmp {o : Op2} {op : CmpOp} (e : o.cmp = some op) (hu : X.A.units + 64 < cLine) (ha : PE X a (tOf W C ta)) (hb : PE X b (tOf W C tb)) (hm : behindInMarks op b = false) : PT X (.Compare a [op] [b] pos) (bOf W C (dTru (dBin o ta tb))) := by
  obtain ⟨r, ho, lf⟩ := op_cmp W X hu e
  exact pt_imp (pt_cmpR ho ha hb hm) (imp_binT e lf)
theorem imp_chainT {o o' : Op2} {op op' : CmpOp} {r r' : R2} (e : o.cmp = some op) (e' : o'.cmp = some op') (lf : Lift2 W r (p2 o)) (lf' : Lift2 W r' (p2 o')) (σ : L2.St) (H : Hp) (Q : Bool → Hp → Prop) (h : bOf W C (dTru (dChain o o' ta tb tc)) σ H Q) : tTest (tChain r r' (tOf W C ta) (tOf W C tb) (tOf W C tc)) σ H Q := by
  obtain ⟨env, ω, F, M, Ec, Qc, j, ht, hx, k⟩ := h
  refine ⟨env, ω, F, M, Ec, _, j, ht, hx, fun x ω1 v1 H1 F1 M1 q1 hw1 ex1 r1 => ?_⟩
  refine ⟨env, ω1, F1, M1, Ec, _, j.step hw1 ex1, q1, hx.step ex1, fun y ω2 v2 H2 F2 M2 q2 hw2 ex2 r2 => ?_⟩
  have ex := ex1.trans ex2
  refine lf v1 v2 x y H H2 F2 M2 ω2 _ _ hw2 (r1.step ex2) (r2.back ex1.al) q2 fun d v H' F' M' q hw' ex' r' => ?_
  have ex3 := ex.trans ex'
  split at q
  · cases rp_bl r'
    refine ⟨true, rfl, ?_⟩
    rw [if_pos rfl]
    refine ⟨env, ω2, F', M', Ec, _, j.step hw' ex3, q, hx.step ex3, fun z ω3 v3 H3 F3 M3 q3 hw3 ex4 r3 => ?_⟩
    have ex5 := ex3.trans ex4
    refine lf' v2 v3 y z H H3 F3 M3 ω3 _ _ hw3 (((r2.back ex1.al).step ex').step ex4) (r3.back ex3.al) (p2_bool e' y z _ q3) fun d v H' F' M' q hw' ex' r' => ?_
    obtain ⟨⟨b, rfl⟩, q⟩ := q
    cases rp_bl r'
    exact ⟨b, rfl, k b ω3 H' F' M' q hw' (ex5.trans ex')⟩
  · cases rp_bl r'
    refine ⟨false, rfl, ?_⟩
    rw [if_neg Bool.false_ne_true]
    exact ⟨false, rfl, k _ _ _ _ _ q hw' ex3⟩
  · exact q.elim
theorem dt_chain {o o' : Op2} {op op' : CmpOp} (e : o.cmp = some op) (e' : o'.cmp = some op') (hu : X.A.units + 64 < cLine) (ha : PE X a (tOf W C ta)) (hb : PE X b (tOf W C tb)) (hc : PE X c (tOf W C tc)) (h2 : behindInMarks op' c = false) :
    PT X (.Compare a [op, op'] [b, c] pos) (bOf W C (dTru (dChain o o' ta tb tc))) := by
  obtain ⟨r, ho, lf⟩ := op_cmp W X hu e
  obtain ⟨r', ho', lf'⟩ := op_cmp W X hu e'
  exact pt_imp (pt_chain ho ho' ha hb hc (show lastMarks [op, op'] [b, c] = false from h2)) (imp_chainT e e' lf lf')
/-- is None, as a test -/
theorem dt_isN {neg : Bool} {k0 : Nat} {pos' : Pos} (ha : PE X a (tOf W C ta)) : PT X (.Compare a [if neg = true then .IsNot else .Is] [.Constant .none k0 pos'] pos) (bOf W C (dTru (dIsN neg ta))) := by
  have rn : ∀ {F : Hp} {v : V} {x : PyData}, Rp F v x → decide (v = V.non) = (match x with | .none => true | _ => false) := fun {F v x} r => by cases r <;> rfl
  cases neg with
  | false =>
    refine pt_imp (pt_cmp (pc_isN ha) rfl) fun σ H Q h => ?_
    obtain ⟨env, ω, F, M, Ec, Qc, j, ht, hx, k⟩ := h
    refine ⟨env, ω, F, M, Ec, _, j, ht, hx, fun x ω1 v1 H1 F1 M1 q1 hw1 ex1 r1 => ?_⟩
    cases x with
    | d y =>
      refine ⟨_, rfl, ?_⟩
      rw [rn r1]
      cases y <;> exact k _ _ _ _ _ q1 hw1 ex1
    | _ => exact q1.elim
  | true =>
    refine pt_imp (pt_cmp (pc_notN ha) rfl) fun σ H Q h => ?_
    obtain ⟨env, ω, F, M, Ec, Qc, j, ht, hx, k⟩ := h
    refine ⟨env, ω, F, M, Ec, _, j, ht, hx, fun x ω1 v1 H1 F1 M1 q1 hw1 ex1 r1 => ?_⟩
    cases x with
    | d y =>
      refine ⟨_, rfl, ?_⟩
      rw [rn r1]
      cases y <;> exact k _ _ _ _ _ q1 hw1 ex1
    | _ => exact q1.elim
theorem dw_and1 (ha : PT X a (bOf W C sa)) : PW X (.BoolOp .And [a] pos) (bOf W C sa) := pw_and1 ha
theorem dw_or1 (ha : PT X a (bOf W C sa)) : PW X (.BoolOp .Or [a] pos) (bOf W C sa) := pw_or1 ha
theorem pw_imp {e : Expr} {t t' : TT} (h : PW X e t) (i : ∀ σ H Q, t' σ H Q → t σ H Q) : PW X e t' := ⟨fun wh pins s σ H Q I q => h.run wh pins s σ H Q I (i σ H Q q)⟩
theorem dw_and (ha : PT X a (bOf W C sa)) (hb : PW X (.BoolOp .And (b :: rest) pos) (bOf W C sb)) : PW X (.BoolOp .And (a :: b :: rest) pos) (bOf W C (dAnd sa sb)) := by
  refine pw_imp (pw_and ha hb) fun σ H Q h => ?_
  obtain ⟨env, ω, F, M, Ec, Qc, j, ht, hx, k⟩ := h
  refine ⟨env, ω, F, M, Ec, _, j, ht, hx, fun c ω1 H1 F1 M1 q1 hw1 ex1 => ?_⟩
  cases c with
  | true =>
    rw [if_pos rfl]
    exact ⟨env, ω1, F1, M1, Ec, _, j.step hw1 ex1, q1, hx.step ex1, fun d ω' H' F' M' q hw' ex' => k d ω' H' F' M' q hw' (ex1.trans ex')⟩
  | false =>
    rw [if_neg Bool.false_ne_true]
    exact k _ _ _ _ _ q1 hw1 ex1
theorem dw_or (ha : PT X a (bOf W C sa)) (hb : PW X (.BoolOp .Or (b :: rest) pos) (bOf W C sb)) : PW X (.BoolOp .Or (a :: b :: rest) pos) (bOf W C (dOr sa sb)) := by
  refine pw_imp (pw_or ha hb) fun σ H Q h => ?_
  obtain ⟨env, ω, F, M, Ec, Qc, j, ht, hx, k⟩ := h
  refine ⟨env, ω, F, M, Ec, _, j, ht, hx, fun c ω1 H1 F1 M1 q1 hw1 ex1 => ?_⟩
  cases c with
  | true =>
    rw [if_pos rfl]
    exact k _ _ _ _ _ q1 hw1 ex1
  | false =>
    rw [if_neg Bool.false_ne_true]
    exact ⟨env, ω1, F1, M1, Ec, _, j.step hw1 ex1, q1, hx.step ex1, fun d ω' H' F' M' q hw' ex' => k d ω' H' F' M' q hw' (ex1.trans ex')⟩
theorem dt_not (ha : PT X a (bOf W C sa)) : PT X (.UnaryOp .Not a pos) (bOf W C (dNot sa)) := by
  refine pt_imp (pt_not ha) fun σ H Q h => ?_
  obtain ⟨env, ω, F, M, Ec, Qc, j, ht, hx, k⟩ := h
  exact ⟨env, ω, F, M, Ec, _, j, ht, hx, fun c ω1 H1 F1 M1 q1 hw1 ex1 => k _ _ _ _ _ q1 hw1 ex1⟩
theorem de_if (ht : PT X c (bOf W C sa)) (ha : PE X a (tOf W C ta)) (hb : PE X b (tOf W C tb)) : PE X (.IfExp c a b pos) (tOf W C (dIf sa ta tb)) := by
  refine pe_imp (pe_ifExp ht ha hb) fun σ H Q h => ?_
  obtain ⟨env, ω, F, M, Ec, Qc, j, ht, hx, k⟩ := h
  refine ⟨env, ω, F, M, Ec, _, j, ht, hx, fun c ω1 H1 F1 M1 q1 hw1 ex1 => ?_⟩
  cases c with
  | true =>
    rw [if_pos rfl]
    exact ⟨env, ω1, F1, M1, Ec, _, j.step hw1 ex1, q1, hx.step ex1, fun d ω' v H' F' M' q hw' ex' r' => k d ω' v H' F' M' q hw' (ex1.trans ex') (r'.back ex1.al)⟩
  | false =>
    rw [if_neg Bool.false_ne_true]
    exact ⟨env, ω1, F1, M1, Ec, _, j.step hw1 ex1, q1, hx.step ex1, fun d ω' v H' F' M' q hw' ex' r' => k d ω' v H' F' M' q hw' (ex1.trans ex') (r'.back ex1.al)⟩
/-! slices -/
def oOf {Ω : Type} (W : Ω → Hp → Prop) (C : Cxx) (T : TDo Ω) : TO := fun σ H Q => ∃ (env : List S) (ω : Ω) (F M : Hp) (Ec : XD Ω) (Qc : Option Int → Ω → Prop), J W env ω F M σ H ∧ T Ec env ω Qc ∧ XOk W C Ec H F M ∧
  ∀ b ω' H' F' M', Qc b ω' → Hw W ω' F' M' H' → Ex H F M H' F' M' → Q b H'
theorem po_imp {e : Option Expr} {t t' : TO} (h : PO X e t) (i : ∀ σ H Q, t' σ H Q → t σ H Q) : PO X e t' := by
  obtain ⟨h⟩ := h
  exact ⟨fun pins s σ H Q I q => h pins s σ H Q I (i σ H Q q)⟩
theorem do_none : PO X none (oOf W C (dNo (Ω := Ω))) := po_imp po_none fun σ H Q h => by
  obtain ⟨env, ω, F, M, Ec, Qc, j, ht, hx, k⟩ := h
  exact k _ _ _ _ _ ht j.hw (Ex.refl H F M)
theorem do_some (ha : PE X a (tOf W C ta)) : PO X (some a) (oOf W C (dSome ta)) := po_imp (po_some ha) fun σ H Q h => by
  obtain ⟨env, ω, F, M, Ec, Qc, j, ht, hx, k⟩ := h
  refine ⟨env, ω, F, M, Ec, _, j, ht, hx, fun x ω1 v1 H1 F1 M1 q1 hw1 ex1 r1 => ?_⟩
  split at q1
  · cases rp_int r1
    exact ⟨_, rfl, k _ _ _ _ _ q1 hw1 ex1⟩
  · exact q1.elim
def rSlAll (K : PySem.W.Frag) : V → Option Int → Option Int → Hp → VK → Prop := fun x lo hi H Q => rSlL K x lo hi H Q ∨ (rSlA K x lo hi H Q ∨ rSlS x lo hi H Q)
theorem sl_all : SlR X (rSlAll X.K) := sl_list.or (sl_tupA.or sl_str)
theorem cutD_len {xs : List PyData} (h : xs.length ≤ 1000000) (lo hi : Option Int) : (cutD xs lo hi).length ≤ 1000000 := by
  unfold cutD
  rw [List.length_take, List.length_drop]
  omega
theorem rps_cut {F : Hp} {vs : List V} {xs : List PyData} (h : Rps F vs xs) (lo hi : Option Int) : Rps F (cutV vs lo hi) (cutD xs lo hi) := by
  unfold cutV cutD
  rw [rps_len h]
  exact rps_take _ (rps_drop _ h)
theorem lift_sl (K : PySem.W.Frag) (x : V) (d : D) (lo hi : Option Int) (H0 H F M : Hp) (ω : Ω) (Qc : D → Prop) (Q : VK) (hw : Hw W ω F M H) (r : RD H0 F M H x d) (h : pSl d lo hi Qc)
    (k : ∀ d v H' F' M', Qc d → Hw W ω F' M' H' → Ex H F M H' F' M' → RD H F' M' H' v d → Q v H') : rSlAll K x lo hi H Q := by
  unfold pSl at h
  split at h
  · obtain ⟨a, vs, rfl, fa, la, pa⟩ := rp_lst r
    exact .inl ⟨a, vs, rfl, SqL.of (hw.fh _ _ fa), fun p n => finL hw k n h (cutD_len la _ _) (rps_cut pa _ _)⟩
  · obtain ⟨a, vs, rfl, fa, la, pa⟩ := rp_tup r
    refine .inr (.inl ⟨a, vs, rfl, SqT.of (hw.fh _ _ fa), fun z => ?_, fun _ p n => finT hw k n h (cutD_len la _ _) (rps_cut pa _ _)⟩)
    rw [rps_len pa] at z
    rw [cutD, z.1, z.2, List.drop_zero, Nat.sub_zero, List.take_length] at h
    exact fin0 (H0 := H0) hw k h (.tup fa (by rw [rps_len pa]; exact la) pa)
  · cases rp_str r
    exact .inr (.inr ⟨_, rfl, big_ok h.1, fin0 (H0 := H0) hw k h.2 (.str _)⟩)
  · exact h.elim
theorem de_sl {lo hi : Option Expr} {tl th : TDo Ω} {p2 : Pos} (ha : PE X a (tOf W C ta)) (hl : PO X lo (oOf W C tl)) (hh : PO X hi (oOf W C th)) : PE X (.Subscript a (.Slice lo hi none p2) pos) (tOf W C (dSl ta tl th)) := by
  refine pe_imp (pe_slice sl_all ha hl hh) fun σ H Q h => ?_
  obtain ⟨env, ω, F, M, Ec, Qc, j, ht, hx, k⟩ := h
  refine ⟨env, ω, F, M, Ec, _, j, ht, hx, fun x ω1 v1 H1 F1 M1 q1 hw1 ex1 r1 => ?_⟩
  refine ⟨env, ω1, F1, M1, Ec, _, j.step hw1 ex1, q1, hx.step ex1, fun l ω2 H2 F2 M2 q2 hw2 ex2 => ?_⟩
  have ex := ex1.trans ex2
  refine ⟨env, ω2, F2, M2, Ec, _, j.step hw2 ex, q2, hx.step ex, fun u ω3 H3 F3 M3 q3 hw3 ex3 => ?_⟩
  have ex4 := ex.trans ex3
  exact lift_sl _ v1 x l u H H3 F3 M3 ω3 _ _ hw3 ((r1.step ex2).step ex3) q3 fun d v H' F' M' q hw' ex' r' => k d ω3 v H' F' M' q hw' (ex4.trans ex') (r'.back ex4.al)
end
end Q
namespace Q
open PySem PySem.Spec PyProof.Rows L2

/-! ### what is walked -/
abbrev Sub (F F' : Hp) : Prop := ∀ a o, F a = some o → F' a = some o
structure Walk {Ω : Type} (W : Ω → Hp → Prop) (Jt : It) (F0 : Hp) (ds : List PyData) : Prop where
  stop : ∀ i H, Sub F0 H → ds.length ≤ i → Jt.stop i H
  go : ∀ i H, Sub F0 H → i < ds.length → Jt.go i H
  yld : ∀ i H x H' d ω F M, Hw W ω F M H → Sub F0 F → ds[i]? = some d → Jt.yld i H x H' → ∃ F', Hw W ω F' M H' ∧ Ex H F M H' F' M ∧ Rp F' x d
  len : ds.length ≤ 1000000
abbrev TDi (Ω : Type) := XD Ω → List S → Ω → (List PyData → Ω → Prop) → Prop
def iOf {Ω : Type} (W : Ω → Hp → Prop) (C : Cxx) (T : TDi Ω) : TI := fun σ H R => ∃ (env : List S) (ω : Ω) (F M : Hp) (Ec : XD Ω) (Qc : List PyData → Ω → Prop), J W env ω F M σ H ∧ T Ec env ω Qc ∧ XOk W C Ec H F M ∧
  ∀ ds ω' Jt H' F' M', Qc ds ω' → Hw W ω' F' M' H' → Ex H F M H' F' M' → Walk W Jt F' ds → R Jt H'
section
variable {Ω : Type} {W : Ω → Hp → Prop} {C : Cxx} {X : Cx} {a b c tg : Expr} {ta tb tc : TD Ω} {pos : Pos}
theorem pi_imp {e : Expr} {t t' : TI} (h : PI X tg e t) (i : ∀ σ H Q, t' σ H Q → t σ H Q) : PI X tg e t' := ⟨fun pins s σ H Q I q => h.run pins s σ H Q I (i σ H Q q)⟩
theorem walk_list {K : PySem.W.Frag} {F : Hp} {l : Addr} {vs : List V} {xs : List PyData} (fa : F l = some (.lst vs)) (la : xs.length ≤ 1000000) (pa : Rps F vs xs) : Walk W (Itl K l) F xs where
  stop := fun i H s h => ⟨vs, SqL.of (s _ _ fa), by rw [rps_len pa]; exact h⟩
  go := fun i H s h => by
    obtain ⟨v, hv, _⟩ := rps_get pa (List.getElem?_eq_getElem h)
    exact ⟨vs, v, SqL.of (s _ _ fa), hv⟩
  yld := fun i H x H' d ω F1 M hw s hd hy => by
    obtain ⟨rfl, hy⟩ := hy
    obtain ⟨v, hv, pv⟩ := rps_get pa hd
    have e := hy vs (SqL.of (hw.fh _ _ (s _ _ fa)))
    rw [hv] at e; cases e
    exact ⟨F1, hw, Ex.refl _ _ _, rp_sub s pv⟩
  len := la
theorem walk_tup {K : PySem.W.Frag} {F : Hp} {l : Addr} {vs : List V} {xs : List PyData} (fa : F l = some (.tup vs)) (la : xs.length ≤ 1000000) (pa : Rps F vs xs) : Walk W (Itt K l) F xs where
  stop := fun i H s h => ⟨vs, SqT.of (s _ _ fa), by rw [rps_len pa]; exact h⟩
  go := fun i H s h => by
    obtain ⟨v, hv, _⟩ := rps_get pa (List.getElem?_eq_getElem h)
    exact ⟨vs, v, SqT.of (s _ _ fa), hv⟩
  yld := fun i H x H' d ω F1 M hw s hd hy => by
    obtain ⟨rfl, hy⟩ := hy
    obtain ⟨v, hv, pv⟩ := rps_get pa hd
    have e := hy vs (SqT.of (hw.fh _ _ (s _ _ fa)))
    rw [hv] at e; cases e
    exact ⟨F1, hw, Ex.refl _ _ _, rp_sub s pv⟩
  len := la
theorem walk_dict {F : Hp} {l : Addr} {o : Obj} {ks : List QD.KA} {xs : List PyData} (fa : F l = some (QD.DX l o)) (la : xs.length ≤ 1000000) (pa : Rps F (ks.map fun x => V.ref x.2) xs) : Walk W (QD.ItX l o ks) F xs where
  stop := fun i H s h => ⟨s _ _ fa, by have := rps_len pa; rw [List.length_map] at this; omega⟩
  go := fun i H s h => ⟨s _ _ fa, by have := rps_len pa; rw [List.length_map] at this; omega⟩
  yld := fun i H x H' d ω F1 M hw s hd hy => by
    obtain ⟨rfl, z, hz, rfl⟩ := hy
    obtain ⟨v, hv, pv⟩ := rps_get pa hd
    rw [List.getElem?_map, hz] at hv
    cases hv
    exact ⟨F1, hw, Ex.refl _ _ _, rp_sub s pv⟩
  len := la
/-- a list, a tuple or a dict, walked -/
def iSeq (K : PySem.W.Frag) (tl : TE) : TI := fun σ H R => tl σ H fun x H1 => ∃ a, x = .ref a ∧ (((∃ xs, SqL K H1 a xs) ∧ R (Itl K a) H1) ∨ ((∃ xs, SqT K H1 a xs) ∧ R (Itt K a) H1) ∨ ∃ o ks, H1 a = some (QD.DX a o) ∧ (a == sysModules) = false ∧ QD.DIs o ks ∧ R (QD.ItX a o ks) H1)
theorem pi_seq {l : Expr} {tl : TE} (hl : PE X l tl) : PI X tg l (iSeq X.K tl) := by
  refine ⟨fun pins s σ H R I h => ?_⟩
  refine thn (hl.run pins s σ H _ I h) fun v s1 ⟨x, H1, I1, r1, q1⟩ => ?_
  obtain ⟨a, e, q1⟩ := q1
  subst e
  cases r1
  have hf : ∀ b ∈ [s1.heap.objs.size], FpOk X pins H1 b := fun b hb => by
    have e : b = s1.heap.objs.size := by simpa using hb
    subst e
    exact I1.fpOk (Nat.le_refl _) (I1.hok.fresh (Nat.le_refl _))
  rcases q1 with ⟨⟨xs, hq⟩, q⟩ | ⟨⟨xs, hq⟩, q⟩ | ⟨o, ks, hd, hs, D, q⟩
  · obtain ⟨its, rv, p, hz⟩ := I1.list hq
    exact wpAny_pyIter_list p.isList ⟨s1.heap.objs.size, [s1.heap.objs.size], _, _, H1, rfl, I1.kept (t' := s1.toks) fun b o e => Heap.get?_push_of_some _ e, turn_list a _, ⟨_, Heap.get?_push_size _ rfl, rfl, rfl⟩, hf, q⟩
  · obtain ⟨its, rv, p, hz⟩ := I1.tuple hq
    exact wpAny_pyIter_tuple (show s1.heap.IsTuple a its.toArray from p) ⟨s1.heap.objs.size, [s1.heap.objs.size], _, _, H1, rfl, I1.kept (t' := s1.toks) fun b o e => Heap.get?_push_of_some _ e, turn_tuple a _, ⟨_, Heap.get?_push_size _ rfl, rfl, rfl⟩, hf, q⟩
  · exact QD.iter_X I1 hd hs D q
def dSeqI (t : TD Ω) : TDi Ω := fun E env ω Q => t E env ω fun x ω1 => match x with
  | .d (.list xs) => Q xs ω1
  | .d (.tuple xs) => Q xs ω1
  | .fd xs => Q xs ω1
  | _ => False
theorem di_seq (ha : PE X a (tOf W C ta)) : PI X tg a (iOf W C (dSeqI ta)) := by
  refine pi_imp (pi_seq ha) fun σ H R h => ?_
  obtain ⟨env, ω, F, M, Ec, Qc, j, ht, hx, k⟩ := h
  refine ⟨env, ω, F, M, Ec, _, j, ht, hx, fun x ω1 v1 H1 F1 M1 q1 hw1 ex1 r1 => ?_⟩
  split at q1
  · obtain ⟨a, vs, rfl, fa, la, pa⟩ := rp_lst r1
    exact ⟨a, rfl, .inl ⟨⟨vs, SqL.of (hw1.fh _ _ fa)⟩, k _ _ _ _ _ _ q1 hw1 ex1 (walk_list fa la pa)⟩⟩
  · obtain ⟨a, vs, rfl, fa, la, pa⟩ := rp_tup r1
    exact ⟨a, rfl, .inr (.inl ⟨⟨vs, SqT.of (hw1.fh _ _ fa)⟩, k _ _ _ _ _ _ q1 hw1 ex1 (walk_tup fa la pa)⟩)⟩
  · obtain ⟨p, vs, ob, rfl, fp, ⟨o, ks, rfl, hs, D, rfl, exs⟩, l, pr⟩ := r1
    exact ⟨p, rfl, .inr (.inr ⟨o, ks, hw1.fh _ _ fp, hs, D, k _ _ _ _ _ _ q1 hw1 ex1 (walk_dict fp (by rw [← rps_len pr]; exact l) pr)⟩)⟩
  · exact q1.elim
/-- ints from lo on -/
def rngD (lo : Int) (n : Nat) : List PyData := (List.range n).map fun (i : Nat) => .int (lo + (i : Int))
theorem rngD_len (lo : Int) (n : Nat) : (rngD lo n).length = n := by unfold rngD; simp
theorem rngD_get {lo : Int} {n i : Nat} {d : PyData} (h : (rngD lo n)[i]? = some d) : d = .int (lo + i) := by
  unfold rngD at h
  rw [List.getElem?_map, Option.map_eq_some_iff] at h
  obtain ⟨j, hj, rfl⟩ := h
  have hi : i < n := by simpa using (List.getElem?_eq_some_iff.mp hj).1
  rw [List.getElem?_range hi] at hj
  cases hj
  rfl
theorem walk_rng (lo : Int) (n : Nat) (F : Hp) (hn : n ≤ 1000000) : Walk W (Itr lo n) F (rngD lo n) where
  stop := fun i H s h => by rw [rngD_len] at h; exact h
  go := fun i H s h => by rw [rngD_len] at h; exact h
  yld := fun i H x H' d ω F1 M hw s hd hy => by
    obtain ⟨rfl, rfl⟩ := hy
    rw [rngD_get hd]
    exact ⟨F1, hw, Ex.refl _ _ _, .int _⟩
  len := by rw [rngD_len]; exact hn
def dRngA (ts : TDa Ω) : TDi Ω := fun E env ω Q => ts E env ω fun ds ω1 => match ds with
  | [.d (.int n)] => (n ≤ 1000000 ∧ -1000000 ≤ n) ∧ Q (rngD 0 n.toNat) ω1
  | _ => False
def dRngB (ts : TDa Ω) : TDi Ω := fun E env ω Q => ts E env ω fun ds ω1 => match ds with
  | [.d (.int m), .d (.int n)] => (n ≤ 1000000 ∧ -1000000 ≤ n ∧ m ≤ 1000000 ∧ 0 ≤ m) ∧ Q (rngD m (n - m).toNat) ω1
  | _ => False
variable {es : List Expr} {ts : TDa Ω}
theorem di_range1 {p : Pos} (hg : Gl X "range") (hm : X.mg "range" = none) (ha : PA X [a] (aOf W C ts)) (hs : starEach [a] X.env = [(false, eval a X.env)]) : PI X tg (.Call (.Name "range" p) [a] [] pos) (iOf W C (dRngA ts)) := by
  refine pi_imp (pi_range1 hg hm ha hs) fun σ H R h => ?_
  obtain ⟨env, ω, F, M, Ec, Qc, j, ht, hx, k⟩ := h
  refine ⟨env, ω, F, M, Ec, _, j, ht, hx, fun ds ω1 vs H1 F1 M1 q1 hw1 ex1 r1 => ?_⟩
  split at q1
  · obtain ⟨v, rfl, r⟩ := rds1 r1
    cases rp_int r
    exact ⟨_, rfl, by omega, by omega, k _ _ _ _ _ _ q1.2 hw1 ex1 (walk_rng _ _ _ (by omega))⟩
  · exact q1.elim
theorem di_range2 {p : Pos} (hg : Gl X "range") (hm : X.mg "range" = none) (ha : PA X [a, b] (aOf W C ts)) (hs : starEach [a, b] X.env = [(false, eval a X.env), (false, eval b X.env)]) (hs2 : starEach [b] X.env = [(false, eval b X.env)]) : PI X tg (.Call (.Name "range" p) [a, b] [] pos) (iOf W C (dRngB ts)) := by
  refine pi_imp (pi_range2 hg hm ha hs hs2) fun σ H R h => ?_
  obtain ⟨env, ω, F, M, Ec, Qc, j, ht, hx, k⟩ := h
  refine ⟨env, ω, F, M, Ec, _, j, ht, hx, fun ds ω1 vs H1 F1 M1 q1 hw1 ex1 r1 => ?_⟩
  split at q1
  · obtain ⟨v, u, rfl, r, r'⟩ := rds2 r1
    cases rp_int r; cases rp_int r'
    exact ⟨_, _, rfl, ⟨by omega, by omega, by omega, by omega⟩, k _ _ _ _ _ _ q1.2 hw1 ex1 (walk_rng _ _ _ (by omega))⟩
  · exact q1.elim
/-! zip of two lists or two tuples -/
def zipD : List PyData → List PyData → List PyData
  | x :: xs, y :: ys => .tuple [x, y] :: zipD xs ys
  | _, _ => []
theorem zipD_len : ∀ xs ys : List PyData, (zipD xs ys).length = min xs.length ys.length
  | x :: xs, y :: ys => by simp only [zipD, List.length_cons, zipD_len xs ys]; omega
  | [], _ => by simp [zipD]
  | _ :: _, [] => by simp [zipD]
theorem zipD_get : ∀ {xs ys : List PyData} {i : Nat} {d : PyData}, (zipD xs ys)[i]? = some d → ∃ x y, xs[i]? = some x ∧ ys[i]? = some y ∧ d = .tuple [x, y]
  | x :: xs, y :: ys, 0, d, h => by simp [zipD] at h; exact ⟨x, y, rfl, rfl, h.symm⟩
  | x :: xs, y :: ys, i + 1, d, h => by simpa using zipD_get (xs := xs) (ys := ys) (i := i) (by simpa [zipD] using h)
  | [], _, _, _, h => by simp [zipD] at h
  | _ :: _, [], _, _, h => by simp [zipD] at h
def dZip (ts : TDa Ω) : TDi Ω := fun E env ω Q => ts E env ω fun ds ω1 => match ds with
  | [.d (.list xs), .d (.list ys)] => Q (zipD xs ys) ω1
  | [.d (.tuple xs), .d (.tuple ys)] => Q (zipD xs ys) ω1
  | _ => False
theorem walk_zip {K : PySem.W.Frag} {F : Hp} {l b : Addr} {vs us : List V} {xs ys : List PyData} (fa : F l = some (.lst vs)) (la : xs.length ≤ 1000000) (pa : Rps F vs xs) (fb : F b = some (.lst us)) (pb : Rps F us ys) : Walk W (Itz K l b) F (zipD xs ys) where
  stop := fun i H s h => ⟨vs, us, SqL.of (s _ _ fa), SqL.of (s _ _ fb), by rw [zipD_len] at h; rw [rps_len pa, rps_len pb]; omega⟩
  go := fun i H s h => by
    obtain ⟨x, y, hx, hy, _⟩ := zipD_get (List.getElem?_eq_getElem h)
    obtain ⟨v, hv, _⟩ := rps_get pa hx
    obtain ⟨u, hu, _⟩ := rps_get pb hy
    exact ⟨vs, us, v, u, SqL.of (s _ _ fa), SqL.of (s _ _ fb), hv, hu⟩
  yld := fun i H x H' d ω F1 M hw s hd hy => by
    obtain ⟨T, v0, u0, rfl, nT, rfl, h1, h2⟩ := hy
    obtain ⟨x, y, hx, hy, rfl⟩ := zipD_get hd
    obtain ⟨v, hv, pv⟩ := rps_get pa hx
    obtain ⟨u, hu, pu⟩ := rps_get pb hy
    have e := h1 vs (SqL.of (hw.fh _ _ (s _ _ fa)))
    rw [hv] at e
    have e2 := h2 us (SqL.of (hw.fh _ _ (s _ _ fb)))
    rw [hu] at e2
    obtain ⟨a1, a2⟩ := alloc (o := .tup [v, u]) hw nT
    cases e; cases e2
    exact ⟨_, a1, a2, .tup upd_same (by simp) (.cons (rp_sub a2.f0 (rp_sub s pv)) (.cons (rp_sub a2.f0 (rp_sub s pu)) .nil))⟩
  len := by rw [zipD_len]; omega
theorem walk_zipT {K : PySem.W.Frag} {F : Hp} {l b : Addr} {vs us : List V} {xs ys : List PyData} (fa : F l = some (.tup vs)) (la : xs.length ≤ 1000000) (pa : Rps F vs xs) (fb : F b = some (.tup us)) (pb : Rps F us ys) : Walk W (RZ.ItzT K l b) F (zipD xs ys) where
  stop := fun i H s h => ⟨vs, us, SqT.of (s _ _ fa), SqT.of (s _ _ fb), by rw [zipD_len] at h; rw [rps_len pa, rps_len pb]; omega⟩
  go := fun i H s h => by
    obtain ⟨x, y, hx, hy, _⟩ := zipD_get (List.getElem?_eq_getElem h)
    obtain ⟨v, hv, _⟩ := rps_get pa hx
    obtain ⟨u, hu, _⟩ := rps_get pb hy
    exact ⟨vs, us, v, u, SqT.of (s _ _ fa), SqT.of (s _ _ fb), hv, hu⟩
  yld := fun i H x H' d ω F1 M hw s hd hy => by
    obtain ⟨T, v0, u0, rfl, nT, rfl, h1, h2⟩ := hy
    obtain ⟨x, y, hx, hy, rfl⟩ := zipD_get hd
    obtain ⟨v, hv, pv⟩ := rps_get pa hx
    obtain ⟨u, hu, pu⟩ := rps_get pb hy
    have e := h1 vs (SqT.of (hw.fh _ _ (s _ _ fa)))
    rw [hv] at e
    have e2 := h2 us (SqT.of (hw.fh _ _ (s _ _ fb)))
    rw [hu] at e2
    obtain ⟨a1, a2⟩ := alloc (o := .tup [v, u]) hw nT
    cases e; cases e2
    exact ⟨_, a1, a2, .tup upd_same (by simp) (.cons (rp_sub a2.f0 (rp_sub s pv)) (.cons (rp_sub a2.f0 (rp_sub s pu)) .nil))⟩
  len := by rw [zipD_len]; omega
theorem di_zip {p tpos : Pos} {elts : List Expr} {kk : Nat} (hc : X.calm = true) (hg : Gl X "zip") (hm : X.mg "zip" = none) (ha : PA X [a, b] (aOf W C ts)) (hs : starEach [a, b] X.env = [(false, eval a X.env), (false, eval b X.env)]) (hs2 : starEach [b] X.env = [(false, eval b X.env)]) :
    PI X (.Tuple elts kk tpos) (.Call (.Name "zip" p) [a, b] [] pos) (iOf W C (dZip ts)) := by
  refine pi_imp (RZ.pi_zipA hg hm ha (by rw [hs, hs2]) (by rw [hs2]; rfl)) fun σ H R h => ?_
  obtain ⟨env, ω, F, M, Ec, Qc, j, ht, hx, k⟩ := h
  refine ⟨env, ω, F, M, Ec, _, j, ht, hx, fun ds ω1 vs H1 F1 M1 q1 hw1 ex1 r1 => ?_⟩
  split at q1
  · obtain ⟨v, u, rfl, r, r'⟩ := rds2 r1
    obtain ⟨a, vs, rfl, fa, la, pa⟩ := rp_lst r
    obtain ⟨b, us, rfl, fb, lb, pb⟩ := rp_lst r'
    exact ⟨a, b, vs, us, rfl, .inl ⟨SqL.of (hw1.fh _ _ fa), SqL.of (hw1.fh _ _ fb), k _ _ _ _ _ _ q1 hw1 ex1 (walk_zip fa la pa fb pb)⟩⟩
  · obtain ⟨v, u, rfl, r, r'⟩ := rds2 r1
    obtain ⟨a, vs, rfl, fa, la, pa⟩ := rp_tup r
    obtain ⟨b, us, rfl, fb, lb, pb⟩ := rp_tup r'
    exact ⟨a, b, vs, us, rfl, .inr ⟨SqT.of (hw1.fh _ _ fa), SqT.of (hw1.fh _ _ fb), k _ _ _ _ _ _ q1 hw1 ex1 (walk_zipT fa la pa fb pb)⟩⟩
  · exact q1.elim
end
end Q
/-! enumerate(tuple), list(enumerate(tuple)) -/
namespace QEn
open PySem PySem.W PyProof.Rows L2
open PySem.Sem (wp)
theorem new1 {v : Value} {o : Obj} {H : Heap → Prop} (B : Begins v o H) :
    Meets (Builtin.«enumerate.__new__» ⟨[.type "enumerate", v], []⟩) (fun _ R s => H s.heap ∧
      R (.ok (.ret (.ref (s.heap.push o).objs.size))) { s with heap := (s.heap.push o).push { cls := .type "enumerate", data := .fields #[.none, .bool false, .ref s.heap.objs.size, rawInt 0, .none, .none] } }) := by
  refine .of_wp fun prog w A R s hh => ?_
  obtain ⟨hp, g, d, tk, os⟩ := s
  have hsub := sub_enumerate
  have it1 : ∀ {A' : Around} {E : Value → Shared → Prop} {Q : Value → Shared → Prop}, Q (.ref hp.objs.size) ⟨hp.push o, g, d, tk, os⟩ → wpAny (model prog w) A' (pyIter v) Q E ⟨hp, g, d, tk, os⟩ := fun q => B.iter prog w _ _ ⟨hp, g, d, tk, os⟩ _ hh.1 q
  wp_walk using it1
  refine wpAny_stack_any fun st => wpAny_pure ?_
  split
  · rename_i c _ _ _ _ _
    cases (c == Value.type "enumerate") <;> (wp_walk using it1; exact ⟨_, rfl, hh.2⟩)
  · wp_walk using it1
    exact ⟨_, rfl, hh.2⟩
theorem call1 {prog : Program} {w : World} {A : Around} {E : Value → Shared → Prop} {s : Shared} {v : Value} {o : Obj} {H : Heap → Prop} {Q : Value → Shared → Prop} (B : Begins v o H) (h1 : H s.heap)
    (k : ∀ h', IsEnum h' (s.heap.objs.size + 1) s.heap.objs.size 0 .none → h'.get? s.heap.objs.size = some o → (∀ b u, s.heap.get? b = some u → h'.get? b = some u) → Q (.ref (s.heap.objs.size + 1)) { s with heap := h' }) :
    wpAny (model prog w) A (call (.type "enumerate") [v]) Q E s := by
  have hz : (s.heap.push o).objs.size = s.heap.objs.size + 1 := Heap.size_push ..
  have he : IsEnum ((s.heap.push o).push { cls := .type "enumerate", data := .fields #[.none, .bool false, .ref s.heap.objs.size, rawInt 0, .none, .none] }) (s.heap.objs.size + 1) s.heap.objs.size 0 .none := by
    have q := Heap.get?_push_size (s.heap.push o) (o := { cls := .type "enumerate", data := .fields #[.none, .bool false, .ref s.heap.objs.size, rawInt 0, .none, .none] }) rfl
    rw [hz] at q
    exact q
  refine callType_new F.called_enumerate (by decide) (F.typeCall_enumerate_1 _) (F.newCall_enumerate_1 _) (fun obj => F.args_object_init_2 obj _) F.entry_enumerate_new (new1 B) ⟨h1, ?_⟩
  rw [hz]
  exact ⟨⟨_, he, rfl⟩, k _ he (Heap.get?_push_of_some _ (Heap.get?_push_size _ B.free)) fun b u x => Heap.get?_push_of_some _ (Heap.get?_push_of_some _ x)⟩
/-- the tuple at a, each item in a new pair -/
def Itet (K : PySem.W.Frag) (a : Addr) : It :=
  ⟨fun i H => ∃ (xs : List V) (x : V), SqT K H a xs ∧ xs[i]? = some x, fun i H v H' => ∃ T x, v = .ref T ∧ H T = none ∧ H' = upd H T (.tup [.int (i : Nat), x]) ∧ ∀ xs, SqT K H a xs → xs[i]? = some x, fun i H => ∃ xs : List V, SqT K H a xs ∧ xs.length ≤ i⟩
theorem turn_enumT {P : Program} {w : World} {K : PySem.W.Frag} {elts : List Expr} {kk : Nat} {tpos : Pos} (a e it : Addr) (n1 : e ≠ it) (n2 : a ≠ it) (n3 : e ≠ a) :
    Turn P w K (.Tuple elts kk tpos) (Itet K a) [e, it] e (fun i h => (∃ old, IsEnum h e it ((i : Nat) : Int) old) ∧ h.IsTupleIter it a i) where
  mem := by simp
  obj := fun i h st b hb => by
    obtain ⟨⟨old, he⟩, o, ho, hc, hd⟩ := st
    rcases (by simpa using hb : b = e ∨ b = it) with rfl | rfl
    · exact ⟨_, he, fun v q => nomatch q⟩
    · exact ⟨o, ho, fun v q => by rw [hd] at q; cases q⟩
  keep := fun i h h' st k => let ⟨⟨old, he⟩, hi⟩ := st; ⟨⟨old, k e (by simp) _ he⟩, hi.at fun o q => k it (by simp) o q⟩
  item := by
    intro X hP hw hK hc i pins s σ H E I hf st hg
    subst hP hw hK
    obtain ⟨⟨old, he⟩, hit⟩ := st
    obtain ⟨xs, x, hq, hx⟩ := hg
    obtain ⟨its, rv, p, hz⟩ := I.tuple hq
    obtain ⟨u, hu, ru⟩ := rv.get hx
    have hel : e < s.heap.objs.size := Heap.lt_size he
    have hil : it < s.heap.objs.size := by obtain ⟨_, q, _⟩ := hit; exact Heap.lt_size q
    have hlt : i < its.toArray.size := by simpa using (List.getElem?_eq_some_iff.mp hu).1
    refine wpAny_pyNext_enum_itemC (c := (i : Int)) (Draws.tuple (A := X.A.in1) (I.ok.hd hc) it a n2 its.toArray) he ⟨hit, p⟩ hlt n1 (by simp [n1, n3]) fun x1 h' tk hx1 ho hst hT hsz hk => ?_
    have ex : x1 = u := by
      have q : its[i]? = some x1 := by simpa using hx1
      rw [hu] at q; exact (Option.some.inj q).symm
    subst ex
    refine ⟨_, rfl, wpAny_letOwnedTupleGo_enum (s := { s with heap := h', toks := tk + 1 }) ho fun h'' he' sb => ?_⟩
    have hT2 : h''.get? s.heap.objs.size = some { cls := .type "tuple", data := .seq #[.int i tk, x1] } := (sb.2 _ (Nat.ne_of_gt hel)).trans hT
    have new : ObjOk X.prog X.w (upd H s.heap.objs.size (.tup [.int (i : Nat), x])) h'' s.heap.objs.size (.tup [.int (i : Nat), x]) :=
      ⟨by show 2 ≤ sizeLine; decide, [.int i tk, x1], .cons ⟨_, rfl⟩ (.cons ru .nil), ⟨_, hT2, rfl, _, rfl⟩⟩
    have I1 : L2.Inv X pins σ (upd H s.heap.objs.size (.tup [.int (i : Nat), x])) { s with heap := h'', toks := tk + 1 } :=
      I.turnedNew (ch := [e, it]) (fun b ob hb q => (sb.2 b (fun z => hb (by simp [z]))).trans (hk b ob (fun z => hb (by simp [z])) (fun z => hb (by simp [z])) q)) hf (Nat.le_refl _) new
    refine ⟨.ref s.heap.objs.size, _, I1, rfl, ⟨_, x, rfl, I.hok.fresh (Nat.le_refl _), rfl, fun ys hy => by rw [I.tuple_inj hy hq]; exact hx⟩, ⟨⟨x1, ?_⟩, hst.1.at fun o q => (sb.2 it (Ne.symm n1)).trans q⟩, fun b hb => ?_⟩
    · have e1 : ((i + 1 : Nat) : Int) = (i : Int) + 1 := by omega
      rw [e1]; exact he'
    · have hb' : b < s.heap.objs.size := by
        rcases (by simpa using hb : b = e ∨ b = it) with rfl | rfl
        · exact hel
        · exact hil
      rw [upd_ne (Nat.ne_of_lt hb')]
      exact (hf b hb).1
  done := by
    intro X hP hw hK hc i pins s σ H E I hf st hg
    subst hP hw hK
    obtain ⟨⟨old, he⟩, hit⟩ := st
    obtain ⟨xs, hq, hx⟩ := hg
    obtain ⟨its, rv, p, hz⟩ := I.tuple hq
    obtain ⟨f0, f1, f2, f3, f4, f5⟩ := hf it (by simp)
    have hl := rv.length
    have hT : s.TypeIs (.ref e) "enumerate" := ⟨_, he, rfl⟩
    unfold pyNext
    refine wpAny_bind (wpAny_attempt (wpAny_callSpecial?_slot (name := Str.ofString "__next__") hT F.slot_enumerate_next
      (wpAny_call_entry F.slot_enumerate_next hT F.entry_enumerate_next ?_ (F.args_enumerate_next_1 _))))
    show wpAny _ _ (field (.ref e) 2 >>= _) _ _ _
    refine wpAny_bind (wpAny_field he rfl (x := .ref it) rfl ?_)
    refine wpAny_bind (wpAny_nextOf_tuple_end (I.ok.hd hc) hit p (by simp; omega) fun h' x eb hx' => ?_)
    obtain ⟨o, ho, hco⟩ := hx'
    exact wpAny_bind (wpAny_isInstance (T := "StopIteration") (b := true) ⟨o, ho, hco⟩ isSubtype_stop (wpAny_pure ⟨rfl, I.turned (t' := s.toks) (fun b o hb q => eb b o hb q) f0 f1 f3 f4 f5⟩))
  self := fun A i s Q E st h => let ⟨⟨_, he⟩, _⟩ := st; wpAny_pyIter_enum he h
def iEnumT (K : PySem.W.Frag) (ta : TA) : TI := fun σ H R => ta σ H fun vs H1 => ∃ a xs, vs = [.ref a] ∧ SqT K H1 a xs ∧ R (Itet K a) H1
theorem pi_enumT {X : Cx} {e : Expr} {ta : TA} {p pos tpos : Pos} {elts : List Expr} {kk : Nat} (hg : Gl X "enumerate") (hm : X.mg "enumerate" = none) (ha : PA X [e] ta) (hs : starEach [e] X.env = [(false, eval e X.env)] := by rfl) :
    PI X (.Tuple elts kk tpos) (.Call (.Name "enumerate" p) [e] [] pos) (iEnumT X.K ta) := by
  refine ⟨fun pins s σ H R I h => ?_⟩
  refine Call_ (ld_blt I hg hm boot_enumerate (PyProof.Rows.callWith_type1 (thn (ha.run pos pins s σ H _ I h) fun us s1 ⟨vs, H1, I1, r1, q1⟩ => ?_) hs rfl))
  obtain ⟨a, xs, ex, hq, q⟩ := q1
  subst ex
  cases r1 with
  | cons r rr =>
    cases rr
    cases r
    obtain ⟨its, rv, p', hz⟩ := I1.tuple hq
    have hal : a < s1.heap.objs.size := by obtain ⟨o, ho, _⟩ := id p'; exact Heap.lt_size ho
    refine call1 (begins_tuple a its.toArray) p' fun h' he hit hk => wpAny_pyIter_enum he ?_
    have I2 : L2.Inv X pins σ H1 { s1 with heap := h' } := I1.kept (t' := s1.toks) hk
    refine ⟨s1.heap.objs.size + 1, [s1.heap.objs.size + 1, s1.heap.objs.size], _, _, H1, rfl, I2, turn_enumT a (s1.heap.objs.size + 1) s1.heap.objs.size (Nat.succ_ne_self _) (Nat.ne_of_lt hal) (Nat.ne_of_gt (Nat.lt_succ_of_lt hal)), ⟨⟨.none, he⟩, ⟨_, hit, rfl, rfl⟩⟩, fun b hb => ?_, q⟩
    have hle : s1.heap.objs.size ≤ b := by
      rcases (by simpa using hb : b = s1.heap.objs.size + 1 ∨ b = s1.heap.objs.size) with z | z
      · rw [z]; exact Nat.le_add_right _ _
      · rw [z]; exact Nat.le_refl _
    exact I1.fpOk hle (I1.hok.fresh hle)
/-- the enumerate object, its first pair handed out and kept by someone -/
abbrev IsEX (h : Heap) (e it : Addr) (i : Int) (old : Value) (a : Addr) (f : Bool) : Prop :=
  h.get? e = some { cls := .type "enumerate", dict := none, data := .fields #[rawInt a, .bool f, .ref it, rawInt i, .none, old], slots := #[] }
section
variable {prog : Program} {w : World} {A : Around} {E : Value → Shared → Prop} {s : Shared}
theorem nextX {e it a : Addr} {fp : List Addr} {n i : Nat} {c : Int} {f : Bool} {P : Nat → Value → Prop} {St : Nat → Heap → Prop} {old : Value} {oa : Obj} {Q : Value → Shared → Prop}
    (D : Draws prog w A it fp n P St) (he : IsEX s.heap e it c old a f) (ha : s.heap.get? a = some oa) (hae : a ≠ e) (hai : a ≠ it) (hst : St i s.heap) (hlt : i < n) (hne : e ≠ it) (hef : e ∉ fp)
    (hQ : ∀ x h' tk, P i x → IsEX h' e it (c + 1) old a true → St (i + 1) h' → h'.get? s.heap.objs.size = some { cls := .type "tuple", data := .seq #[.int c tk, x] } → h'.objs.size = s.heap.objs.size + 1 →
      (∀ b o, b ≠ e → b ≠ it → s.heap.get? b = some o → h'.get? b = some o) → Q (.ref s.heap.objs.size) { s with heap := h', toks := tk + 1 }) :
    wpAny (model prog w) A (Builtin.«enumerate.__next__» ⟨[.ref e], []⟩) (fun fin s' => ∃ v, fin = .done (.ret v) ∧ Q v s') E s := by
  obtain ⟨hp, g, d, tk, os⟩ := s
  show wpAny _ _ (field (.ref e) 2 >>= _) _ _ _
  refine wpAny_bind (wpAny_field he rfl (x := .ref it) rfl ?_)
  refine wpAny_bind (D.item i _ _ _ hlt hst fun x h1 tk1 hx st1 sb1 => ?_)
  have e1 : IsEX h1 e it c old a f := (sb1.2 e hne).trans he
  have a1 : h1.get? a = some oa := (sb1.2 a hai).trans ha
  show wpAny _ _ (field (.ref e) 3 >>= _) _ _ ⟨h1, g, d, tk1, os⟩
  refine wpAny_bind (wpAny_field e1 rfl (x := rawInt c) rfl ?_)
  show wpAny _ _ (field (.ref e) 4 >>= _) _ _ ⟨h1, g, d, tk1, os⟩
  refine wpAny_bind (wpAny_field e1 rfl (x := .none) rfl ?_)
  show wpAny _ _ (mkInt c >>= _) _ _ ⟨h1, g, d, tk1, os⟩
  refine wpAny_bind (wpAny_mkInt ?_)
  show wpAny _ _ (setField (.ref e) 3 (rawInt (c + 1)) >>= _) _ _ ⟨h1, g, d, tk1 + 1, os⟩
  refine wpAny_bind (wpAny_setField_rec e1 (by simp) fun h2 e2 sb2 => ?_)
  replace e2 : IsEX h2 e it (c + 1) old a f := e2
  show wpAny _ _ (setField (.ref e) 4 .none >>= _) _ _ ⟨h2, g, d, tk1 + 1, os⟩
  refine wpAny_bind (wpAny_setField_rec e2 (by simp) fun h3 e3 sb3 => ?_)
  replace e3 : IsEX h3 e it (c + 1) old a f := e3
  replace sb2 : Heap.SameBut e h1 h2 := sb2
  replace sb3 : Heap.SameBut e h2 h3 := sb3
  have a3 : h3.get? a = some oa := (sb3.2 a hae).trans ((sb2.2 a hae).trans a1)
  show wpAny _ _ (newTuple [.int c tk1, x] >>= _) _ _ ⟨h3, g, d, tk1 + 1, os⟩
  refine wpAny_bind (wpAny_newTuple ?_)
  have hz : h3.objs.size = hp.objs.size := by rw [sb3.1, sb2.1]; exact sb1.1
  have hel : e < hp.objs.size := Heap.lt_size he
  have e4 : IsEX (h3.push { cls := .type "tuple", data := .seq #[.int c tk1, x] }) e it (c + 1) old a f := Heap.get?_push_of_some _ e3
  have a4 : (h3.push { cls := .type "tuple", data := .seq #[.int c tk1, x] }).get? a = some oa := Heap.get?_push_of_some _ a3
  have t4 : (h3.push { cls := .type "tuple", data := .seq #[.int c tk1, x] }).get? hp.objs.size = some { cls := .type "tuple", data := .seq #[.int c tk1, x] } := by rw [← hz]; exact Heap.get?_push_size _ rfl
  have z4 : (h3.push { cls := .type "tuple", data := .seq #[.int c tk1, x] }).objs.size = hp.objs.size + 1 := by rw [Heap.size_push, hz]
  have k4 : ∀ b o, b ≠ e → b ≠ it → hp.get? b = some o → (h3.push { cls := .type "tuple", data := .seq #[.int c tk1, x] }).get? b = some o := fun b o n1 n2 q =>
    Heap.get?_push_of_some _ (sb3.extBut b o n1 (sb2.extBut b o n1 (sb1.extBut b o n2 q)))
  have s4 : St (i + 1) (h3.push { cls := .type "tuple", data := .seq #[.int c tk1, x] }) := D.frame _ _ _ st1 fun b hb o q => by
    have n1 : b ≠ e := fun z => hef (z ▸ hb)
    exact Heap.get?_push_of_some _ (sb3.extBut b o n1 (sb2.extBut b o n1 q))
  show wpAny _ _ (Builtin.SmallTypes.ownedTupleIsFree (.ref e) >>= _) _ _ ⟨h3.push { cls := .type "tuple", data := .seq #[.int c tk1, x] }, g, d, tk1 + 1, os⟩
  rw [hz]
  refine wpAny_bind ?_
  unfold Builtin.SmallTypes.ownedTupleIsFree
  refine wpAny_bind (wpAny_field e4 rfl (x := rawInt a) rfl ?_)
  show wpAny _ _ (loadIfAlive ((a : Int).toNat) >>= _) _ _ _
  rw [Int.toNat_natCast]
  refine wpAny_bind (kdx_alive a4 ?_)
  simp only [Option.isNone_some, Bool.false_eq_true, if_false]
  refine wpAny_bind (wpAny_field e4 rfl (x := .bool f) rfl ?_)
  cases f with
  | true =>
    refine wpAny_pure (wpAny_pure ⟨_, rfl, ?_⟩)
    exact hQ x _ tk1 hx e4 s4 t4 z4 k4
  | false =>
    show wpAny _ _ (setField (.ref e) 1 (.bool true) >>= _) _ _ _
    refine wpAny_bind (wpAny_setField_rec e4 (by simp) fun h5 e5 sb5 => ?_)
    replace e5 : IsEX h5 e it (c + 1) old a true := e5
    replace sb5 : Heap.SameBut e (h3.push { cls := .type "tuple", data := .seq #[.int c tk1, x] }) h5 := sb5
    refine wpAny_pure (wpAny_pure ⟨_, rfl, ?_⟩)
    exact hQ x h5 tk1 hx e5 (D.frame _ _ _ s4 fun b hb o q => sb5.extBut b o (fun z => hef (z ▸ hb)) q) ((sb5.2 _ (Nat.ne_of_gt hel)).trans t4) (by rw [sb5.1]; exact z4) fun b o n1 n2 q => sb5.extBut b o n1 (k4 b o n1 n2 q)
end
section
variable {prog : Program} {w : World} {A : Around} {E : Value → Shared → Prop} {s : Shared}
/-- the enumerate object between two items; S: the list that is filled -/
def EnSt (h : Heap) (e it S : Addr) (i : Nat) : Prop := (i = 0 ∧ ∃ old, IsEnum h e it 0 old) ∨ ∃ old a oa f, IsEX h e it (i : Int) old a f ∧ h.get? a = some oa ∧ a ≠ e ∧ a ≠ it ∧ a ≠ S
theorem EnSt.keep {h h' : Heap} {e it S : Addr} {i : Nat} (k : ∀ b o, b ≠ S → h.get? b = some o → h'.get? b = some o) (hn : e ≠ S) (st : EnSt h e it S i) : EnSt h' e it S i := by
  rcases st with ⟨z, old, q⟩ | ⟨old, a, oa, f, q, qa, n1, n2, n3⟩
  · exact .inl ⟨z, old, k e _ hn q⟩
  · exact .inr ⟨old, a, oa, f, k e _ hn q, k a _ n3 qa, n1, n2, n3⟩
theorem EnSt.live {h : Heap} {e it S : Addr} {i : Nat} (st : EnSt h e it S i) : ∃ o, h.get? e = some o ∧ o.cls = .type "enumerate" := by
  rcases st with ⟨_, old, q⟩ | ⟨old, a, oa, f, q, _⟩
  · exact ⟨_, q, rfl⟩
  · exact ⟨_, q, rfl⟩
theorem en_item {e it S : Addr} {fp : List Addr} {n i : Nat} {P : Nat → Value → Prop} {St : Nat → Heap → Prop} {Q : Option Value → Shared → Prop}
    (D : Draws prog w A.in1 it fp n P St) (he : EnSt s.heap e it S i) (hS : S < s.heap.objs.size) (hst : St i s.heap) (hlt : i < n) (hne : e ≠ it) (hef : e ∉ fp) (hil : it < s.heap.objs.size)
    (hQ : ∀ x h' tk, P i x → EnSt h' e it S (i + 1) → St (i + 1) h' → h'.get? s.heap.objs.size = some { cls := .type "tuple", data := .seq #[.int (i : Int) tk, x] } → h'.objs.size = s.heap.objs.size + 1 →
      (∀ b o, b ≠ e → b ≠ it → s.heap.get? b = some o → h'.get? b = some o) → Q (some (.ref s.heap.objs.size)) { s with heap := h', toks := tk + 1 }) :
    wpAny (model prog w) A (pyNext (.ref e)) Q E s := by
  have e1 : ((i + 1 : Nat) : Int) = (i : Int) + 1 := by omega
  obtain ⟨oe, hoe, hoc⟩ := he.live
  have hel : e < s.heap.objs.size := Heap.lt_size hoe
  rcases he with ⟨z, old, q⟩ | ⟨old, a, oa, f, q, qa, n1, n2, n3⟩
  · subst z
    refine wpAny_pyNext_enum_itemC (c := ((0 : Nat) : Int)) D q hst hlt hne hef fun x h' tk hx ho st ht hz hk => hQ x h' tk hx (.inr ⟨x, s.heap.objs.size, _, false, ?_, ht, Nat.ne_of_gt hel, Nat.ne_of_gt hil, Nat.ne_of_gt hS⟩) st ht hz hk
    rw [e1]; exact ho
  · have hT : s.TypeIs (.ref e) "enumerate" := ⟨_, q, rfl⟩
    unfold pyNext
    refine wpAny_bind (wpAny_attempt (wpAny_callSpecial?_slot (name := Str.ofString "__next__") hT F.slot_enumerate_next
      (wpAny_call_entry F.slot_enumerate_next hT F.entry_enumerate_next (nextX D q qa n1 n2 hst hlt hne hef fun x h' tk hx hX st ht hz hk => wpAny_pure (hQ x h' tk hx (.inr ⟨old, a, oa, true, ?_, hk a _ n1 n2 qa, n1, n2, n3⟩) st ht hz hk)) (F.args_enumerate_next_1 _))))
    rw [e1]; exact hX
theorem en_end {e it S : Addr} {fp : List Addr} {n : Nat} {P : Nat → Value → Prop} {St : Nat → Heap → Prop} {Q : Option Value → Shared → Prop}
    (D : Draws prog w A.in1 it fp n P St) (he : EnSt s.heap e it S n) (hst : St n s.heap)
    (hQ : ∀ h', Heap.ExtBut it s.heap h' → Q none { s with heap := h' }) : wpAny (model prog w) A (pyNext (.ref e)) Q E s := by
  rcases he with ⟨z, old, q⟩ | ⟨old, a, oa, f, q, _⟩
  · subst z
    exact wpAny_pyNext_enum_endD D q hst hQ
  · have hT : s.TypeIs (.ref e) "enumerate" := ⟨_, q, rfl⟩
    unfold pyNext
    refine wpAny_bind (wpAny_attempt (wpAny_callSpecial?_slot (name := Str.ofString "__next__") hT F.slot_enumerate_next
      (wpAny_call_entry F.slot_enumerate_next hT F.entry_enumerate_next ?_ (F.args_enumerate_next_1 _))))
    show wpAny _ _ (field (.ref e) 2 >>= _) _ _ _
    refine wpAny_bind (wpAny_field q rfl (x := .ref it) rfl ?_)
    refine wpAny_bind (D.done _ _ _ hst fun h' x he' hx' => ?_)
    obtain ⟨o, ho, hc⟩ := hx'
    exact wpAny_bind (wpAny_isInstance (T := "StopIteration") (b := true) ⟨o, ho, hc⟩ isSubtype_stop (wpAny_pure (hQ _ he')))
/-- the pairs that were made so far -/
structure Prs (P : Nat → Value → Prop) (lo : Addr) (h : Heap) (as : List Addr) : Prop where
  rise : as.Pairwise (· < ·)
  above : ∀ a ∈ as, lo < a
  pairs : ∀ (j : Nat) (a : Addr), as[j]? = some a → ∃ tk x, P j x ∧ h.get? a = some { cls := .type "tuple", data := .seq #[.int (j : Int) tk, x] }
theorem Prs.keep {P : Nat → Value → Prop} {lo : Addr} {h h' : Heap} {as : List Addr} (g : Prs P lo h as) (k : ∀ b o, lo < b → h.get? b = some o → h'.get? b = some o) : Prs P lo h' as :=
  ⟨g.rise, g.above, fun j a e => let ⟨tk, x, p, q⟩ := g.pairs j a e; ⟨tk, x, p, k a _ (g.above a (List.mem_of_getElem? e)) q⟩⟩
theorem en_loop {R : Result → Shared → Prop} {e it S : Addr} {fp : List Addr} {n : Nat} {P : Nat → Value → Prop} {St : Nat → Heap → Prop} (D : Draws prog w A.in1.in1 it fp n P St) (hne : e ≠ it) (hef : e ∉ fp) (hSf : S ∉ fp) (heS : e < S) (hiS : it < S) (hn : n ≤ sizeLine) (res : Value) {h₁ : Heap}
    (hR : ∀ h' tk acc c as, (∀ b o, b ≠ S → b ≠ e → b ≠ it → h₁.get? b = some o → h'.get? b = some o) → h'.get? S = some { cls := .type "list", dict := none, data := .seq acc c, slots := #[] } → as.length = n → Prs P S h' as → acc.toList = as.map Value.ref → R (.ok (.ret res)) { s with heap := h', toks := tk }) :
    ∀ (k i : Nat) (h : Heap) (tk c : Nat) (acc : Array Value) (as : List Addr), n - i = k → i ≤ n → EnSt h e it S i → St i h → (∀ b o, b ≠ S → b ≠ e → b ≠ it → h₁.get? b = some o → h.get? b = some o) →
      h.get? S = some { cls := .type "list", dict := none, data := .seq acc c, slots := #[] } → acc.toList = as.map Value.ref → as.length = i → Prs P S h as →
      codeAny (model prog w) A (.builtin "list.extend.loop" ⟨[.ref S, .ref e, res], []⟩) R { s with heap := h, toks := tk } := by
  intro k
  induction k with
  | zero =>
    intro i h tk c acc as hk hi en st kp hS hacc hal hG
    have hin : i = n := by omega
    subst hin
    refine codeAny_builtin PySem.F.entry_extend_loop ?_
    rw [Around.under_plainId PySem.F.plain_extend_loop _]
    show wpAny _ A.in1 (pyNext (.ref e) >>= _) _ _ _
    refine wpAny_bind (en_end (s := { s with heap := h, toks := tk }) (A := A.in1) D en st fun h' xb => ?_)
    exact wpAny_pure (hR h' tk acc c as (fun b o h1 h2 h3 q => xb b o h3 (kp b o h1 h2 h3 q)) (xb S _ (Nat.ne_of_gt hiS) hS) hal (hG.keep fun b o hb q => xb b o (Nat.ne_of_gt (Nat.lt_trans hiS hb)) q) hacc)
  | succ k ih =>
    intro i h tk c acc as hk hi en st kp hS hacc hal hG
    have hlt : i < n := by omega
    have hsz : acc.size = i := by rw [← Array.length_toList, hacc, List.length_map, hal]
    have hSl : S < h.objs.size := Heap.lt_size hS
    refine codeAny_builtin PySem.F.entry_extend_loop ?_
    rw [Around.under_plainId PySem.F.plain_extend_loop _]
    show wpAny _ A.in1 (pyNext (.ref e) >>= _) _ _ _
    refine wpAny_bind (en_item (s := { s with heap := h, toks := tk }) (A := A.in1) D en hSl st hlt hne hef (Nat.lt_trans hiS hSl) fun x h' tk' hx en' st' ht hz hkp => ?_)
    dsimp only at ht hz hkp ⊢
    have hS' := hkp S _ (Nat.ne_of_gt heS) (Nat.ne_of_gt hiS) hS
    have up : ∀ b o, b ≠ S → h'.get? b = some o → (h'.update S (Obj.mapSeq (·.push (Value.ref h.objs.size)))).get? b = some o := fun b o hb q => (Heap.get?_update_other _ _ (Ne.symm hb)).trans q
    show wpAny _ A.in1 (updateSeq S (·.push (Value.ref h.objs.size)) >>= _) _ _ _
    refine wpAny_bind (wpAny_updateSeq hS' rfl (wpAny_pure ⟨plainId_quiet PySem.F.plain_extend_loop _, ih (i + 1) _ (tk' + 1) _ (acc.push (Value.ref h.objs.size)) (as ++ [h.objs.size]) (by omega) hlt (en'.keep up (Nat.ne_of_lt heS)) (D.frame _ _ _ st' fun b hb o q => up b o (fun z => hSf (z ▸ hb)) q)
      (fun b o h1 h2 h3 q => up b o h1 (hkp b o h2 h3 (kp b o h1 h2 h3 q))) (Heap.get?_update_self _ hS' rfl) (by rw [Array.toList_push, hacc, List.map_append]; rfl) (by rw [List.length_append, hal]; rfl) ?_⟩) (by rw [hsz]; omega) (by show (acc.push (Value.ref h.objs.size)).size ≤ sizeLine + 1; rw [Array.size_push, hsz]; omega))
    have hG' := hG.keep (h' := h'.update S (Obj.mapSeq (·.push (Value.ref h.objs.size)))) fun b o hb q => up b o (Nat.ne_of_gt hb) (hkp b o (Nat.ne_of_gt (Nat.lt_trans heS hb)) (Nat.ne_of_gt (Nat.lt_trans hiS hb)) q)
    refine ⟨List.pairwise_append.mpr ⟨hG.rise, List.pairwise_singleton _ _, fun a ha b hb => ?_⟩, fun a ha => ?_, fun j b hj => ?_⟩
    · rw [List.mem_singleton.mp hb]
      obtain ⟨j, hj⟩ := List.mem_iff_getElem?.mp ha
      obtain ⟨_, _, _, q⟩ := hG.pairs j a hj
      exact Heap.lt_size q
    · rcases List.mem_append.mp ha with z | z
      · exact hG.above a z
      · rw [List.mem_singleton.mp z]; exact hSl
    · by_cases h1 : j < as.length
      · rw [List.getElem?_append_left h1] at hj
        exact hG'.pairs j b hj
      · rw [List.getElem?_append_right (by omega)] at hj
        have hj0 : j = i := by
          have := (List.getElem?_eq_some_iff.mp hj).1
          simp at this; omega
        subst hj0
        rw [hal, Nat.sub_self] at hj
        have hb : h.objs.size = b := by simpa using hj
        subst hb
        exact ⟨tk', x, hx, up _ _ (Nat.ne_of_gt hSl) ht⟩
end
theorem no_len : typeLookup (.type "enumerate") "__len__" = pure none := by rw [typeLookup_type, builtinLookup_eq_fast]; kernel_rfl
theorem no_hint : typeLookup (.type "enumerate") "__length_hint__" = pure none := by rw [typeLookup_type, builtinLookup_eq_fast]; kernel_rfl
section
variable {prog : Program} {w : World} {A : Around} {E : Value → Shared → Prop} {s : Shared}
theorem en_extend {R : Result → Shared → Prop} {e it S : Addr} {fp : List Addr} {n : Nat} {P : Nat → Value → Prop} {St : Nat → Heap → Prop} (D : Draws prog w A.in1.in1 it fp n P St) (hne : e ≠ it) (hef : e ∉ fp) (hSf : S ∉ fp) (heS : e < S) (hiS : it < S) (hn : n ≤ sizeLine) (res : Value) (c₀ : Nat)
    (he : IsEnum s.heap e it 0 .none) (hst : St 0 s.heap) (hS : s.heap.get? S = some { cls := .type "list", data := .seq #[] c₀ })
    (hR : ∀ h' tk acc c as, (∀ b o, b ≠ S → b ≠ e → b ≠ it → s.heap.get? b = some o → h'.get? b = some o) → h'.get? S = some { cls := .type "list", dict := none, data := .seq acc c, slots := #[] } → as.length = n → Prs P S h' as → acc.toList = as.map Value.ref → R (.ok (.ret res)) { s with heap := h', toks := tk }) :
    wpAny (model prog w) A.in1 (Builtin.List.listExtendWith (.ref S) (.ref e) res)
      (fun fin s' => match fin with | .done f => R (.ok f) s' | .again c' => c'.quiet = true ∧ codeAny (model prog w) A c' R s') (fun x s' => R (.error x) s') s := by
  have hT : s.TypeIs (.ref e) "enumerate" := ⟨_, he, rfl⟩
  unfold Builtin.List.listExtendWith
  refine wpAny_bind (wpAny_typeOf hT ?_)
  have h1 : Builtin.List.listSameRef (.ref S) (.ref e) = false := by simp [Builtin.List.listSameRef, Nat.ne_of_gt heS]
  have h2 : (Value.type "enumerate" == Value.type "list") = false := by decide
  have h3 : (Value.type "enumerate" == Value.type "tuple") = false := by decide
  simp only [h1, h2, h3, Bool.or_false, Bool.false_eq_true, if_false]
  refine wpAny_bind (wpAny_pyIter_enum he ?_)
  refine wpAny_bind (wpAny_holding ?_)
  unfold Builtin.List.listLengthHint
  refine wpAny_bind (wpAny_specialOf hT no_len ?_)
  show wpAny _ A.in1 (specialOf (Value.ref e) (Str.ofString "__length_hint__") >>= _) _ _ _
  refine wpAny_bind (wpAny_specialOf hT no_hint ?_)
  refine wpAny_pure ?_
  show wpAny _ A.in1 (rule "list.extend.makes-room" >>= fun _ => Builtin.List.listTouch (.ref S) >>= fun _ => again (.builtin "list.extend.loop" ⟨[.ref S, .ref e, res], []⟩)) _ _ _
  refine wpAny_bind (wpAny_rule ?_)
  refine wpAny_bind ?_
  show wpAny _ A.in1 (updateSeq S (·.push .none) >>= fun _ => updateSeq S (·.pop)) _ _ _
  refine wpAny_bind (wpAny_updateSeq hS rfl ?_)
  have hS2 := Heap.get?_update_self (Obj.mapSeq (·.push Value.none)) hS rfl
  refine wpAny_updateSeq (hz := by seq_fits) hS2 rfl ?_
  have hS3 := Heap.get?_update_self (Obj.mapSeq (·.pop)) hS2 rfl
  have oth : ∀ b o, b ≠ S → s.heap.get? b = some o → ((s.heap.update S (Obj.mapSeq (·.push Value.none))).update S (Obj.mapSeq (·.pop))).get? b = some o := fun b o hb q => (Heap.get?_update_other _ _ (Ne.symm hb)).trans ((Heap.get?_update_other _ _ (Ne.symm hb)).trans q)
  exact wpAny_pure ⟨plainId_quiet PySem.F.plain_extend_loop _, en_loop (s := s) (h₁ := s.heap) D hne hef hSf heS hiS hn res hR n 0 _ s.toks _ #[] [] (Nat.sub_zero _) (Nat.zero_le _) (.inl ⟨rfl, .none, oth e _ (Nat.ne_of_lt heS) he⟩) (D.frame _ _ _ hst fun b hb o q => oth b o (fun z => hSf (z ▸ hb)) q)
    (fun b o hb _ _ q => oth b o hb q) hS3 rfl rfl ⟨.nil, (fun _ z => nomatch z), fun j a z => by simp at z⟩⟩
theorem en_init {R : Result → Shared → Prop} {e it S : Addr} {fp : List Addr} {n : Nat} {P : Nat → Value → Prop} {St : Nat → Heap → Prop} (D : Draws prog w A.in1.in1 it fp n P St) (hne : e ≠ it) (hef : e ∉ fp) (hSf : S ∉ fp) (heS : e < S) (hiS : it < S) (hn : n ≤ sizeLine)
    (he : IsEnum s.heap e it 0 .none) (hst : St 0 s.heap) (hS : s.heap.get? S = some { cls := .type "list", data := .seq #[] })
    (hR : ∀ h' tk acc c as, (∀ b o, b ≠ S → b ≠ e → b ≠ it → s.heap.get? b = some o → h'.get? b = some o) → h'.get? S = some { cls := .type "list", dict := none, data := .seq acc c, slots := #[] } → as.length = n → Prs P S h' as → acc.toList = as.map Value.ref → R (.ok (.ret .none)) { s with heap := h', toks := tk }) :
    wpAny (model prog w) A.in1 (Builtin.«list.__init__» ⟨[.ref S, .ref e], []⟩)
      (fun fin s' => match fin with | .done f => R (.ok f) s' | .again c' => c'.quiet = true ∧ codeAny (model prog w) A c' R s') (fun x s' => R (.error x) s') s := by
  show wpAny _ _ (do let old ← Builtin.List.listItems (.ref S); Builtin.List.listUpdate (.ref S) (fun _ => #[]); letGo old.toList.reverse; Builtin.List.listExtendWith (.ref S) (.ref e) .none) _ _ s
  refine wpAny_bind ?_
  unfold Builtin.List.listItems
  refine wpAny_bind (wpAny_seqItems hS rfl (wpAny_pure ?_))
  show wpAny _ _ (updateSeq S (fun _ => #[]) >>= fun _ => letGo (#[] : Array Value).toList.reverse >>= fun _ => Builtin.List.listExtendWith (.ref S) (.ref e) .none) _ _ s
  refine wpAny_bind (wpAny_updateSeq hS rfl ?_)
  have hS2 := Heap.get?_update_self (Obj.mapSeq (fun _ => (#[] : Array Value))) hS rfl
  have oth : ∀ b o, b ≠ S → s.heap.get? b = some o → (s.heap.update S (Obj.mapSeq (fun _ => (#[] : Array Value)))).get? b = some o := fun b o hb q => (Heap.get?_update_other _ _ (Ne.symm hb)).trans q
  refine wpAny_bind (wpAny_letGo ?_)
  exact en_extend D hne hef hSf heS hiS hn .none _ (oth e _ (Nat.ne_of_lt heS) he) (D.frame _ _ _ hst fun b hb o q => oth b o (fun z => hSf (z ▸ hb)) q) hS2 fun h' tk acc c as kp => hR h' tk acc c as fun b o h1 h2 h3 q => kp b o h1 h2 h3 (oth b o h1 q)
theorem en_call {Q : Value → Shared → Prop} {e it : Addr} {fp : List Addr} {n : Nat} {P : Nat → Value → Prop} {St : Nat → Heap → Prop} (D : Draws prog w A.in1.in1.in1 it fp n P St) (hne : e ≠ it) (hef : e ∉ fp) (hfp : ∀ b ∈ fp, b < s.heap.objs.size) (hil : it < s.heap.objs.size) (hn : n ≤ sizeLine)
    (he : IsEnum s.heap e it 0 .none) (hst : St 0 s.heap)
    (hQ : ∀ h' tk acc c as, (∀ b o, b ≠ e → b ≠ it → s.heap.get? b = some o → h'.get? b = some o) → h'.get? s.heap.objs.size = some { cls := .type "list", dict := none, data := .seq acc c, slots := #[] } → as.length = n → Prs P s.heap.objs.size h' as → acc.toList = as.map Value.ref → Q (.ref s.heap.objs.size) { s with heap := h', toks := tk }) :
    wpAny (model prog w) A (call (.type "list") [.ref e]) Q E s := by
  refine callType_codes (Q₁ := fun obj s₁ => obj = .ref s.heap.objs.size ∧ s₁ = { s with heap := s.heap.push { cls := .type "list", data := .seq #[] } }) PySem.F.called_list (PySem.F.typeCall_list_1 _) PySem.F.entry_list_init (code_list_new _ ⟨rfl, rfl⟩) fun obj s₁ h₁ => ?_
  obtain ⟨rfl, rfl⟩ := h₁
  have hS : (s.heap.push { cls := .type "list", data := .seq #[] }).get? s.heap.objs.size = some { cls := .type "list", data := .seq #[] } := Heap.get?_push_size _ rfl
  refine ⟨⟨_, hS, rfl⟩, PySem.F.args_list_init_2 _ _, en_init (A := A.in1) D hne hef (fun z => Nat.lt_irrefl _ (hfp _ z)) (Heap.lt_size he) hil hn (Heap.get?_push_of_some _ he) (D.frame _ _ _ hst fun b _ o q => Heap.get?_push_of_some _ q) hS fun h' tk acc c as kp hS' hl hG hacc => ?_⟩
  exact ⟨rfl, hQ h' tk acc c as (fun b o h1 h2 q => kp b o (Nat.ne_of_lt (Heap.lt_size q)) h1 h2 (Heap.get?_push_of_some _ q)) hS' hl hG hacc⟩
end
section
variable {X : Cx} {pins : List (Addr × Obj)} {σ : L2.St} {H H' : Hp} {s : Shared} {h' : Heap} {tk : Nat}
/-- many new objects at once -/
theorem lay_many (I : L2.Inv X pins σ H s) (hk : ∀ b o, s.heap.get? b = some o → h'.get? b = some o) (kp : ∀ b u, H b = some u → H' b = some u)
    (new : ∀ b u, H' b = some u → H b = some u ∨ (s.heap.objs.size ≤ b ∧ ObjOk X.prog X.w H' h' b u)) : L2.Inv X pins σ H' { s with heap := h', toks := tk } := by
  refine I.call' (ch := []) rfl ⟨fun b o q _ _ _ => hk b o q, fun b o q _ _ _ => ⟨o.slots, hk b o q⟩, fun b o q n _ => ?_, fun b o q _ => ⟨o, hk b o q⟩, fun b xs q => kp b _ q, fun b o u q => kp b _ q, fun b ps q => ⟨#[], by rw [kp b _ q]; simp⟩⟩ (fun b u q => ?_) I.bare fun b z => by simp at z
  · cases e : H' b with
    | none => rfl
    | some u =>
      rcases new b u e with z | ⟨z, _⟩
      · rw [n] at z; cases z
      · exact absurd (Heap.lt_size q) (Nat.not_lt.mpr z)
  · rcases new b u q with z | ⟨_, z⟩
    · exact (I.hok b u z).stay (fun d v _ y => hk d v y) (fun d y => kp d _ y) fun d xs y => kp d _ y
    · exact z
end
def enK (xs : List V) : List (L2.Key × V) := xs.zipIdx.map fun p => (Sum.inl (p.2 : Int), p.1)
theorem enK_len (xs : List V) : (enK xs).length = xs.length := by simp [enK]
theorem enK_get {xs : List V} {j : Nat} {k : L2.Key} {x : V} (h : (enK xs)[j]? = some (k, x)) : k = Sum.inl (j : Int) ∧ xs[j]? = some x := by
  unfold enK at h
  rw [List.getElem?_map, Option.map_eq_some_iff] at h
  obtain ⟨⟨y, i⟩, e1, e2⟩ := h
  rw [List.getElem?_zipIdx, Option.map_eq_some_iff] at e1
  obtain ⟨z, e3, e4⟩ := e1
  cases e4
  cases e2
  exact ⟨by simp, e3⟩
def tLstEnum (K : PySem.W.Frag) (ta : TE) : TE := fun σ H Q => ta σ H fun x H1 => ∃ (a : Addr) (xs : List V), x = .ref a ∧ SqT K H1 a xs ∧
  ∀ (H' : Hp) (p : Addr) (ts : List Addr), (∀ b o, H1 b = some o → H' b = some o) → H1 p = none → (∀ t ∈ ts, H1 t = none) → H' p = some (.lst (ts.map V.ref)) → Paired (fun (t : Addr) (q : L2.Key × V) => H' t = some (.tup [kV q.1, q.2])) ts (enK xs) → Q (.ref p) H'
theorem boot_listT : bootBuiltins "list" = some (.type "list") := by decide +kernel
theorem pe_lstEnum {X : Cx} {a : Expr} {ta : TE} {p p2 q pos : Pos} (hc : X.calm = true) (hg : Gl X "list") (hm : X.mg "list" = none) (hg2 : Gl X "enumerate") (hm2 : X.mg "enumerate" = none) (ha : PE X a ta)
    (na : starEach [a] X.env = (false, eval a X.env) :: starEach [] X.env) : PE X (.Call (.Name "list" p) [.Call (.Name "enumerate" p2) [a] [] q] [] pos) (tLstEnum X.K ta) := by
  refine ⟨fun pins s σ H Q I h => ?_⟩
  refine Call_ (ld_blt I hg hm boot_listT ?_)
  refine PyProof.Rows.callWith_type1 (PyProof.Rows.args_cons ?_ rfl) rfl rfl
  refine Call_ (ld_blt I hg2 hm2 boot_enumerate ?_)
  refine PyProof.Rows.callWith_type1 (PyProof.Rows.args_cons (thn (ha.run pins s σ H _ I h) fun v s1 ⟨x, H1, I1, r1, q1⟩ => PyProof.Rows.args_nil ?_) na) na rfl
  obtain ⟨l, xs, rfl, hq, q1⟩ := q1
  cases r1
  obtain ⟨its, rv, p', hz⟩ := I1.tuple hq
  have hal : l < s1.heap.objs.size := by obtain ⟨o, ho, _⟩ := id p'; exact Heap.lt_size ho
  refine call1 (begins_tuple l its.toArray) p' fun h1 he hit hk => ?_
  refine PyProof.Rows.args_nil ?_
  have hsz : its.toArray.size = xs.length := by rw [List.size_toArray, ← rv.length]
  have pT : s1.heap.IsTuple l its.toArray := p'
  have p1 : h1.IsTuple l its.toArray := pT.at fun o q => hk l o q
  refine en_call (s := { s1 with heap := h1 }) (Draws.tuple (A := X.A.in1.in1.in1) (I1.ok.hd hc) s1.heap.objs.size l (Nat.ne_of_lt hal) its.toArray) (Nat.succ_ne_self _) (by simp; exact fun z => absurd hal (by rw [← z]; exact Nat.not_lt.mpr (Nat.le_succ _))) (fun b hb => ?_) (Heap.lt_size hit) (by rw [hsz]; exact hz) he ⟨⟨_, hit, rfl, rfl⟩, p1⟩ fun h' tk acc c as kp hS hl hG hacc => ?_
  · rcases (by simpa using hb : b = s1.heap.objs.size ∨ b = l) with z | z
    · rw [z]; exact Heap.lt_size hit
    · rw [z]; obtain ⟨o, ho, _⟩ := id p1; exact Heap.lt_size ho
  · have hle : s1.heap.objs.size ≤ h1.objs.size := Nat.le_of_lt (Heap.lt_size hit)
    have nd : as.Nodup := List.Pairwise.imp (fun {a b} (h : a < b) => Nat.ne_of_lt h) hG.rise
    have hSn : h1.objs.size ∉ as := fun z => Nat.lt_irrefl _ (hG.above _ z)
    have new : ∀ t ∈ as, H1 t = none := fun t ht => I1.hok.fresh (Nat.le_trans hle (Nat.le_of_lt (hG.above t ht)))
    have newS : H1 h1.objs.size = none := I1.hok.fresh hle
    have lk : as.length = (enK xs).length := by rw [enK_len, hl, hsz]
    have atP := LiI.putT_at as (enK xs) (upd H1 h1.objs.size (.lst (as.map V.ref))) lk nd
    have off : ∀ b, b ∉ as → b ≠ h1.objs.size → LiI.putT (upd H1 h1.objs.size (.lst (as.map V.ref))) as (enK xs) b = H1 b := fun b z1 z2 => by rw [LiI.putT_off as (enK xs) _ z1, upd_ne z2]
    have eS : LiI.putT (upd H1 h1.objs.size (.lst (as.map V.ref))) as (enK xs) h1.objs.size = some (.lst (as.map V.ref)) := by rw [LiI.putT_off as (enK xs) _ hSn, upd_same]
    have kp' : ∀ b u, H1 b = some u → LiI.putT (upd H1 h1.objs.size (.lst (as.map V.ref))) as (enK xs) b = some u := fun b u e => by
      rw [off b (fun z => by rw [new b z] at e; cases e) (fun z => by rw [z, newS] at e; cases e)]
      exact e
    have hk' : ∀ b o, s1.heap.get? b = some o → h'.get? b = some o := fun b o e => kp b o (Nat.ne_of_lt (Nat.lt_succ_of_lt (Heap.lt_size e))) (Nat.ne_of_lt (Heap.lt_size e)) (hk b o e)
    refine ⟨.ref h1.objs.size, LiI.putT (upd H1 h1.objs.size (.lst (as.map V.ref))) as (enK xs), (show L2.Inv X pins σ _ { s1 with heap := h', toks := tk } from lay_many (s := s1) I1 hk' kp' fun b u e => ?_), rfl, q1 _ _ as kp' newS new eS atP⟩
    by_cases hb : b ∈ as
    · refine .inr ⟨Nat.le_trans hle (Nat.le_of_lt (hG.above b hb)), ?_⟩
      obtain ⟨j, ⟨k, x⟩, e1, e2, e3⟩ := LiI.paired_ix atP hb
      rw [e3] at e
      cases e
      obtain ⟨rfl, hx⟩ := enK_get e2
      obtain ⟨t, y, hy, f3⟩ := hG.pairs j b e1
      obtain ⟨u, hu, ru⟩ := rv.get hx
      have ey : y = u := by
        have z : its[j]? = some y := by simpa using hy
        rw [hu] at z; exact (Option.some.inj z).symm
      subst ey
      exact ⟨by show 2 ≤ sizeLine; decide, [.int j t, y], .cons ⟨_, rfl⟩ (.cons ru .nil), ⟨_, f3, rfl, _, rfl⟩⟩
    · by_cases hb2 : b = h1.objs.size
      · rw [hb2] at e ⊢
        rw [eS] at e
        cases e
        refine .inr ⟨hle, by rw [List.length_map, hl, hsz]; exact hz, acc.toList, c, by rw [hacc]; exact LiI.vals_refs as, ?_⟩
        rw [Array.toArray_toList]
        exact hS
      · rw [off b hb hb2] at e
        exact .inl e
end QEn
namespace QRv
open PySem PySem.Spec PyProof.Rows L2
section
variable {prog : Program} {w : World} {A : Around} {E : Value → Shared → Prop} {s : Shared}
theorem adj_rev (n : Nat) : Builtin.Slice.sliceAdjust none none (-1) (n : Int) = ((n : Int) - 1, -1) := by
  unfold Builtin.Slice.sliceAdjust
  simp
theorem plc_rev (n : Nat) : Builtin.Slice.slicePlaces ((n : Int) - 1) (-1) (-1) = n := by
  unfold Builtin.Slice.slicePlaces
  simp
  split <;> omega
theorem fm_congr {α β : Type} {f g : α → Option β} : ∀ {l : List α}, (∀ x ∈ l, f x = g x) → l.filterMap f = l.filterMap g
  | [], _ => rfl
  | x :: l, h => by
    rw [List.filterMap_cons, List.filterMap_cons, h x List.mem_cons_self, fm_congr fun y hy => h y (List.mem_cons_of_mem _ hy)]
theorem pick_rev (xs : Array Value) : ((List.range xs.size).filterMap fun (m : Nat) => xs[(((xs.size : Int) - 1) + (m : Int) * (-1)).toNat]?).toArray = xs.toList.reverse.toArray := by
  have e : ((List.range xs.size).filterMap fun (m : Nat) => xs[(((xs.size : Int) - 1) + (m : Int) * (-1)).toNat]?) = ((List.range xs.size).map fun k => xs.size - 1 - k).filterMap (xs[·]?) := by
    rw [List.filterMap_map]
    refine fm_congr fun m hm => ?_
    have := List.mem_range.mp hm
    have q : (((xs.size : Int) - 1) + (m : Int) * (-1)).toNat = xs.size - 1 - m := by omega
    simp only [Function.comp, q]
  rw [e, PySem.W.krv_range, List.filterMap_reverse, PySem.W.krv_all]
theorem applied_rev {sl : Addr} {u : Tok} {n : Nat} {Q : Int × Int × Nat → Shared → Prop} (hs : s.heap.IsSliceOf sl .none .none (.int (-1) u))
    (h : Q ((n : Int) - 1, -1, n) s) : wpAny (model prog w) A (Builtin.Slice.sliceApplied (.ref sl) (pure (n : Int))) Q E s := by
  obtain ⟨os, hos, hcs, hds⟩ := id hs
  unfold Builtin.Slice.sliceApplied Builtin.Slice.sliceFields
  refine wpAny_bind (wpAny_bind (wpAny_field hos hds (x := .none) rfl (wpAny_bind (wpAny_field hos hds (x := .none) rfl (wpAny_bind (wpAny_field hos hds (x := .int (-1) u) rfl (wpAny_pure ?_)))))))
  refine wpAny_bind (HT.slicePart_ (.int (-1) u) ?_)
  show wpAny _ _ (if ((-1 : Int) == 0) = true then _ else _) _ _ s
  rw [if_neg (by decide)]
  refine wpAny_bind (HT.slicePart_ .none (wpAny_bind (HT.slicePart_ .none (wpAny_bind (wpAny_pure ?_)))))
  show wpAny _ _ (match Builtin.Slice.sliceAdjust none none (-1) (n : Int) with | (lo, hi) => pure (lo, (-1 : Int), Builtin.Slice.slicePlaces lo hi (-1))) _ _ s
  rw [adj_rev n]
  show wpAny _ _ (pure (((n : Int) - 1), (-1 : Int), Builtin.Slice.slicePlaces ((n : Int) - 1) (-1) (-1))) _ _ s
  rw [plc_rev]
  exact wpAny_pure h
theorem getItem_tuple_rev {t sl : Addr} {items : Array Value} {u : Tok} {Q : Value → Shared → Prop} (ht : IsTup s.heap t items) (hs : s.heap.IsSliceOf sl .none .none (.int (-1) u))
    (h : Q (.ref s.heap.objs.size) { s with heap := s.heap.push { cls := .type "tuple", data := .seq items.toList.reverse.toArray } })
    (hsz : items.size ≤ sizeLine) : wpAny (model prog w) A (getItem (.ref t) (.ref sl)) Q E s := by
  have htake : sizeOk (.seq items.toList.reverse.toArray) := by
    show items.toList.reverse.toArray.size ≤ sizeLine
    rw [List.size_toArray, List.length_reverse, Array.length_toList]
    omega
  obtain ⟨os, hos, hcs, hds⟩ := id hs
  have hTs : s.TypeIs (.ref sl) "slice" := ⟨os, hos, hcs⟩
  unfold getItem
  try with_reducible refine wpAny_holding ?_
  first | refine wpAny_bind (wpAny_pure ?_) | skip
  refine wpAny_bind (wpAny_sequenceKey ht.typeIs (by decide) ?_)
  refine wpAny_bind (wpAny_callSpecial?_slot (name := Str.ofString "__getitem__") ht.typeIs PyProof.Rows.slot_tuple_getitem
    (wpAny_call_entry PyProof.Rows.slot_tuple_getitem ht.typeIs entry_tuple_getitem ?_ (args_tuple_getitem _ _)))
  show wpAny _ _ (Builtin.Tuple.tupleItemsOf (.ref t) >>= _) _ _ s
  refine wpAny_bind (tupleItemsOf_ ht ?_)
  refine wpAny_bind (wpAny_typeOf hTs ?_)
  rw [if_pos (by decide)]
  refine wpAny_bind (applied_rev hs ?_)
  have hno : ¬ ((((items.size : Int) - 1) == 0 && (-1 : Int) == 1 && items.size == items.size) = true) := by
    simp
  show wpAny _ _ (if (((items.size : Int) - 1) == 0 && (-1 : Int) == 1 && items.size == items.size) = true then _ else _) _ _ s
  rw [if_neg hno, pick_rev]
  first
    | exact wpAny_bind (m := Builtin.Tuple.tupleExact _) (wpAny_newObj_type (wpAny_pure ⟨_, rfl, wpAny_pure h⟩) htake)
    | exact wpAny_bind (m := Builtin.Tuple.tupleExact _) (wpAny_newObj_type (wpAny_bind (wpAny_pure (wpAny_pure ⟨_, rfl, wpAny_pure h⟩))) htake)
    | exact wpAny_bind (wpAny_bind (m := Builtin.Tuple.tupleExact _) (wpAny_newObj_type (wpAny_pure (wpAny_pure ⟨_, rfl, wpAny_pure h⟩)) htake))
    | exact wpAny_bind (wpAny_bind (m := Builtin.Tuple.tupleExact _) (wpAny_newObj_type (wpAny_pure ⟨_, rfl, wpAny_pure h⟩) htake))
end
section
variable {X : Cx}
/-- xs[::-1] of a list or a tuple -/
def tRev (K : PySem.W.Frag) (te : TE) : TE := fun σ H Q => te σ H fun x H1 => ∃ a xs, x = .ref a ∧ ((SqL K H1 a xs ∧ ∀ p, H1 p = none → Q (.ref p) (upd H1 p (.lst xs.reverse))) ∨ (SqT K H1 a xs ∧ ∀ p, H1 p = none → Q (.ref p) (upd H1 p (.tup xs.reverse))))
theorem pe_rev {e : Expr} {te : TE} {k : Nat} {p1 p2 p3 pos : Pos} (he : PE X e te) : PE X (.Subscript e (.Slice none none (some (.UnaryOp .USub (.Constant (.int 1) k p1) p2)) p3) pos) (tRev X.K te) := by
  refine ⟨fun pins s σ H Q I h => ?_⟩
  refine Subscript_ (thn (he.run pins s σ H _ I h) fun v s1 ⟨x, H1, I1, r1, q1⟩ => ?_)
  obtain ⟨a, xs, ex, q⟩ := q1
  subst ex
  cases r1
  have hst : PO X (some (.UnaryOp .USub (.Constant (.int 1) k p1) p2)) (tPart (tUn (rU fun i => .int (-i)) (tC (.int 1)))) := po_some (pe_un un_neg pe_int)
  refine wpAny_Slice (thn (po_none.run pins s1 σ H1 (fun o H2 => o = none ∧ H2 = H1) I1 ⟨rfl, rfl⟩) fun vl s2 ⟨l, H2, I2, pl, el, e2⟩ => ?_)
  subst el e2
  refine thn (po_none.run pins s2 σ H2 (fun o H3 => o = none ∧ H3 = H2) I2 ⟨rfl, rfl⟩) fun vu s3 ⟨u, H3, I3, pu, eu, e3⟩ => ?_
  subst eu e3
  refine thn (hst.run pins s3 σ H3 (fun o H4 => o = some (-1) ∧ H4 = H3) I3 ⟨1, rfl, -1, rfl, rfl, rfl⟩) fun vs s4 ⟨o, H4, I4, ps, eo, e4⟩ => ?_
  subst eo e4
  have I5 : Inv X pins σ H4 { s4 with heap := s4.heap.push { cls := .type "slice", data := .fields #[vl, vu, vs] } } := I4.kept (t' := s4.toks) fun b ob q => Heap.get?_push_of_some _ q
  show wpAny (model X.prog X.w) X.A (subscriptTail e (.Slice none none (some (.UnaryOp .USub (.Constant (.int 1) k p1) p2)) p3) (.ref a) (.ref s4.heap.objs.size)) (EP X pins σ Q) X.xe { s4 with heap := s4.heap.push { cls := .type "slice", data := .fields #[vl, vu, vs] } }
  rcases q with ⟨hx, q⟩ | ⟨hx, q⟩
  · obtain ⟨its, r, ht, hz⟩ := I5.list hx
    have hlen := r.length
    refine tail_any (ops := [.ref a, .ref s4.heap.objs.size]) ht.isList.typeIs (PySem.slot_list_getitem.lookup) ?_ (by with_unfolding_all rfl)
    refine wpAny_getItem_list_slice ht.isList (Heap.IsSliceOf.new _ vl vu vs) pl pu ps (by decide) ?_ (by rw [List.size_toArray]; omega)
    rw [PySem.W.krv_pick]
    refine ⟨.ref _, _, I5.laid (t' := s4.toks) (o := .lst xs.reverse) (fun b ob q => Heap.get?_push_of_some _ q) (Nat.le_refl _) ?_, rfl, q _ (I5.hok.fresh (Nat.le_refl _))⟩
    exact ⟨by rw [List.length_reverse]; exact hz, _, 0, r.reverse, Heap.get?_push_size _ rfl⟩
  · obtain ⟨its, r, ht, hz⟩ := I5.tuple hx
    have hlen := r.length
    cases pl
    cases pu
    cases ps with
    | int _ u =>
    refine tail_any (ops := [.ref a, .ref s4.heap.objs.size]) ht.typeIs (PyProof.Rows.slot_tuple_getitem.lookup) ?_ (by with_unfolding_all rfl)
    refine getItem_tuple_rev ht (Heap.IsSliceOf.new _ _ _ _) ?_ (by rw [List.size_toArray]; omega)
    refine ⟨.ref _, _, I5.laid (t' := s4.toks) (o := .tup xs.reverse) (fun b ob q => Heap.get?_push_of_some _ q) (Nat.le_refl _) ?_, rfl, q _ (I5.hok.fresh (Nat.le_refl _))⟩
    exact ⟨by rw [List.length_reverse]; exact hz, _, r.reverse, ⟨_, Heap.get?_push_size _ rfl, rfl, _, rfl⟩⟩
end
end QRv
namespace QSe
open PySem PySem.Spec PyProof.Rows L2
section
variable {P : Program} {w : World} {A : Around} {E : Value → Shared → Prop} {s : Shared}
theorem call_set_lstI {l : Addr} {items : Array Value} (ns : List Int) {Q : Value → Shared → Prop} (hh : A.handled = none) (hl : s.heap.IsList l items) (hit : IntsAre items.toList ns) (hb : ns.length + 1 < scanBound)
    (h : ∀ (h' : Heap) (tk c : Nat), SetR w h' s.heap.objs.size (fun j => decide (j ∈ ns)) c → c ≤ ns.length → (∀ b o, s.heap.get? b = some o → h'.get? b = some o) → Q (.ref s.heap.objs.size) { s with heap := h', toks := tk }) :
    wpAny (model P w) A (call (.type "set") [.ref l]) Q E s := by
  have hisz : items.size = ns.length := by
    have q := IntsAre.length hit
    rw [Array.length_toList] at q
    exact q
  obtain ⟨c, tl, hmro⟩ := F.called_set.mro
  have hmade := F.called_set.made
  have hsub := F.called_set.sub
  refine wpAny_call (codeAny_of_tree ?_)
  show wpAny _ _ (callAny (.type "set") _) _ _ _
  refine wpAny_pure ⟨Code.quiet_builtin _ (by decide +kernel), codeAny_builtin F.entry_type_call ?_⟩
  rw [Around.under_plain (weight_type_call_type "set" [.ref l] []) rfl]
  have h1 := F.called_set.notType
  have h2 := F.called_set.canCreate
  have hct := F.typeCall_set_1 (.ref l)
  repeat (any_goals (first | assumption | wp_step))

  refine codeAny_mono (code_set_led1 (.ref l) (E := E) (Q₁ := fun obj s₁ => obj = .ref s.heap.objs.size ∧ s₁ = { s with heap := s.heap.push { cls := .type "set", dict := none, data := .set #[] 0 (.fresh 0 0 (!w.params.followText "set-order")) } }) ⟨rfl, rfl⟩) fun r s₁ hr => ?_
  cases r with
  | error e => exact hr
  | ok fl =>
    cases fl with
    | ret obj =>
      obtain ⟨rfl, rfl⟩ := hr
      have hS : (s.heap.push { cls := .type "set", dict := none, data := .set #[] 0 (.fresh 0 0 (!w.params.followText "set-order")) }).get? s.heap.objs.size = some { cls := .type "set", dict := none, data := .set #[] 0 (.fresh 0 0 (!w.params.followText "set-order")) } := Heap.get?_push_size _ rfl
      have hT : Shared.TypeIs { s with heap := s.heap.push { cls := .type "set", dict := none, data := .set #[] 0 (.fresh 0 0 (!w.params.followText "set-order")) } } (.ref s.heap.objs.size) "set" := ⟨_, hS, rfl⟩
      have hli := F.called_set.init.lookup
      have hbi := F.called_set.init.bind (.ref s.heap.objs.size)
      repeat (any_goals (first | assumption | wp_step))

      refine codeAny_mono (codeAny_call_builtin (R := wants (fun r s₂ => r = .none ∧ ∃ h' tk c, s₂ = { s with heap := h', toks := tk } ∧ SetR w h' s.heap.objs.size (fun j => decide (j ∈ ns)) c ∧ c ≤ ns.length ∧
          (∀ b o, s.heap.get? b = some o → h'.get? b = some o)) E) F.called_set.init.plain F.entry_set_init (check_set_init_1 hT ?_)) fun r₂ s₂ hr₂ => ?_
      · obtain ⟨ol, hol, hcl, nl, hdl⟩ := hl
        obtain ⟨ocls, odict, odata, oslots⟩ := ol
        simp only at hcl hdl
        subst hcl; subst hdl
        have hol' : (s.heap.push { cls := .type "set", dict := none, data := .set #[] 0 (.fresh 0 0 (!w.params.followText "set-order")) }).get? l = some { cls := .type "list", dict := odict, data := .seq items nl, slots := oslots } := Heap.get?_push_of_some _ hol
        have hsls := F.sub_list_set
        have hslf := F.sub_list_frozenset
        have hne : (Value.type "list" == Value.type "dict") = false := by decide
        have hl1 : (s.heap.push { cls := .type "set", dict := none, data := .set #[] 0 (.fresh 0 0 (!w.params.followText "set-order")) }).IsList l items := ⟨_, hol', rfl, nl, rfl⟩
        unfold Builtin.«set.__init__» noKeywords Builtin.Frozenset.updateFrom
        generalize hPI : pyIter = PI
        wp_walk
        subst hPI

        refine wpAny_pyIter_list hl1 ?_
        refine wpAny_bind (wpAny_runValue ?_)
        have hlS : l < s.heap.objs.size := Heap.lt_size hol
        have hh3 : A.in1.in1.in1.handled = none := by simp [hh]
        have hz1 : (s.heap.push { cls := .type "set", dict := none, data := .set #[] 0 (.fresh 0 0 (!w.params.followText "set-order")) }).objs.size = s.heap.objs.size + 1 := Heap.size_push ..
        have hneI : l ≠ (s.heap.push { cls := .type "set", dict := none, data := .set #[] 0 (.fresh 0 0 (!w.params.followText "set-order")) }).objs.size := by
          rw [Heap.size_push]; exact Nat.ne_of_lt (Nat.lt_succ_of_lt hlS)
        have hSf : s.heap.objs.size ∉ [(s.heap.push { cls := .type "set", dict := none, data := .set #[] 0 (.fresh 0 0 (!w.params.followText "set-order")) }).objs.size, l] := by
          rw [Heap.size_push]; simp only [List.mem_cons, List.mem_singleton, List.not_mem_nil, or_false, not_or]
          exact ⟨Nat.ne_of_lt (Nat.lt_succ_self _), Nat.ne_of_gt hlS⟩
        have hval : ∀ (i : Nat) (v : Value), items[i]? = some v → ∃ k t, ns[i]? = some k ∧ v = .int k t := fun i v hv => by
          have hi : i < ns.length := by rw [← hisz]; exact (Array.getElem?_eq_some_iff.mp hv).1
          obtain ⟨t, e⟩ := PyProof.Rows.IntsAre.int_at hit i v (by rw [Array.getElem?_toList]; exact hv)
          refine ⟨ns[i], t, List.getElem?_eq_getElem hi, ?_⟩
          rw [e, List.getD_eq_getElem?_getD, List.getElem?_eq_getElem hi] <;> rfl
        refine set_update_ints ((Walks.list hh3 _ l hneI items).toS) s.heap.objs.size
          hSf ns hisz hb hval (items.size - 0) 0 _ (by omega) (Nat.zero_le _)
          ⟨⟨_, Heap.get?_push_size _ rfl, rfl, rfl⟩, (hl1.push _)⟩ ?hS0 ?hR
        case hS0 =>
          have hget : ((s.heap.push { cls := .type "set", dict := none, data := .set #[] 0 (.fresh 0 0 (!w.params.followText "set-order")) }).push { cls := .type "list_iterator", data := .fields #[.ref l, .int 0 0] }).get? s.heap.objs.size
              = some { cls := .type "set", dict := none, data := .set #[] 0 (.fresh 0 0 (!w.params.followText "set-order")) } := Heap.get?_push_of_some _ hS
          exact ⟨0, Nat.le_refl 0, setR_new_at hget⟩
        case hR =>
          intro s' c' hm hc' hS'
          obtain ⟨h', g2, d', tk', os'⟩ := s'
          have eg : g2 = s.gens := hm.gens
          have ed : d' = s.drawn := hm.drawn
          have eo : os' = s.os := hm.os
          subst eg; subst ed; subst eo
          show wpAny _ _ _ _ _ _
          refine wpAny_pure ?_
          show wpAny _ _ (ret Value.none) _ _ _
          rw [hisz] at hc'
          refine wpAny_pure ⟨rfl, h', tk', c', rfl, hS', hc', fun b o e => ?_⟩
          have hb0 : b < s.heap.objs.size := Heap.lt_size e
          have hb1 : b ≠ s.heap.objs.size := Nat.ne_of_lt hb0
          have hb2 : b ≠ (s.heap.push { cls := .type "set", dict := none, data := .set #[] 0 (.fresh 0 0 (!w.params.followText "set-order")) }).objs.size := by
            rw [Heap.size_push]; exact Nat.ne_of_lt (Nat.lt_succ_of_lt hb0)
          exact hm.heap b o (by simp only [List.mem_cons, List.mem_singleton, List.not_mem_nil, or_false, not_or]; exact ⟨hb1, hb2⟩) (Heap.get?_push_of_some _ (Heap.get?_push_of_some _ e))

      · cases r₂ with
        | error e => exact hr₂
        | ok fl₂ =>
          cases fl₂ with
          | ret r =>
            obtain ⟨rfl, h', tk, c', rfl, hS', hc', hk'⟩ := hr₂
            repeat (any_goals (first | assumption | wp_step))
            exact h _ _ _ hS' hc' hk'
          | _ => exact hr₂.elim
    | _ => exact hr.elim

end
end QSe
namespace QSe
open PySem PySem.Spec PyProof.Rows L2
/-! ### distinct ints, sorted -/
def insI (k : Int) : List Int → List Int
  | [] => [k]
  | x :: r => if k < x then k :: x :: r else if k = x then x :: r else x :: insI k r
def srtI : List Int → List Int
  | [] => []
  | k :: r => insI k (srtI r)
theorem mem_insI {k j : Int} : ∀ {l : List Int}, j ∈ insI k l ↔ j = k ∨ j ∈ l
  | [] => by simp [insI]
  | x :: r => by
    unfold insI
    split
    · simp
    · split
      · rename_i h; subst h; simp
      · simp only [List.mem_cons, mem_insI (l := r)]
        constructor
        · rintro (h | h | h)
          · exact .inr (.inl h)
          · exact .inl h
          · exact .inr (.inr h)
        · rintro (h | h | h)
          · exact .inr (.inl h)
          · exact .inl h
          · exact .inr (.inr h)
theorem mem_srtI {j : Int} : ∀ {l : List Int}, j ∈ srtI l ↔ j ∈ l
  | [] => by simp [srtI]
  | x :: r => by simp only [srtI, mem_insI, List.mem_cons, mem_srtI (l := r)]
theorem pw_insI {k : Int} : ∀ {l : List Int}, l.Pairwise (· < ·) → (insI k l).Pairwise (· < ·)
  | [], _ => by simp [insI]
  | x :: r, h => by
    rw [List.pairwise_cons] at h
    unfold insI
    split
    · rename_i q
      refine List.pairwise_cons.mpr ⟨fun y hy => ?_, List.pairwise_cons.mpr h⟩
      rcases List.mem_cons.mp hy with z | z
      · rw [z]; exact q
      · exact Int.lt_trans q (h.1 y z)
    · split
      · exact List.pairwise_cons.mpr h
      · refine List.pairwise_cons.mpr ⟨fun y hy => ?_, pw_insI h.2⟩
        rcases mem_insI.mp hy with z | z
        · omega
        · exact h.1 y z
theorem pw_srtI : ∀ (l : List Int), (srtI l).Pairwise (· < ·)
  | [] => by simp [srtI]
  | x :: r => pw_insI (pw_srtI r)
theorem pw_uniq : ∀ {a b : List Int}, a.Pairwise (· < ·) → b.Pairwise (· < ·) → (∀ j, j ∈ a ↔ j ∈ b) → a = b
  | [], [], _, _, _ => rfl
  | [], y :: b, _, _, h => absurd ((h y).mpr List.mem_cons_self) (by simp)
  | x :: a, [], _, _, h => absurd ((h x).mp List.mem_cons_self) (by simp)
  | x :: a, y :: b, ha, hb, h => by
    rw [List.pairwise_cons] at ha hb
    have e : x = y := by
      rcases List.mem_cons.mp ((h x).mp List.mem_cons_self) with z | z
      · exact z
      · rcases List.mem_cons.mp ((h y).mpr List.mem_cons_self) with z2 | z2
        · exact z2.symm
        · have := hb.1 x z
          have := ha.1 y z2
          omega
    subst e
    rw [pw_uniq ha.2 hb.2 fun j => ?_]
    constructor
    · intro hj
      rcases List.mem_cons.mp ((h j).mp (List.mem_cons_of_mem _ hj)) with z | z
      · have := ha.1 j hj; omega
      · exact z
    · intro hj
      rcases List.mem_cons.mp ((h j).mpr (List.mem_cons_of_mem _ hj)) with z | z
      · have := hb.1 j hj; omega
      · exact z
theorem pw_nodup {a : List Int} (h : a.Pairwise (· < ·)) : a.Nodup := h.imp fun q => by omega
theorem setR_card {w : World} {h : Heap} {a : Addr} {ns : List Int} {c : Nat} (R : SetR w h a (fun j => decide (j ∈ ns)) c) : c = (srtI ns).length := by
  obtain ⟨o, es, ep, t, ho, hx, hd, g, nd, hm, hb, hf, hn, _⟩ := R
  have p : (es.toList.map keyOf).Perm (srtI ns) := (List.perm_ext_iff_of_nodup nd (pw_nodup (pw_srtI ns))).mpr fun j => by
    rw [← hm j, mem_srtI]; simp
  have := p.length_eq
  rw [List.length_map, Array.length_toList, hn] at this
  exact this
section
variable {X : Cx} {a : Expr} {ta : TE} {p p2 q pos : Pos}
def SqI (K : PySem.W.Frag) (H : Hp) (x : V) (ns : List Int) : Prop := ∃ l, x = .ref l ∧ (SqL K H l (ns.map V.int) ∨ SqT K H l (ns.map V.int))
def tSrtSet (K : PySem.W.Frag) (ta : TE) : TE := fun σ H Q => ta σ H fun x H1 => ∃ ns, SqI K H1 x ns ∧ ns.length ≤ 4000 ∧ (srtI ns).length < 64 ∧ ∀ p, H1 p = none → Q (.ref p) (upd H1 p (.lst ((srtI ns).map V.int)))
def tLenSet (K : PySem.W.Frag) (ta : TE) : TE := fun σ H Q => ta σ H fun x H1 => ∃ ns, SqI K H1 x ns ∧ ns.length ≤ 4000 ∧ Q (.int ((srtI ns).length : Nat)) H1
theorem call_setI {pins : List (Addr × Obj)} {σ : L2.St} {H : Hp} {s : Shared} {x : V} {v : Value} {ns : List Int} {A : Around} {E : Value → Shared → Prop} {Q : Value → Shared → Prop} (I : L2.Inv X pins σ H s) (r1 : L2.RelV x v) (hx : SqI X.K H x ns) (hl : ns.length ≤ 4000) (hh : A.handled = none)
    (h : ∀ (h' : Heap) (tk : Nat), SetR X.w h' s.heap.objs.size (fun j => decide (j ∈ ns)) (srtI ns).length → L2.Inv X pins σ H { s with heap := h', toks := tk } → L2.Inv X pins σ (upd H s.heap.objs.size (SetO X.w s.heap.objs.size (fun j => decide (j ∈ ns)) (srtI ns).length)) { s with heap := h', toks := tk } → Q (.ref s.heap.objs.size) { s with heap := h', toks := tk }) :
    wpAny (model X.prog X.w) A (call (.type "set") [v]) Q E s := by
  obtain ⟨l, rfl, hq⟩ := hx
  cases r1
  have fin : ∀ (h' : Heap) (tk c : Nat), SetR X.w h' s.heap.objs.size (fun j => decide (j ∈ ns)) c → c ≤ ns.length → (∀ b o, s.heap.get? b = some o → h'.get? b = some o) → Q (.ref s.heap.objs.size) { s with heap := h', toks := tk } := fun h' tk c R _ k => by
    have e := setR_card R
    subst e
    exact h h' tk R (I.kept fun b o q => k b o q) (I.laid (t' := tk) (fun b u q => k b u q) (Nat.le_refl _) (setO_new R))
  rcases hq with hq | hq
  · obtain ⟨its, r, pl, hz⟩ := I.list hq
    have hi := intsAre_of r
    exact call_set_lstI ns hh pl.isList (by simpa using hi) (by unfold scanBound; omega) fin
  · obtain ⟨its, r, pl, hz⟩ := I.tuple hq
    have hi := intsAre_of r
    exact call_set_tupI ns hh pl (by simpa using hi) (by unfold scanBound; omega) fin
theorem pe_lenSet (hc : X.calm = true) (hg : Gl X "len") (hm : X.mg "len" = none) (hg2 : Gl X "set") (hm2 : X.mg "set" = none) (ha : PE X a ta) (na : starEach [a] X.env = (false, eval a X.env) :: starEach [] X.env) :
    PE X (.Call (.Name "len" p) [.Call (.Name "set" p2) [a] [] q] [] pos) (tLenSet X.K ta) := by
  refine ⟨fun pins s σ H Q I h => ?_⟩
  refine Call_ (ld_blt I hg hm boot_len ?_)
  refine PyProof.Rows.callWith_builtin1 (PyProof.Rows.args_cons ?_ rfl) rfl rfl
  refine Call_ (ld_blt I hg2 hm2 boot_set ?_)
  refine PyProof.Rows.callWith_type1 (PyProof.Rows.args_cons (thn (ha.run pins s σ H _ I h) fun v s1 ⟨x, H1, I1, r1, q1⟩ => PyProof.Rows.args_nil ?_) na) na rfl
  obtain ⟨ns, hx, hl, q1⟩ := q1
  refine call_setI I1 r1 hx hl (I1.ok.hd hc) fun h' tk R I2 _ => ?_
  refine PyProof.Rows.args_nil ?_
  obtain ⟨o, es, ep, t, ho, hex, hd, _, _, _, _, hf, hn, _⟩ := R
  have hle : (srtI ns).length ≤ 4000 := by
    have : ∀ l : List Int, (srtI l).length ≤ l.length := fun l => by
      induction l with
      | nil => exact Nat.le_refl _
      | cons x r ih =>
        have : ∀ (k : Int) (m : List Int), (insI k m).length ≤ m.length + 1 := fun k m => by
          induction m with
          | nil => simp [insI]
          | cons y m ih2 => unfold insI; split <;> (try split) <;> simp at * <;> omega
        have := this x (srtI r)
        simp [srtI] at *; omega
    have := this ns
    omega
  exact call_len_set ho hex hd hf (by rw [hn]; omega) ⟨.int (srtI ns).length, H1, I2.tok _, ⟨_, by rw [hn]⟩, q1⟩
theorem pe_srtSet (hc : X.calm = true) (hg : Gl X "sorted") (hm : X.mg "sorted" = none) (hg2 : Gl X "set") (hm2 : X.mg "set" = none) (ha : PE X a ta) (na : starEach [a] X.env = (false, eval a X.env) :: starEach [] X.env) :
    PE X (.Call (.Name "sorted" p) [.Call (.Name "set" p2) [a] [] q] [] pos) (tSrtSet X.K ta) := by
  refine ⟨fun pins s σ H Q I h => ?_⟩
  refine Call_ (ld_blt I hg hm boot_sorted ?_)
  refine PyProof.Rows.callWith_builtin1 (PyProof.Rows.args_cons ?_ rfl) rfl rfl
  refine Call_ (ld_blt I hg2 hm2 boot_set ?_)
  refine PyProof.Rows.callWith_type1 (PyProof.Rows.args_cons (thn (ha.run pins s σ H _ I h) fun v s1 ⟨x, H1, I1, r1, q1⟩ => PyProof.Rows.args_nil ?_) na) na rfl
  obtain ⟨ns, hx, hl, h64, q1⟩ := q1
  refine call_setI I1 r1 hx hl (I1.ok.hd hc) fun h' tk R I2 _ => ?_
  refine PyProof.Rows.args_nil ?_
  refine sorted_set R (I2.ok.hd hc) h64 fun s' p out c ms k g o hp hgt hi hs hm' hln => ?_
  have e : ms = srtI ns := pw_uniq hs (pw_srtI ns) fun j => by rw [hm' j, mem_srtI]; simp
  subst e
  have hlen : ((srtI ns).map V.int).length ≤ sizeLine := by rw [List.length_map, sizeLine_eq]; omega
  have hn : H1 p = none := I2.hok.fresh hp
  have J : L2.Inv X pins σ (upd H1 p (.lst ((srtI ns).map V.int))) { ({ s1 with heap := h', toks := tk } : Shared) with heap := s'.heap, gens := s'.gens, drawn := s'.drawn, toks := s'.toks } :=
    I2.call (ch := []) (Un.laid k hp hn) (I2.hok.laid k hp ⟨hlen, out.toList, c, vals_of_ints hi, hgt⟩) (by rw [g]; exact I2.bare) (fun _ z => nomatch z)
  have e : s' = { ({ s1 with heap := h', toks := tk } : Shared) with heap := s'.heap, gens := s'.gens, drawn := s'.drawn, toks := s'.toks } := by
    cases s'
    cases s1
    cases o
    rfl
  rw [e]
  exact ⟨.ref p, _, J, rfl, q1 p hn⟩
end
end QSe
namespace Q
open PySem PySem.Spec PyProof.Rows L2
/-! ### enumerate -/
def enumF : Nat → List PyData → List PyData
  | _, [] => []
  | i, x :: xs => .tuple [.int (i : Int), x] :: enumF (i + 1) xs
abbrev enumD (xs : List PyData) : List PyData := enumF 0 xs
theorem enumF_len : ∀ (xs : List PyData) (i : Nat), (enumF i xs).length = xs.length
  | [], _ => rfl
  | _ :: xs, i => by simp [enumF, enumF_len xs]
theorem enumF_get : ∀ {xs : List PyData} {k i : Nat} {d : PyData}, (enumF k xs)[i]? = some d → ∃ x, xs[i]? = some x ∧ d = .tuple [.int ((k + i : Nat) : Int), x]
  | [], _, _, _, h => by simp [enumF] at h
  | x :: xs, k, 0, d, h => by simp [enumF] at h; exact ⟨x, rfl, by rw [← h]; simp⟩
  | x :: xs, k, i + 1, d, h => by
    obtain ⟨y, e1, e2⟩ := enumF_get (xs := xs) (k := k + 1) (i := i) (by simpa [enumF] using h)
    refine ⟨y, by simpa using e1, ?_⟩
    rw [e2]
    have : k + 1 + i = k + (i + 1) := by omega
    rw [this]
section
variable {Ω : Type} {W : Ω → Hp → Prop} {C : Cxx} {X : Cx} {a b c tg : Expr} {ta tb tc : TD Ω} {ts : TDa Ω} {pos : Pos}
def dEnum (t : TD Ω) : TDi Ω := fun E env ω Q => t E env ω fun x ω1 => match x with
  | .d (.list xs) => Q (enumD xs) ω1
  | .d (.tuple xs) => Q (enumD xs) ω1
  | _ => False
theorem walk_enum {K : PySem.W.Frag} {F : Hp} {l : Addr} {vs : List V} {xs : List PyData} (fa : F l = some (.lst vs)) (la : xs.length ≤ 1000000) (pa : Rps F vs xs) : Walk W (Ite K l) F (enumD xs) where
  stop := fun i H s h => ⟨vs, SqL.of (s _ _ fa), by rw [enumF_len] at h; rw [rps_len pa]; exact h⟩
  go := fun i H s h => by
    obtain ⟨x, hx, _⟩ := enumF_get (List.getElem?_eq_getElem h)
    obtain ⟨v, hv, _⟩ := rps_get pa hx
    exact ⟨vs, v, SqL.of (s _ _ fa), hv⟩
  yld := fun i H x H' d ω F1 M hw s hd hy => by
    obtain ⟨T, v0, rfl, nT, rfl, h1⟩ := hy
    obtain ⟨x, hx, rfl⟩ := enumF_get hd
    obtain ⟨v, hv, pv⟩ := rps_get pa hx
    have e := h1 vs (SqL.of (hw.fh _ _ (s _ _ fa)))
    rw [hv] at e
    obtain ⟨a1, a2⟩ := alloc (o := .tup [.int (i : Nat), v]) hw nT
    cases e
    exact ⟨_, a1, a2, .tup upd_same (by simp) (.cons (by rw [Nat.zero_add]; exact .int _) (.cons (rp_sub a2.f0 (rp_sub s pv)) .nil))⟩
  len := by rw [enumF_len]; exact la
theorem walk_enumT {K : PySem.W.Frag} {F : Hp} {l : Addr} {vs : List V} {xs : List PyData} (fa : F l = some (.tup vs)) (la : xs.length ≤ 1000000) (pa : Rps F vs xs) : Walk W (QEn.Itet K l) F (enumD xs) where
  stop := fun i H s h => ⟨vs, SqT.of (s _ _ fa), by rw [enumF_len] at h; rw [rps_len pa]; exact h⟩
  go := fun i H s h => by
    obtain ⟨x, hx, _⟩ := enumF_get (List.getElem?_eq_getElem h)
    obtain ⟨v, hv, _⟩ := rps_get pa hx
    exact ⟨vs, v, SqT.of (s _ _ fa), hv⟩
  yld := fun i H x H' d ω F1 M hw s hd hy => by
    obtain ⟨T, v0, rfl, nT, rfl, h1⟩ := hy
    obtain ⟨x, hx, rfl⟩ := enumF_get hd
    obtain ⟨v, hv, pv⟩ := rps_get pa hx
    have e := h1 vs (SqT.of (hw.fh _ _ (s _ _ fa)))
    rw [hv] at e
    obtain ⟨a1, a2⟩ := alloc (o := .tup [.int (i : Nat), v]) hw nT
    cases e
    exact ⟨_, a1, a2, .tup upd_same (by simp) (.cons (by rw [Nat.zero_add]; exact .int _) (.cons (rp_sub a2.f0 (rp_sub s pv)) .nil))⟩
  len := by rw [enumF_len]; exact la
theorem pi_or {e : Expr} {t t' : TI} (h : PI X tg e t) (h' : PI X tg e t') : PI X tg e (fun σ H R => t σ H R ∨ t' σ H R) := ⟨fun pins s σ H R I q => q.elim (h.run pins s σ H R I) (h'.run pins s σ H R I)⟩
/-- one rule for both -/
def iEn (K : PySem.W.Frag) (ta : TA) : TI := fun σ H R => ta σ H fun vs H1 => ∃ a, vs = [.ref a] ∧ ((∃ xs, SqL K H1 a xs ∧ R (Ite K a) H1) ∨ ∃ xs, SqT K H1 a xs ∧ R (QEn.Itet K a) H1)
theorem pi_en {e : Expr} {ta : TA} {p pos tpos : Pos} {elts : List Expr} {kk : Nat} (hg : Gl X "enumerate") (hm : X.mg "enumerate" = none) (ha : PA X [e] ta) (hs : starEach [e] X.env = [(false, eval e X.env)]) :
    PI X (.Tuple elts kk tpos) (.Call (.Name "enumerate" p) [e] [] pos) (iEn X.K ta) := by
  refine ⟨fun pins s σ H R I h => ?_⟩
  refine Call_ (ld_blt I hg hm boot_enumerate (PyProof.Rows.callWith_type1 (thn (ha.run pos pins s σ H _ I h) fun us s1 ⟨vs, H1, I1, r1, q1⟩ => ?_) hs rfl))
  obtain ⟨a, ex, q1⟩ := q1
  subst ex
  cases r1 with
  | cons r rr =>
    cases rr
    cases r
    have fr : ∀ b, b ∈ [s1.heap.objs.size + 1, s1.heap.objs.size] → FpOk X pins H1 b := fun b hb => by
      have hle : s1.heap.objs.size ≤ b := by
        rcases (by simpa using hb : b = s1.heap.objs.size + 1 ∨ b = s1.heap.objs.size) with z | z
        · rw [z]; exact Nat.le_add_right _ _
        · rw [z]; exact Nat.le_refl _
      exact I1.fpOk hle (I1.hok.fresh hle)
    rcases q1 with ⟨xs, hq, q⟩ | ⟨xs, hq, q⟩
    · obtain ⟨its, rv, p', hz⟩ := I1.list hq
      refine call_enumerate_list p'.isList fun h' he hit hsz hk => wpAny_pyIter_enum he ?_
      exact ⟨s1.heap.objs.size + 1, [s1.heap.objs.size + 1, s1.heap.objs.size], _, _, H1, rfl, I1.kept (t' := s1.toks) hk, turn_enum a (s1.heap.objs.size + 1) s1.heap.objs.size, ⟨⟨.none, he⟩, hit, Nat.succ_ne_self _⟩, fr, q⟩
    · obtain ⟨its, rv, p', hz⟩ := I1.tuple hq
      have hal : a < s1.heap.objs.size := by obtain ⟨o, ho, _⟩ := id p'; exact Heap.lt_size ho
      refine QEn.call1 (begins_tuple a its.toArray) p' fun h' he hit hk => wpAny_pyIter_enum he ?_
      exact ⟨s1.heap.objs.size + 1, [s1.heap.objs.size + 1, s1.heap.objs.size], _, _, H1, rfl, I1.kept (t' := s1.toks) hk, QEn.turn_enumT a (s1.heap.objs.size + 1) s1.heap.objs.size (Nat.succ_ne_self _) (Nat.ne_of_lt hal) (Nat.ne_of_gt (Nat.lt_succ_of_lt hal)), ⟨⟨.none, he⟩, ⟨_, hit, rfl, rfl⟩⟩, fr, q⟩
theorem di_enum {p tpos : Pos} {elts : List Expr} {kk : Nat} (hg : Gl X "enumerate") (hm : X.mg "enumerate" = none) (ha : PE X a (tOf W C ta)) (hs : starEach [a] X.env = (false, eval a X.env) :: starEach [] X.env) :
    PI X (.Tuple elts kk tpos) (.Call (.Name "enumerate" p) [a] [] pos) (iOf W C (dEnum ta)) := by
  refine pi_imp (pi_en hg hm (da_cons ha da_nil hs) hs) fun σ H R h => ?_
  obtain ⟨env, ω, F, M, Ec, Qc, j, ht, hx, k⟩ := h
  refine ⟨env, ω, F, M, Ec, fun ds ω1 => ∃ d, ds = [d] ∧ (match d with | .d (.list xs) => Qc (enumD xs) ω1 | .d (.tuple xs) => Qc (enumD xs) ω1 | _ => False), j, ?_, hx, fun ds ω1 vs H1 F1 M1 q1 hw1 ex1 r1 => ?_⟩
  · show ta Ec env ω _
    have : (fun x ω1 => dNil Ec env ω1 fun (xs : List D) ω2 => ∃ d, x :: xs = [d] ∧ (match d with | .d (.list xs) => Qc (enumD xs) ω2 | .d (.tuple xs) => Qc (enumD xs) ω2 | _ => False)) = fun x ω1 => match x with | .d (.list xs) => Qc (enumD xs) ω1 | .d (.tuple xs) => Qc (enumD xs) ω1 | _ => False := by
      funext x ω1
      simp only [dNil]
      apply propext
      constructor
      · rintro ⟨d, e, q⟩
        cases e
        exact q
      · intro q
        exact ⟨x, rfl, q⟩
    rw [this]
    exact ht
  · obtain ⟨d, rfl, q⟩ := q1
    obtain ⟨v, rfl, r⟩ := rds1 r1
    split at q
    · obtain ⟨l, us, rfl, fa, la, pa⟩ := rp_lst r
      exact ⟨l, rfl, .inl ⟨us, SqL.of (hw1.fh _ _ fa), k _ _ _ _ _ _ q hw1 ex1 (walk_enum fa la pa)⟩⟩
    · obtain ⟨l, us, rfl, fa, la, pa⟩ := rp_tup r
      exact ⟨l, rfl, .inr ⟨us, SqT.of (hw1.fh _ _ fa), k _ _ _ _ _ _ q hw1 ex1 (walk_enumT fa la pa)⟩⟩
    · exact q.elim
end
/-! ### calls in calls: list(enumerate(t)), list(range(n)), tuple(range(n)) -/
open Classical in
/-- new frozen objects at the places N -/
noncomputable def addF (F H' : Hp) (N : Addr → Prop) : Hp := fun b => if N b then H' b else F b
theorem more_objs {Ω : Type} {W : Ω → Hp → Prop} {ω : Ω} {F M H H' : Hp} {N : Addr → Prop} (hw : Hw W ω F M H) (s : ∀ b o, H b = some o → H' b = some o) (n : ∀ b, N b → H b = none) (pl : ∀ b o, N b → H' b = some o → Plain o) :
    Hw W ω (addF F H' N) M H' ∧ Ex H F M H' (addF F H' N) M := by
  have nM : ∀ b, N b → M b = none := fun b hb => by
    cases k : M b with
    | none => rfl
    | some u => rw [← hw.mh b u k, n b hb]
  have nF : ∀ b u, F b = some u → ¬ N b := fun b u e hb => by
    have := hw.fh b u e
    rw [n b hb] at this; cases this
  refine ⟨⟨fun b u q => ?_, fun b u q => s _ _ (hw.mh b u q), fun b u q => ?_, fun b u q => ?_, hw.w⟩, ⟨fun b u q _ _ => s _ _ q, fun b u q => ?_, fun b u q => ?_, fun b u q => .inl (by rw [q]; simp), fun b q u k => q u (s _ _ k), fun b q => ?_⟩⟩
  · unfold addF at q
    split at q
    · exact q
    · exact s _ _ (hw.fh _ _ q)
  · unfold addF at q
    split at q
    · next hb => exact nM b hb
    · exact hw.fm _ _ q
  · unfold addF at q
    split at q
    · next hb => exact pl b u hb q
    · exact hw.fp _ _ q
  · unfold addF
    rw [if_neg (nF b u q)]; exact q
  · unfold addF at q
    split at q
    · next hb => exact .inr (Fr.none (n b hb))
    · exact .inl q
  · cases k : H b with
    | none => exact .inr (.inl (Fr.none k))
    | some o =>
      obtain ⟨x, hx⟩ := q
      rw [s _ _ k] at hx
      cases hx
      exact .inl ⟨x, k⟩
def intsOf : List PyData → Option (List Int)
  | [] => some []
  | .int i :: r => (intsOf r).map (i :: ·)
  | _ => none
inductive BB where | lstEnum | lstRng | tupRng | srtSet | lenSet
  deriving DecidableEq
def pBB : BB → D → (D → Prop) → Prop
  | .lstEnum, .d (.tuple xs), Q => Q (.d (.list (enumD xs)))
  | .lstRng, .d (.int n), Q => (n ≤ 100000 ∧ -100000 ≤ n) ∧ Q (.d (.list (rngD 0 n.toNat)))
  | .tupRng, .d (.int n), Q => (n ≤ 100000 ∧ -100000 ≤ n) ∧ Q (.d (.tuple (rngD 0 n.toNat)))
  | .srtSet, .d (.list xs), Q => ∃ ns, intsOf xs = some ns ∧ ns.length ≤ 4000 ∧ (QSe.srtI ns).length < 64 ∧ Q (.d (.list ((QSe.srtI ns).map .int)))
  | .srtSet, .d (.tuple xs), Q => ∃ ns, intsOf xs = some ns ∧ ns.length ≤ 4000 ∧ (QSe.srtI ns).length < 64 ∧ Q (.d (.list ((QSe.srtI ns).map .int)))
  | .lenSet, .d (.list xs), Q => ∃ ns, intsOf xs = some ns ∧ ns.length ≤ 4000 ∧ Q (.d (.int (QSe.srtI ns).length))
  | .lenSet, .d (.tuple xs), Q => ∃ ns, intsOf xs = some ns ∧ ns.length ≤ 4000 ∧ Q (.d (.int (QSe.srtI ns).length))
  | _, _, _ => False
@[reducible] def BB.outer : BB → Str
  | .lstEnum => "list" | .lstRng => "list" | .tupRng => "tuple" | .srtSet => "sorted" | .lenSet => "len"
@[reducible] def BB.inner : BB → Str
  | .lstEnum => "enumerate" | .lstRng => "range" | .tupRng => "range" | .srtSet => "set" | .lenSet => "set"
def dBB {Ω : Type} (b : BB) (t : TD Ω) : TD Ω := fun E env ω Q => t E env ω fun x ω1 => pBB b x fun d => Q d ω1
section
variable {Ω : Type} {W : Ω → Hp → Prop} {C : Cxx} {X : Cx} {a : Expr} {ta : TD Ω} {pos p p2 q : Pos}
theorem rps_pairs {F' F : Hp} (sb : Sub F F') : ∀ {xs : List PyData} {vs : List V} {ts : List Addr} {k : Nat} {kvs : List (L2.Key × V)}, Rps F vs xs → (∀ t ∈ ts, True) → kvs = (vs.zipIdx k).map (fun p => (Sum.inl (p.2 : Int), p.1)) → Paired (fun (t : Addr) (q : L2.Key × V) => F' t = some (.tup [kV q.1, q.2])) ts kvs → Rps F' (ts.map V.ref) (enumF k xs)
  | [], _, ts, k, kvs, h, _, e, r => by
    cases h
    subst e
    cases r
    exact .nil
  | x :: xs, _, ts, k, kvs, h, _, e, r => by
    cases h with
    | cons a b =>
      rw [List.zipIdx_cons, List.map_cons] at e
      subst e
      cases r with
      | cons r1 r2 =>
        exact .cons (.tup r1 (by simp) (.cons (.int _) (.cons (rp_sub sb a) .nil))) (rps_pairs sb b (fun _ _ => trivial) rfl r2)
theorem rgV_eq (a b : Int) : rgV a b = (List.range (b - a).toNat).map fun (i : Nat) => V.int (a + i) := rfl
theorem rps_rng {F : Hp} (lo : Int) (n : Nat) : Rps F ((List.range n).map fun (i : Nat) => V.int (lo + i)) (rngD lo n) := by
  unfold rngD
  induction (List.range n) with
  | nil => exact .nil
  | cons i r ih => exact .cons (.int _) ih
theorem rps_ints {F : Hp} : ∀ {xs : List PyData} {vs : List V} {ns : List Int}, Rps F vs xs → intsOf xs = some ns → vs = ns.map V.int
  | [], _, ns, r, h => by cases r; cases h; rfl
  | x :: xs, _, ns, r, h => by
    cases r with
    | cons a b =>
      cases x with
      | int i =>
        cases a
        simp only [intsOf, Option.map_eq_some_iff] at h
        obtain ⟨ms, h1, rfl⟩ := h
        rw [rps_ints b h1]
        rfl
      | _ => cases h
theorem rps_ofInts {F : Hp} : ∀ ns : List Int, Rps F (ns.map V.int) (ns.map PyData.int)
  | [] => .nil
  | n :: r => .cons (.int n) (rps_ofInts r)
theorem sqI_of {K : PySem.W.Frag} {Ω : Type} {W : Ω → Hp → Prop} {ω : Ω} {H0 F M H : Hp} {v : V} {x : PyData} {xs : List PyData} {ns : List Int} (hw : Hw W ω F M H) (r : RD H0 F M H v (.d x)) (hx : x = .list xs ∨ x = .tuple xs) (h : intsOf xs = some ns) : QSe.SqI K H v ns := by
  rcases hx with rfl | rfl
  · obtain ⟨l, us, rfl, fa, la, pa⟩ := rp_lst r
    rw [rps_ints pa h] at fa
    exact ⟨l, rfl, .inl (SqL.of (hw.fh _ _ fa))⟩
  · obtain ⟨l, us, rfl, fa, la, pa⟩ := rp_tup r
    rw [rps_ints pa h] at fa
    exact ⟨l, rfl, .inr (SqT.of (hw.fh _ _ fa))⟩
theorem de_bb {b : BB} (hc : X.calm = true) (hg : Gl X b.outer) (hm : X.mg b.outer = none) (hg2 : Gl X b.inner) (hm2 : X.mg b.inner = none) (ha : PE X a (tOf W C ta)) (na : starEach [a] X.env = (false, eval a X.env) :: starEach [] X.env) :
    PE X (.Call (.Name b.outer p) [.Call (.Name b.inner p2) [a] [] q] [] pos) (tOf W C (dBB b ta)) := by
  cases b with
  | lstEnum =>
    refine pe_imp (QEn.pe_lstEnum hc hg hm hg2 hm2 ha na) fun σ H Q h => ?_
    obtain ⟨env, ω, F, M, Ec, Qc, j, ht, hx, k⟩ := h
    refine ⟨env, ω, F, M, Ec, _, j, ht, hx, fun d ω1 v H1 F1 M1 q1 hw1 ex1 r1 => ?_⟩
    cases d with
    | d x =>
      cases x with
      | tuple xs =>
        obtain ⟨l, us, rfl, fa, la, pa⟩ := rp_tup r1
        refine ⟨l, us, rfl, SqT.of (hw1.fh _ _ fa), fun H' p ts s np nt hp pr => ?_⟩
        have plain : ∀ b o, (b = p ∨ b ∈ ts) → H' b = some o → Plain o := fun b o hb e => by
          rcases hb with z | z
          · rw [z, hp] at e; cases e; exact plain_lst
          · obtain ⟨j, y, _, _, e3⟩ := LiI.paired_ix pr z
            rw [e3] at e; cases e; exact plain_tup
        obtain ⟨hw2, ex2⟩ := more_objs (N := fun b => b = p ∨ b ∈ ts) hw1 s (fun b hb => hb.elim (fun z => by rw [z]; exact np) (nt b)) plain
        refine k _ _ _ _ _ _ q1 hw2 (ex1.trans ex2) (.lst (vs := ts.map V.ref) ?_ ?_ ?_)
        · show addF F1 H' _ p = _
          unfold addF
          rw [if_pos (.inl rfl)]; exact hp
        · have := Paired.length pr
          rw [QEn.enK_len, rps_len pa] at this
          rw [List.length_map, this]; exact la
        · refine rps_pairs ex2.f0 pa (fun _ _ => trivial) rfl ?_
          have key : ∀ {ts' : List Addr} {kvs : List (L2.Key × V)}, (∀ t ∈ ts', t ∈ ts) → Paired (fun (t : Addr) (q : L2.Key × V) => H' t = some (.tup [kV q.1, q.2])) ts' kvs → Paired (fun (t : Addr) (q : L2.Key × V) => addF F1 H' (fun b => b = p ∨ b ∈ ts) t = some (.tup [kV q.1, q.2])) ts' kvs := fun {ts' kvs} hs r => by
            induction r with
            | nil => exact .nil
            | cons r1 r2 ih =>
              refine .cons ?_ (ih fun t ht => hs t (List.mem_cons_of_mem _ ht))
              unfold addF
              rw [if_pos (.inr (hs _ List.mem_cons_self))]; exact r1
          exact key (fun _ h => h) pr
      | _ => exact q1.elim
    | _ => exact q1.elim
  | lstRng =>
    refine pe_imp (pe_listRg hc hg hm (prg_1 hg2 hm2 ha na) rfl) fun σ H Q h => ?_
    obtain ⟨env, ω, F, M, Ec, Qc, j, ht, hx, k⟩ := h
    refine ⟨env, ω, F, M, Ec, _, j, ht, hx, fun d ω1 v H1 F1 M1 q1 hw1 ex1 r1 => ?_⟩
    cases d with
    | d x =>
      cases x with
      | int n =>
        cases rp_int r1
        refine ⟨n, rfl, ?_, fun l nl => ?_⟩
        · have := q1.1; exact ⟨by omega, by omega, by omega, by omega, by omega⟩
        · rw [rgV_eq]
          have b1 := q1.1
          obtain ⟨a1, a2⟩ := alloc (o := .lst ((List.range (n - 0).toNat).map fun (i : Nat) => V.int (0 + i))) hw1 nl
          exact k _ _ _ _ _ _ q1.2 a1 (ex1.trans a2) (.lst upd_same (by simp; omega) (by have := rps_rng (F := upd F1 l (.lst ((List.range (n - 0).toNat).map fun (i : Nat) => V.int (0 + i)))) 0 (n - 0).toNat; simpa using this))
      | _ => exact q1.elim
    | _ => exact q1.elim
  | tupRng =>
    refine pe_imp (pe_tupRg hc hg hm (prg_1 hg2 hm2 ha na) rfl) fun σ H Q h => ?_
    obtain ⟨env, ω, F, M, Ec, Qc, j, ht, hx, k⟩ := h
    refine ⟨env, ω, F, M, Ec, _, j, ht, hx, fun d ω1 v H1 F1 M1 q1 hw1 ex1 r1 => ?_⟩
    cases d with
    | d x =>
      cases x with
      | int n =>
        cases rp_int r1
        refine ⟨n, rfl, ?_, fun l nl => ?_⟩
        · have := q1.1; exact ⟨by omega, by omega, by omega, by omega, by omega⟩
        · rw [rgV_eq]
          have b1 := q1.1
          obtain ⟨a1, a2⟩ := alloc (o := .tup ((List.range (n - 0).toNat).map fun (i : Nat) => V.int (0 + i))) hw1 nl
          exact k _ _ _ _ _ _ q1.2 a1 (ex1.trans a2) (.tup upd_same (by simp; omega) (by have := rps_rng (F := upd F1 l (.tup ((List.range (n - 0).toNat).map fun (i : Nat) => V.int (0 + i)))) 0 (n - 0).toNat; simpa using this))
      | _ => exact q1.elim
    | _ => exact q1.elim
  | srtSet =>
    refine pe_imp (QSe.pe_srtSet hc hg hm hg2 hm2 ha na) fun σ H Q h => ?_
    obtain ⟨env, ω, F, M, Ec, Qc, j, ht, hx, k⟩ := h
    refine ⟨env, ω, F, M, Ec, _, j, ht, hx, fun d ω1 v H1 F1 M1 q1 hw1 ex1 r1 => ?_⟩
    have fin : ∀ (x : PyData) (xs : List PyData), RD H F1 M1 H1 v (.d x) → (x = .list xs ∨ x = .tuple xs) → (∃ ns, intsOf xs = some ns ∧ ns.length ≤ 4000 ∧ (QSe.srtI ns).length < 64 ∧ Qc (.d (.list ((QSe.srtI ns).map .int))) ω1) → ∃ ns, QSe.SqI X.K H1 v ns ∧ ns.length ≤ 4000 ∧ (QSe.srtI ns).length < 64 ∧ ∀ p, H1 p = none → Q (.ref p) (upd H1 p (.lst ((QSe.srtI ns).map V.int))) := fun x xs r hx2 q => by
      obtain ⟨ns, e, l, l64, q⟩ := q
      refine ⟨ns, sqI_of hw1 r hx2 e, l, l64, fun p np => ?_⟩
      obtain ⟨a1, a2⟩ := alloc (o := .lst ((QSe.srtI ns).map V.int)) hw1 np
      exact k _ _ _ _ _ _ q a1 (ex1.trans a2) (.lst upd_same (by rw [List.length_map]; omega) (rps_ofInts _))
    cases d with
    | d x =>
      cases x with
      | list xs => exact fin _ xs r1 (.inl rfl) q1
      | tuple xs => exact fin _ xs r1 (.inr rfl) q1
      | _ => exact q1.elim
    | _ => exact q1.elim
  | lenSet =>
    refine pe_imp (QSe.pe_lenSet hc hg hm hg2 hm2 ha na) fun σ H Q h => ?_
    obtain ⟨env, ω, F, M, Ec, Qc, j, ht, hx, k⟩ := h
    refine ⟨env, ω, F, M, Ec, _, j, ht, hx, fun d ω1 v H1 F1 M1 q1 hw1 ex1 r1 => ?_⟩
    have fin : ∀ (x : PyData) (xs : List PyData), RD H F1 M1 H1 v (.d x) → (x = .list xs ∨ x = .tuple xs) → (∃ ns, intsOf xs = some ns ∧ ns.length ≤ 4000 ∧ Qc (.d (.int (QSe.srtI ns).length)) ω1) → ∃ ns, QSe.SqI X.K H1 v ns ∧ ns.length ≤ 4000 ∧ Q (.int ((QSe.srtI ns).length : Nat)) H1 := fun x xs r hx2 q => by
      obtain ⟨ns, e, l, q⟩ := q
      exact ⟨ns, sqI_of hw1 r hx2 e, l, k _ _ _ _ _ _ q hw1 ex1 (.int _)⟩
    cases d with
    | d x =>
      cases x with
      | list xs => exact fin _ xs r1 (.inl rfl) q1
      | tuple xs => exact fin _ xs r1 (.inr rfl) q1
      | _ => exact q1.elim
    | _ => exact q1.elim
/-! ### x[::-1] -/
def pRev : D → (D → Prop) → Prop
  | .d (.list xs), Q => Q (.d (.list xs.reverse))
  | .d (.tuple xs), Q => Q (.d (.tuple xs.reverse))
  | _, _ => False
def dRev {Ω : Type} (t : TD Ω) : TD Ω := fun E env ω Q => t E env ω fun x ω1 => pRev x fun d => Q d ω1
theorem rps_rev {F : Hp} : ∀ {xs : List PyData} {vs : List V}, Rps F vs xs → Rps F vs.reverse xs.reverse
  | [], _, h => by cases h; exact .nil
  | x :: xs, _, h => by
    cases h with
    | cons a b =>
      rw [List.reverse_cons, List.reverse_cons]
      exact rps_app (rps_rev b) (.cons a .nil)
theorem de_rev {k : Nat} {p1 p2 p3 : Pos} (ha : PE X a (tOf W C ta)) : PE X (.Subscript a (.Slice none none (some (.UnaryOp .USub (.Constant (.int 1) k p1) p2)) p3) pos) (tOf W C (dRev ta)) := by
  refine pe_imp (QRv.pe_rev ha) fun σ H Q h => ?_
  obtain ⟨env, ω, F, M, Ec, Qc, j, ht, hx, k⟩ := h
  refine ⟨env, ω, F, M, Ec, _, j, ht, hx, fun d ω1 v H1 F1 M1 q1 hw1 ex1 r1 => ?_⟩
  cases d with
  | d x =>
    cases x with
    | list xs =>
      obtain ⟨l, us, rfl, fa, la, pa⟩ := rp_lst r1
      refine ⟨l, us, rfl, .inl ⟨SqL.of (hw1.fh _ _ fa), fun p np => ?_⟩⟩
      obtain ⟨a1, a2⟩ := alloc (o := .lst us.reverse) hw1 np
      exact k _ _ _ _ _ _ q1 a1 (ex1.trans a2) (.lst upd_same (by rw [List.length_reverse]; rw [rps_len pa]; exact la) (rps_rev (rps_sub a2.f0 pa)))
    | tuple xs =>
      obtain ⟨l, us, rfl, fa, la, pa⟩ := rp_tup r1
      refine ⟨l, us, rfl, .inr ⟨SqT.of (hw1.fh _ _ fa), fun p np => ?_⟩⟩
      obtain ⟨a1, a2⟩ := alloc (o := .tup us.reverse) hw1 np
      exact k _ _ _ _ _ _ q1 a1 (ex1.trans a2) (.tup upd_same (by rw [List.length_reverse]; rw [rps_len pa]; exact la) (rps_rev (rps_sub a2.f0 pa)))
    | _ => exact q1.elim
  | _ => exact q1.elim
end
end Q
namespace Q
open PySem PySem.Spec PyProof.Rows L2

/-! ### patterns: a name, or a tuple of patterns -/
inductive Pat where
  | nm (i : Nat)
  | nil
  | cons (p r : Pat)
/-! bind: pattern against data; a pattern that begins with cons or nil is a tuple's -/
mutual
def bindP : Pat → PyData → List S → Option (List S)
  | .nm i, x, env => some (env.set i (.d x))
  | .nil, .tuple xs, env => bindPs .nil xs env
  | .cons p r, .tuple xs, env => bindPs (.cons p r) xs env
  | _, _, _ => none
def bindPs : Pat → List PyData → List S → Option (List S)
  | .nil, [], env => some env
  | .cons p r, x :: xs, env => match bindP p x env with
    | some env1 => bindPs r xs env1
    | none => none
  | _, _, _ => none
end
def Pat.len : Pat → Nat
  | .cons _ r => r.len + 1
  | _ => 0
def Pat.slots : Pat → List Nat
  | .nm i => [i]
  | .nil => []
  | .cons p r => p.slots ++ r.slots
mutual
def gP (K : PySem.W.Frag) : Pat → TG
  | .nm i => gName i
  | .nil => gTup K 0 gNil
  | .cons p r => gTup K (r.len + 1) (gCons (gP K p) (gPs K r))
def gPs (K : PySem.W.Frag) : Pat → TGs
  | .cons p r => gCons (gP K p) (gPs K r)
  | _ => gNil
end
section
variable {Ω : Type} {W : Ω → Hp → Prop} {K : PySem.W.Frag}
theorem J.setD {env : List S} {ω : Ω} {F M H : Hp} {σ : L2.St} (j : J W env ω F M σ H) {i : Nat} {v : V} {x : PyData} (r : Rp F v x) : J W (env.set i (.d x)) ω F M (σ.set i (some v)) H := by
  refine ⟨j.hw, fun k s e => ?_, fun k l kk xs kl ys p n e1 e2 e3 e4 => ?_⟩
  · by_cases h : i = k
    · subst h
      have hi : i < env.length := by
        have := (List.getElem?_eq_some_iff.mp e).1
        simpa using this
      rw [List.getElem?_set_self hi] at e
      cases e
      obtain ⟨ov, e1, _⟩ := j.sl i _ (List.getElem?_eq_getElem hi)
      have hs : i < σ.length := (List.getElem?_eq_some_iff.mp e1).1
      exact ⟨some v, List.getElem?_set_self hs, v, rfl, r⟩
    · rw [List.getElem?_set_ne h] at e
      obtain ⟨ov, e1, q⟩ := j.sl k s e
      exact ⟨ov, by rw [List.getElem?_set_ne h]; exact e1, q⟩
  · have h1 : i ≠ k := fun z => by
      subst z
      by_cases hi : i < env.length
      · rw [List.getElem?_set_self hi] at e1; cases e1
      · rw [List.getElem?_eq_none (by simpa using hi)] at e1; cases e1
    have h2 : i ≠ l := fun z => by
      subst z
      by_cases hi : i < env.length
      · rw [List.getElem?_set_self hi] at e2; cases e2
      · rw [List.getElem?_eq_none (by simpa using hi)] at e2; cases e2
    rw [List.getElem?_set_ne h1] at e1 e3
    rw [List.getElem?_set_ne h2] at e2 e4
    exact j.di k l kk xs kl ys p n e1 e2 e3 e4
theorem J.setN {env : List S} {ω : Ω} {F M H : Hp} {σ : L2.St} (j : J W env ω F M σ H) {i : Nat} {ov : Option V} : J W (env.set i .no) ω F M (σ.set i ov) H := by
  refine ⟨j.hw, fun k s e => ?_, fun k l kk xs kl ys p n e1 e2 e3 e4 => ?_⟩
  · by_cases h : i = k
    · subst h
      have hi : i < env.length := by
        have := (List.getElem?_eq_some_iff.mp e).1
        simpa using this
      rw [List.getElem?_set_self hi] at e
      cases e
      obtain ⟨ov', e1, _⟩ := j.sl i _ (List.getElem?_eq_getElem hi)
      have hs : i < σ.length := (List.getElem?_eq_some_iff.mp e1).1
      exact ⟨ov, List.getElem?_set_self hs, trivial⟩
    · rw [List.getElem?_set_ne h] at e
      obtain ⟨ov, e1, q⟩ := j.sl k s e
      exact ⟨ov, by rw [List.getElem?_set_ne h]; exact e1, q⟩
  · have h1 : i ≠ k := fun z => by
      subst z
      by_cases hi : i < env.length
      · rw [List.getElem?_set_self hi] at e1; cases e1
      · rw [List.getElem?_eq_none (by simpa using hi)] at e1; cases e1
    have h2 : i ≠ l := fun z => by
      subst z
      by_cases hi : i < env.length
      · rw [List.getElem?_set_self hi] at e2; cases e2
      · rw [List.getElem?_eq_none (by simpa using hi)] at e2; cases e2
    rw [List.getElem?_set_ne h1] at e1 e3
    rw [List.getElem?_set_ne h2] at e2 e4
    exact j.di k l kk xs kl ys p n e1 e2 e3 e4
/-- the slots that a pattern leaves alone -/
def Off (l : List Nat) (σ σ' : L2.St) : Prop := σ'.length = σ.length ∧ ∀ i, i ∉ l → σ'[i]? = σ[i]?
theorem Off.refl (l : List Nat) (σ : L2.St) : Off l σ σ := ⟨rfl, fun _ _ => rfl⟩
theorem bindPs_len : ∀ {r : Pat} {xs : List PyData} {env env' : List S}, bindPs r xs env = some env' → xs.length = r.len
  | .nil, [], _, _, _ => rfl
  | .nil, _ :: _, _, _, h => by simp [bindPs] at h
  | .cons p r, [], _, _, h => by simp [bindPs] at h
  | .cons p r, x :: xs, env, env', h => by
    simp only [bindPs] at h
    split at h
    · simp only [List.length_cons, Pat.len]
      rw [bindPs_len h]
    · cases h
  | .nm _, _, _, _, h => by simp [bindPs] at h
mutual
theorem pat_ok {ω : Ω} {F M H : Hp} : ∀ (p : Pat) (x : PyData) (v : V) (env env' : List S) (σ : L2.St) (Q : L2.St → Hp → Prop), J W env ω F M σ H → Rp F v x → bindP p x env = some env' → (∀ σ', J W env' ω F M σ' H → Off p.slots σ σ' → Q σ' H) → gP K p v σ H Q
  | .nm i, x, v, env, env', σ, Q, j, r, e, k => by
    simp only [bindP, Option.some.injEq] at e
    subst e
    simp only [gP]
    refine k _ (j.setD r) ⟨by simp, fun n hn => ?_⟩
    have : i ≠ n := fun z => hn (by simp [Pat.slots, z])
    rw [List.getElem?_set_ne this]
  | .nil, x, v, env, env', σ, Q, j, r, e, k => by
    cases x with
    | tuple xs =>
      simp only [bindP] at e
      obtain ⟨a, vs, rfl, fa, la, pa⟩ := rp_tup r
      simp only [gP]
      refine ⟨a, vs, rfl, SqT.of (j.hw.fh _ _ fa), ?_, ?_⟩
      · rw [rps_len pa, bindPs_len e]; rfl
      · have := pats_ok .nil xs vs env env' σ Q j pa e k
        simpa only [gPs] using this
    | _ => simp [bindP] at e
  | .cons p q, x, v, env, env', σ, Q, j, r, e, k => by
    cases x with
    | tuple xs =>
      simp only [bindP] at e
      obtain ⟨a, vs, rfl, fa, la, pa⟩ := rp_tup r
      simp only [gP]
      refine ⟨a, vs, rfl, SqT.of (j.hw.fh _ _ fa), ?_, ?_⟩
      · rw [rps_len pa, bindPs_len e]; rfl
      · have := pats_ok (.cons p q) xs vs env env' σ Q j pa e k
        simpa only [gPs] using this
    | _ => simp [bindP] at e
theorem pats_ok {ω : Ω} {F M H : Hp} : ∀ (p : Pat) (xs : List PyData) (vs : List V) (env env' : List S) (σ : L2.St) (Q : L2.St → Hp → Prop), J W env ω F M σ H → Rps F vs xs → bindPs p xs env = some env' → (∀ σ', J W env' ω F M σ' H → Off p.slots σ σ' → Q σ' H) → gPs K p vs σ H Q
  | .nil, [], vs, env, env', σ, Q, j, r, e, k => by
    cases r
    simp only [bindPs, Option.some.injEq] at e
    subst e
    simp only [gPs]
    exact ⟨rfl, k σ j (Off.refl _ _)⟩
  | .nil, _ :: _, _, _, _, _, _, _, _, e, _ => by simp [bindPs] at e
  | .cons p q, [], _, _, _, _, _, _, _, e, _ => by simp [bindPs] at e
  | .cons p q, x :: xs, vs, env, env', σ, Q, j, r, e, k => by
    cases r with
    | cons r1 r2 =>
      simp only [bindPs] at e
      split at e
      · rename_i env1 e1
        simp only [gPs]
        refine ⟨_, _, rfl, pat_ok p x _ env env1 σ _ j r1 e1 fun σ1 j1 o1 => ?_⟩
        refine pats_ok q xs _ env1 env' σ1 Q j1 r2 e fun σ2 j2 o2 => k σ2 j2 ⟨o2.1.trans o1.1, fun i hi => ?_⟩
        have h1 : i ∉ p.slots := fun z => hi (by simp [Pat.slots, z])
        have h2 : i ∉ q.slots := fun z => hi (by simp [Pat.slots, z])
        rw [o2.2 i h2, o1.2 i h1]
      · cases e
  | .nm _, _, _, _, _, _, _, _, _, e, _ => by simp [bindPs] at e
end
/-! wiped slots -/
def wipeE (env : List S) : List Nat → List S
  | [] => env
  | v :: vs => (wipeE env vs).set v .no
theorem J.wipe {env : List S} {ω : Ω} {F M H : Hp} {σ : L2.St} (j : J W env ω F M σ H) : ∀ vs : List Nat, J W (wipeE env vs) ω F M (L2.wipe σ vs) H
  | [] => j
  | v :: vs => by
    unfold wipeE L2.wipe
    exact (J.wipe j vs).setN
theorem wipe_get (σ : L2.St) (i : Nat) : ∀ vs : List Nat, (L2.wipe σ vs)[i]? = if i ∈ vs then (if i < σ.length then some none else none) else σ[i]?
  | [] => by simp [L2.wipe]
  | v :: vs => by
    unfold L2.wipe
    by_cases h : v = i
    · subst h
      by_cases hl : v < σ.length
      · rw [List.getElem?_set_self (by rw [wipe_length]; exact hl)]; simp [hl]
      · rw [List.getElem?_eq_none (by rw [List.length_set, wipe_length]; omega)]; simp [hl]
    · rw [List.getElem?_set_ne h, wipe_get σ i vs]
      have : (i ∈ v :: vs) ↔ i ∈ vs := by simp [Ne.symm h]
      simp only [this]
theorem wipe_off {σ σ' : L2.St} {l vs : List Nat} (h : Off l (L2.wipe σ vs) σ') (s : ∀ i ∈ l, i ∈ vs) : L2.wipe σ' vs = L2.wipe σ vs := by
  refine List.ext_getElem? fun i => ?_
  rw [wipe_get, wipe_get]
  have hl : σ'.length = σ.length := by rw [h.1, wipe_length]
  by_cases hi : i ∈ vs
  · rw [if_pos hi, if_pos hi, hl]
  · rw [if_neg hi, if_neg hi, h.2 i (fun z => hi (s i z)), wipe_get, if_neg hi]
end

/-! ### comprehensions -/
section
variable {Ω : Type}
/-- the turns of a comprehension -/
def compL (p : Pat) (t : TDb Ω) (e : TD Ω) (env : List S) : List PyData → List PyData → Ω → (List PyData → Ω → Prop) → Prop
  | [], acc, ω, Q => Q acc ω
  | x :: xs, acc, ω, Q => match bindP p x env with
    | some env1 => t (fun _ _ => False) env1 ω fun b ω1 => match b with
      | true => e (fun _ _ => False) env1 ω1 fun y ω2 => match y with
        | .d z => compL p t e env xs (acc ++ [z]) ω2 Q
        | _ => False
      | false => compL p t e env xs acc ω1 Q
    | none => False
def dComp (own : Bool) (it : TDi Ω) (p : Pat) (t : TDb Ω) (e : TD Ω) : TD Ω := fun E env ω Q => it E env ω fun ds ω1 => compL p t e (wipeE env p.slots) ds [] ω1 fun zs ω2 => Q (if own = true then .own false zs else .d (.list zs)) ω2
def dYes : TDb Ω := fun _ _ ω Q => Q true ω
end
section
variable {Ω : Type} {W : Ω → Hp → Prop} {C : Cxx} {X : Cx}
/-- no exception is taken -/
@[reducible] def Cxx.none (C : Cxx) : Cxx := { C with wx := fun _ _ _ => False }
theorem Ex.at {H F M H' F' M' : Hp} {p : Addr} {o : HO} (x : Ex H F M H' F' M') (n : Fr H p) (pl : Plain o := by first | exact plain_lst | exact plain_tup) : Ex H F M (upd H' p o) F' M' where
  keep := fun a u e m q => by
    have ne : a ≠ p := fun z => by rw [z] at e; exact n.not e q
    rw [upd_ne ne]; exact x.keep a u e m q
  f0 := x.f0
  nf := x.nf
  nm := x.nm
  al := fun a e => x.al a (e.upd pl).1
  cd := fun a e => x.cd a (e.upd pl)
theorem Ex.frz {H F M H' F' M' : Hp} {p : Addr} {o : HO} (x : Ex H F M H' F' M') (n : Fr H p) (f : F' p = none) : Ex H F M H' (upd F' p o) M' where
  keep := x.keep
  f0 := fun a u e => by rw [upd_ne (ne_of_none (x.f0 a u e) f)]; exact x.f0 a u e
  nf := fun a u e => by
    by_cases z : a = p
    · rw [z]; exact .inr n
    · rw [upd_ne z] at e; exact x.nf a u e
  nm := x.nm
  al := x.al
  cd := x.cd
theorem Hw.frz {ω : Ω} {F M H : Hp} {p : Addr} {o : HO} (h : Hw W ω F M H) (e : H p = some o) (m : M p = none) (pl : Plain o := by first | exact plain_lst | exact plain_tup) : Hw W ω (upd F p o) M H where
  fh := fun a u q => by
    by_cases z : a = p
    · rw [z] at q ⊢; rw [upd_same] at q; rw [e]; exact q
    · rw [upd_ne z] at q; exact h.fh a u q
  mh := h.mh
  fm := fun a u q => by
    by_cases z : a = p
    · rw [z]; exact m
    · rw [upd_ne z] at q; exact h.fm a u q
  fp := fun a u q => by
    by_cases z : a = p
    · rw [z, upd_same] at q; cases q; exact pl
    · rw [upd_ne z] at q; exact h.fp a u q
  w := h.w
theorem Hw.at {ω : Ω} {F M H : Hp} {p : Addr} {o : HO} (h : Hw W ω F M H) (f : F p = none) (m : M p = none) : Hw W ω F M (upd H p o) where
  fh := fun a u w => by rw [upd_ne (fun z => by rw [z, f] at w; cases w)]; exact h.fh a u w
  mh := fun a u w => by rw [upd_ne (fun z => by rw [z, m] at w; cases w)]; exact h.mh a u w
  fm := h.fm
  fp := h.fp
  w := h.w
theorem imp_comp {K : PySem.W.Frag} {own : Bool} {it : TDi Ω} {p : Pat} {t : TDb Ω} {e : TD Ω} {vs : List Nat} (hv : vs = p.slots) (σ : L2.St) (H : Hp) (Q : VK) (h : tOf W C (dComp own it p t e) σ H Q) : tLc (iOf W C it) (gP K p) (bOf W C.none t) (tOf W C.none e) vs σ H Q := by
  subst hv
  obtain ⟨env, ω, F, M, Ec, Qc, j, ht, hx, k⟩ := h
  refine ⟨env, ω, F, M, Ec, _, j, ht, hx, fun ds ω1 Jt H1 F1 M1 q1 hw1 ex1 wk D nD => ?_⟩
  obtain ⟨hw2, ex2, nF, nM⟩ := allocO (o := .lst []) hw1 nD
  have hD0 : Fr H D := ex1.al _ (Fr.none nD)
  refine ⟨fun i m H2 => ∃ (F2 M2 : Hp) (ω2 : Ω) (acc : List PyData) (us : List V), m = ds.length - i ∧ i ≤ ds.length ∧ Hw W ω2 F2 M2 H2 ∧ Ex H1 F1 M1 H2 F2 M2 ∧ H2 D = some (.lst us) ∧ F2 D = none ∧ M2 D = none ∧ Rps F2 us acc ∧ acc.length ≤ i ∧
    compL p t e (wipeE env p.slots) (ds.drop i) acc ω2 fun zs ω3 => Qc (if own = true then .own false zs else .d (.list zs)) ω3,
    ⟨ds.length, F1, M1, ω1, [], [], by simp, Nat.zero_le _, hw2, ex2, upd_same, nF, nM, .nil, Nat.le_refl _, q1⟩, ?_⟩
  rintro i m H2 ⟨F2, M2, ω2, acc, us, rfl, hi, hw3, ex3, hD, fD, mD, pu, hl, q⟩
  have exx := ex1.trans ex3
  have sub1 : Sub F1 F2 := ex3.f0
  have subH : Sub F1 H2 := fun a o z => hw3.fh _ _ (sub1 a o z)
  have hlen : us.length = acc.length := rps_len pu
  have wl := wk.len
  by_cases hlt : i < ds.length
  · refine .inr ⟨wk.go i H2 subH hlt, fun H' => ∃ (F2 M2 : Hp) (ω2 : Ω) (acc : List PyData) (us : List V), Hw W ω2 F2 M2 H' ∧ Ex H1 F1 M1 H' F2 M2 ∧ H' D = some (.lst us) ∧ F2 D = none ∧ M2 D = none ∧ Rps F2 us acc ∧ acc.length ≤ i + 1 ∧
      compL p t e (wipeE env p.slots) (ds.drop (i + 1)) acc ω2 fun zs ω3 => Qc (if own = true then .own false zs else .d (.list zs)) ω3, fun H' ⟨F4, M4, ω4, acc4, us4, a1, a2, a3, a4, a5, a6, a7, a8⟩ => ⟨ds.length - (i + 1), by omega, F4, M4, ω4, acc4, us4, rfl, hlt, a1, a2, a3, a4, a5, a6, a7, a8⟩, fun x H3 hy => ?_⟩
    obtain ⟨d, hd⟩ : ∃ d, ds[i]? = some d := ⟨ds[i], List.getElem?_eq_getElem hlt⟩
    obtain ⟨F3, hw4, ex4, px⟩ := wk.yld i H2 x H3 d ω2 F2 M2 hw3 sub1 hd hy
    have e4 : ds.drop i = d :: ds.drop (i + 1) := by
      rw [List.drop_eq_getElem_cons hlt]
      have : ds[i] = d := Option.some.inj ((List.getElem?_eq_getElem hlt).symm.trans hd)
      rw [this]
    rw [e4] at q
    unfold compL at q
    split at q
    · rename_i env1 eb
      have j3 : J W env ω2 F3 M2 σ H3 := j.step hw4 (exx.trans ex4)
      refine pat_ok p d x _ env1 _ _ (j3.wipe p.slots) px eb fun σ2 j4 o => ⟨wipe_off o (fun _ z => z), ?_⟩
      refine ⟨env1, ω2, F3, M2, _, _, j4, q, fun _ _ _ _ _ z => z.elim, fun b ω5 H5 F5 M5 q5 hw5 ex5 => ?_⟩
      have hD5 : H5 D = some (.lst us) := ex5.keep _ _ (ex4.keep _ _ hD mD plain_lst) mD plain_lst
      have fD5 : F5 D = none := ex5.fnone (ex4.keep _ _ hD mD plain_lst) (ex4.fnone hD fD)
      have mD5 : M5 D = none := ex5.mnone (ex4.keep _ _ hD mD plain_lst) mD plain_lst
      have ex35 := (ex3.trans ex4).trans ex5
      cases b with
      | true =>
        refine iteT ⟨env1, ω5, F5, M5, _, _, j4.step hw5 ex5, q5, fun _ _ _ _ _ z => z.elim, fun y ω6 v6 H6 F6 M6 q6 hw6 ex6 r6 => ?_⟩
        cases y with
        | d z =>
          have hD6 : H6 D = some (.lst us) := ex6.keep _ _ hD5 mD5 plain_lst
          have fD6 : F6 D = none := ex6.fnone hD5 fD5
          have mD6 : M6 D = none := ex6.mnone hD5 mD5
          have ex36 := ex35.trans ex6
          exact ⟨us, hD6, by rw [sizeLine_eq]; omega, F6, M6, ω6, acc ++ [z], us ++ [v6], hw6.at fD6 mD6, ex36.at (Fr.none nD), upd_same, fD6, mD6, rps_app (rps_sub (fun a o w => ex6.f0 a o (ex5.f0 a o (ex4.f0 a o w))) pu) (.cons r6 .nil), by rw [List.length_append, List.length_singleton]; omega, q6⟩
        | _ => exact q6.elim
      | false =>
        exact iteF ⟨F5, M5, ω5, acc, us, hw5, ex35, hD5, fD5, mD5, rps_sub (fun a o w => ex5.f0 a o (ex4.f0 a o w)) pu, Nat.le_succ_of_le hl, q5⟩
    · exact q.elim
  · refine .inl ⟨wk.stop i H2 subH (by omega), ?_⟩
    rw [List.drop_eq_nil_of_le (by omega)] at q
    simp only [compL] at q
    cases own with
    | true => exact k _ _ _ _ _ _ q hw3 exx ⟨D, us, _, rfl, hD0, fD, mD, hD, rfl, by omega, pu⟩
    | false =>
      have z := exx.frz (o := .lst us) hD0 fD
      exact k _ _ _ _ _ _ q (hw3.frz hD mD) z (Rp.lst upd_same (by omega) (rps_sub (fun a o w => by rw [upd_ne (ne_of_none w fD)]; exact w) pu))
end
end Q
/-! list.extend(tuple) -/
namespace QX
open PySem PySem.Spec PyProof.Rows L2
section
theorem ext_tup (l : Addr) (items : Array Value) (n : Nat) (b : Addr) (items2 : Array Value) (hs0 : ¬(!items.isEmpty && Builtin.List.listTooLong (items.size + items2.size)) = true) (hs1 : items.size ≤ sizeLine) (hs2 : items.size + items2.size ≤ sizeLine + 1) :
    Meets (Builtin.«list.extend» ⟨[.ref l, .ref b], []⟩) (fun _ R s => s.heap.get? l = some { cls := .type "list", dict := none, data := .seq items n, slots := #[] } ∧ IsTup s.heap b items2 ∧ R (.ok (.ret Value.none)) { s with heap := s.heap.update l (Obj.mapSeq fun x => x ++ items2), toks := s.toks }) :=
  .of_wp fun prog w A R s h => by
    obtain ⟨hl, ⟨o, ho, hc, m, hd⟩, h⟩ := h
    unfold Builtin.«list.extend»
    show wpAny _ _ (Builtin.List.listExtendWith (.ref l) (.ref b) .none) _ _ s
    unfold Builtin.List.listExtendWith
    refine wpAny_bind (wpAny_typeOf (T := "tuple") ⟨o, ho, hc⟩ ?_)
    have ht : (Value.type "tuple" == Value.type "tuple") = true := by rfl
    rw [if_pos (by rw [ht]; simp)]
    refine wpAny_bind (listItems_at ho hd ?_)
    refine wpAny_bind (listItems_at hl rfl ?_)
    rw [if_neg hs0]
    refine wpAny_bind (listUpdate_at hl rfl ?_ hs1 (by rw [Array.size_append]; exact hs2))
    exact wpAny_pure ⟨_, rfl, h⟩
end
section
variable {X : Cx}
def rExtendA : V → List V → Hp → VK → Prop := fun x vs H Q => ∃ l b xs zs, x = .ref l ∧ vs = [.ref b] ∧ H l = some (.lst xs) ∧ (H b = some (.lst zs) ∨ H b = some (.tup zs)) ∧ xs.length + zs.length ≤ sizeLine ∧ Q .non (L2.upd H l (.lst (xs ++ zs)))
theorem mt_extendA : MtM X "list.extend" rExtendA := by
  intro pins s σ H x vs v us Q I rx rv h
  obtain ⟨l, b, xs, zs, rfl, rfl, hH, hB, hz, q⟩ := h
  rcases hB with hB | hB
  · exact mt_extend pins s σ H _ _ v us Q I rx rv ⟨l, b, xs, zs, rfl, rfl, hH, hB, hz, q⟩
  · cases rx
    obtain ⟨u, rfl, ru⟩ := rv.one
    cases ru
    obtain ⟨z, its, n, r, hl, e⟩ := I.lstM hH
    obtain ⟨its2, r2, ht2, hz2⟩ := I.tuple (SqT.of (K := X.K) hB)
    have hl2 : zs.length = its2.length := r2.length
    have hsz : its.toArray.size + its2.toArray.size ≤ sizeLine := by rw [List.size_toArray, List.size_toArray]; omega
    have hlong : ¬ (!its.toArray.isEmpty && Builtin.List.listTooLong (its.toArray.size + its2.toArray.size)) = true := by
      rw [notLongL hsz, Bool.and_false]
      exact Bool.false_ne_true
    refine call_meets F.slot_list_extend ⟨_, e, rfl⟩ F.entry_list_extend (F.args_list_extend_2 _ _)
      (ext_tup l its.toArray n b its2.toArray hlong (by rw [List.size_toArray]; omega) (by omega)) ⟨e, ht2, ?_⟩
    refine ⟨.non, _, I.lset (its' := its ++ its2) hH e (by simp) (r.append r2) ?_, rfl, q⟩
    rw [List.length_append]
    omega
end
end QX
namespace Q
open PySem PySem.Spec PyProof.Rows L2

/-! ### calls of defs of the text -/
def noOwn : List D → Bool
  | [] => true
  | .own _ _ :: _ => false
  | _ :: r => noOwn r
section
variable {Ω : Type}
/-- a def's promise, from its pure one -/
def spOf (W : Ω → Hp → Prop) (cx : Nat → Value) (n : Nat) (sp : FSpec Ω) : Sp := fun vs H Q E => ∃ (F M : Hp) (ω : Ω) (ds : List D) (Qc : QD Ω) (Ec : XD Ω), Hw W ω F M H ∧ RDs H F M H vs ds ∧ ds.length = n ∧ sp ds ω Qc Ec ∧
  (∀ d ω' v H' F' M', Qc d ω' → Hw W ω' F' M' H' → Ex H F M H' F' M' → RD H F' M' H' v d → Q v H') ∧ (∀ c ω' H' F' M', Ec c ω' → Hw W ω' F' M' H' → Ex H F M H' F' M' → E (cx c) none H')
def dCallN (n : Nat) (sp : FSpec Ω) (a : TDa Ω) : TD Ω := fun E env ω Q => a E env ω fun ds ω1 => noOwn ds = true ∧ ds.length = n ∧ sp ds ω1 Q E
end
section
variable {Ω : Type} {W : Ω → Hp → Prop} {C : Cxx} {X : Cx} {a b c : Expr} {es : List Expr} {ta tb tc : TD Ω} {ts : TDa Ω} {pos p : Pos}
theorem rds_noOwn {H0 H1 F M H : Hp} : ∀ {ds : List D} {vs : List V}, noOwn ds = true → RDs H0 F M H vs ds → RDs H1 F M H vs ds
  | [], _, _, r => by cases r; exact .nil
  | .d x :: r, _, h, k => by cases k with | cons a b => exact .cons a (rds_noOwn (by simpa [noOwn] using h) b)
  | .r x :: r, _, h, k => by cases k with | cons a b => exact .cons a (rds_noOwn (by simpa [noOwn] using h) b)
  | .fd x :: r, _, h, k => by cases k with | cons a b => exact .cons a (rds_noOwn (by simpa [noOwn] using h) b)
  | .own _ _ :: _, _, h, _ => by simp [noOwn] at h
theorem imp_call {n : Nat} {sp : FSpec Ω} (σ : L2.St) (H : Hp) (Q : VK) (h : tOf W C (dCallN n sp ts) σ H Q) : aOf W C ts σ H fun vs H1 => spOf W C.cx n sp vs H1 Q C.wx := by
  obtain ⟨env, ω, F, M, Ec, Qc, j, ht, hx, k⟩ := h
  refine ⟨env, ω, F, M, Ec, _, j, ht, hx, fun ds ω1 vs H1 F1 M1 q1 hw1 ex1 r1 => ?_⟩
  obtain ⟨no, hn, q⟩ := q1
  exact ⟨F1, M1, ω1, ds, Qc, Ec, hw1, rds_noOwn no r1, hn, q, fun d ω' v H' F' M' q hw' ex' r' => k d ω' v H' F' M' q hw' (ex1.trans ex') (r'.back ex1.al), fun c ω' H' F' M' e hw' ex' => hx c ω' H' F' M' e hw' (ex1.trans ex')⟩
theorem de_call {x : Str} {f : Addr} {fd : FuncData} {ps : List Str} {lv : Nat} {sp : FSpec Ω} (Fn : FnOk X.prog X.w X.K X.mg X.base (L2.CX X.prog X.w) lv f fd ps (spOf W C.cx ps.length sp)) (hr : Room lv X.A) (hg : Gl X x) (hm : X.mg x = some (.ref f)) (hk : PySem.W.keepIn X.K (.ref f) = true) (hb : Binds X.K fd ps [])
    (tk : Takes X fun cls d _ H => C.wx cls d H) (ha : PA X (a :: es) (aOf W C ts)) (hdb : (x == ("__debug__" : Str)) = false) (he : starEach (a :: es) X.env = (false, eval a X.env) :: starEach es X.env) (hpl : (backTo pos (starEach es X.env)).any (·.1) = false) :
    PE X (.Call (.Name x p) (a :: es) [] pos) (tOf W C (dCallN ps.length sp ts)) := by
  refine pe_imp (pe_call (E := C.wx) Fn hr hg hm hk hb .nil (passes_call tk fun _ _ _ _ h => h) ha hdb he hpl) fun σ H Q h => ?_
  have z := imp_call σ H Q h
  obtain ⟨env, ω, F, M, Ec, Qc, j, ht, hx, k⟩ := z
  exact ⟨env, ω, F, M, Ec, Qc, j, ht, hx, fun ds ω' vs H' F' M' q hw ex r => by
    show spOf W C.cx ps.length sp (vs ++ []) H' Q C.wx
    rw [List.append_nil]
    exact k ds ω' vs H' F' M' q hw ex r⟩
theorem de_call0 {x : Str} {f : Addr} {fd : FuncData} {ps : List Str} {lv : Nat} {sp : FSpec Ω} (Fn : FnOk X.prog X.w X.K X.mg X.base (L2.CX X.prog X.w) lv f fd ps (spOf W C.cx ps.length sp)) (hr : Room lv X.A) (hg : Gl X x) (hm : X.mg x = some (.ref f)) (hk : PySem.W.keepIn X.K (.ref f) = true) (hb : Binds X.K fd ps [])
    (tk : Takes X fun cls d _ H => C.wx cls d H) (hdb : (x == ("__debug__" : Str)) = false) : PE X (.Call (.Name x p) [] [] pos) (tOf W C (dCallN ps.length sp dNil)) := by
  refine pe_imp (pe_call0 (E := C.wx) Fn hr hg hm hk hb .nil (passes_call tk fun _ _ _ _ h => h) hdb) fun σ H Q h => ?_
  have z := imp_call σ H Q h
  obtain ⟨env, ω, F, M, Ec, Qc, j, ht, hx, k⟩ := z
  exact k _ _ _ _ _ _ ht j.hw (Ex.refl H F M) .nil
end

/-! ### statements -/
structure DEnds (Ω : Type) where
  nx : List S → Ω → Prop
  rt : D → Ω → Prop
  bk : List S → Ω → Prop := fun _ _ => False
  ct : List S → Ω → Prop := fun _ _ => False
abbrev TDs (Ω : Type) := XD Ω → DEnds Ω → List S → Ω → Prop
/-- the entry of a def -/
structure En where
  H : Hp
  F : Hp
  M : Hp
structure I3 {Ω : Type} (W : Ω → Hp → Prop) (en : En) (env : List S) (ω : Ω) (F M : Hp) (σ : L2.St) (H : Hp) : Prop where
  j : J W env ω F M σ H
  ex : Ex en.H en.F en.M H F M
  own : ∀ (i : Nat) k xs p, env[i]? = some (.own k xs) → σ[i]? = some (some (.ref p)) → Fr en.H p
theorem I3.step {Ω : Type} {W : Ω → Hp → Prop} {en : En} {env : List S} {ω ω' : Ω} {F M F' M' H H' : Hp} {σ : L2.St} (i : I3 W en env ω F M σ H) (h : Hw W ω' F' M' H') (x : Ex H F M H' F' M') : I3 W en env ω' F' M' σ H' :=
  ⟨i.j.step h x, i.ex.trans x, i.own⟩
def sOf {Ω : Type} (W : Ω → Hp → Prop) (C : Cxx) (T : TDs Ω) : TS := fun D σ H => ∃ (en : En) (env : List S) (ω : Ω) (F M : Hp) (Ec : XD Ω) (Dc : DEnds Ω), I3 W en env ω F M σ H ∧ T Ec Dc env ω ∧ XOk W C Ec en.H en.F en.M ∧
  (∀ env' ω' F' M' σ' H', Dc.nx env' ω' → I3 W en env' ω' F' M' σ' H' → D.nx σ' H') ∧
  (∀ env' ω' F' M' σ' H', Dc.bk env' ω' → I3 W en env' ω' F' M' σ' H' → D.bk σ' H') ∧
  (∀ env' ω' F' M' σ' H', Dc.ct env' ω' → I3 W en env' ω' F' M' σ' H' → D.ct σ' H') ∧
  (∀ d ω' F' M' v H', Dc.rt d ω' → Hw W ω' F' M' H' → Ex en.H en.F en.M H' F' M' → RD en.H F' M' H' v d → D.rt v H')
section
variable {Ω : Type}
def sNext : TDs Ω := fun _ D env ω => D.nx env ω
def sSeq (t u : TDs Ω) : TDs Ω := fun E D env ω => t E { D with nx := u E D } env ω
def sDrop (t : TD Ω) : TDs Ω := fun E D env ω => t E env ω fun _ ω' => D.nx env ω'
def sRet (t : TD Ω) : TDs Ω := fun E D env ω => t E env ω fun d ω' => D.rt d ω'
def sIf (t : TDb Ω) (a b : TDs Ω) : TDs Ω := fun E D env ω => t E env ω fun c ω' => match c with
  | true => a E D env ω'
  | false => b E D env ω'
def sSet (i : Nat) (t : TD Ω) : TDs Ω := fun E D env ω => t E env ω fun d ω' => D.nx (env.set i d.s) ω'
def sPar (i k : Nat) (t : TDa Ω) : TDs Ω := fun E D env ω => t E env ω fun ds ω' => match ds with
  | [x, y] => D.nx ((env.set i x.s).set k y.s) ω'
  | _ => False
def sPat (p : Pat) (t : TD Ω) : TDs Ω := fun E D env ω => t E env ω fun d ω' => match d with
  | .d x => match bindP p x env with
    | some env' => D.nx env' ω'
    | none => False
  | _ => False
def sFrz (i : Nat) (t : TDs Ω) : TDs Ω := fun E D env ω => match env[i]? with
  | some (.own false xs) => t E D (env.set i (.d (.list xs))) ω
  | some (.own true xs) => t E D (env.set i (.fd xs)) ω
  | _ => False
def sApp (i : Nat) (t : TD Ω) : TDs Ω := fun E D env ω => match env[i]? with
  | some (.own false xs) => t E env ω fun d ω' => match d with
    | .d x => xs.length < 1000000 ∧ D.nx (env.set i (.own false (xs ++ [x]))) ω'
    | _ => False
  | _ => False
def sExt (i : Nat) (t : TD Ω) : TDs Ω := fun E D env ω => match env[i]? with
  | some (.own false xs) => t E env ω fun d ω' => match d with
    | .d (.list ys) => xs.length + ys.length ≤ 1000000 ∧ D.nx (env.set i (.own false (xs ++ ys))) ω'
    | .d (.tuple ys) => xs.length + ys.length ≤ 1000000 ∧ D.nx (env.set i (.own false (xs ++ ys))) ω'
    | _ => False
  | _ => False
def sRaise (c : Nat) : TDs Ω := fun E _ _ ω => E c ω
/-- for: the turns -/
def forL (p : Pat) (b : TDs Ω) (E : XD Ω) (D : DEnds Ω) : List PyData → List S → Ω → Prop
  | [], env, ω => D.nx env ω
  | x :: xs, env, ω => match bindP p x env with
    | some env1 => b E { D with nx := fun env' ω' => forL p b E D xs env' ω', ct := fun env' ω' => forL p b E D xs env' ω', bk := D.nx } env1 ω
    | none => False
def sFor (it : TDi Ω) (p : Pat) (b : TDs Ω) : TDs Ω := fun E D env ω => it E env ω fun ds ω' => forL p b E D ds env ω'
def sWhile (t : TDb Ω) (b : TDs Ω) : TDs Ω := fun E D env ω => ∃ I : Nat → List S → Ω → Prop, (∃ m, I m env ω) ∧ ∀ m env ω, I m env ω → t E env ω fun c ω' => match c with
  | true => b E { D with nx := fun env' ω'' => ∃ m', m' < m ∧ I m' env' ω'', ct := fun env' ω'' => ∃ m', m' < m ∧ I m' env' ω'', bk := D.nx } env ω'
  | false => D.nx env ω'
end
section
variable {Ω : Type} {W : Ω → Hp → Prop} {C : Cxx} {X : Cx} {a b c tg iter : Expr} {es : List Expr} {ta tb tc : TD Ω} {ts : TDa Ω} {pos p : Pos} {s u : TDs Ω} {st : Stmt} {rest body : List Stmt}
theorem ss_nil : PSs X [] (sOf W C (sNext (Ω := Ω))) := pss_imp pss_nil fun D σ H h => by
  obtain ⟨en, env, ω, F, M, Ec, Dc, i, ht, hx, kn, kb, kc, kr⟩ := h
  exact kn _ _ _ _ _ _ ht i
theorem ss_cons (h1 : PS X st (sOf W C s)) (h2 : PSs X rest (sOf W C u)) : PSs X (st :: rest) (sOf W C (sSeq s u)) := pss_imp (pss_cons h1 h2) fun D σ H h => by
  obtain ⟨en, env, ω, F, M, Ec, Dc, i, ht, hx, kn, kb, kc, kr⟩ := h
  exact ⟨en, env, ω, F, M, Ec, _, i, ht, hx, fun env' ω' F' M' σ' H' q i' => ⟨en, env', ω', F', M', Ec, Dc, i', q, hx, kn, kb, kc, kr⟩, kb, kc, kr⟩
theorem ss_one (h1 : PS X st (sOf W C s)) : PSs X [st] (sOf W C s) := pss_one h1
theorem ss_drop (he : PE X a (tOf W C ta)) (hs : swapsWith a none pos.line X.env = pure false) : PS X (.Expr a pos) (sOf W C (sDrop ta)) := ps_imp (ps_expr he hs) fun D σ H h => by
  obtain ⟨en, env, ω, F, M, Ec, Dc, i, ht, hx, kn, kb, kc, kr⟩ := h
  exact ⟨env, ω, F, M, Ec, _, i.j, ht, hx.step i.ex, fun d ω1 v H1 F1 M1 q1 hw1 ex1 r1 => kn _ _ _ _ _ _ q1 (i.step hw1 ex1)⟩
theorem ss_ret (he : PE X a (tOf W C ta)) : PS X (.Return (some a) pos) (sOf W C (sRet ta)) := ps_imp (ps_ret he) fun D σ H h => by
  obtain ⟨en, env, ω, F, M, Ec, Dc, i, ht, hx, kn, kb, kc, kr⟩ := h
  exact ⟨env, ω, F, M, Ec, _, i.j, ht, hx.step i.ex, fun d ω1 v H1 F1 M1 q1 hw1 ex1 r1 => kr _ _ _ _ _ _ q1 hw1 (i.ex.trans ex1) (r1.back i.ex.al)⟩
theorem ss_if {sa : TDb Ω} (ht : PT X c (bOf W C sa)) (ha : PSs X body (sOf W C s)) (hb : PSs X rest (sOf W C u)) : PS X (.If c body rest pos) (sOf W C (sIf sa s u)) := ps_imp (ps_if ht ha hb) fun D σ H h => by
  obtain ⟨en, env, ω, F, M, Ec, Dc, i, ht, hx, kn, kb, kc, kr⟩ := h
  refine ⟨env, ω, F, M, Ec, _, i.j, ht, hx.step i.ex, fun d ω1 H1 F1 M1 q1 hw1 ex1 => ?_⟩
  cases d with
  | true => exact iteT ⟨en, env, ω1, F1, M1, Ec, Dc, i.step hw1 ex1, q1, hx, kn, kb, kc, kr⟩
  | false => exact iteF ⟨en, env, ω1, F1, M1, Ec, Dc, i.step hw1 ex1, q1, hx, kn, kb, kc, kr⟩
/-- a value is stored; hf: the own lists stood ahead of it -/
theorem J.setS {env : List S} {ω : Ω} {F M H H0 : Hp} {σ : L2.St} (j : J W env ω F M σ H) {i : Nat} {v : V} {d : D} (r : RD H0 F M H v d) (hf : noOwn [d] = false → ∀ (k : Nat) kk ys q, env[k]? = some (.own kk ys) → σ[k]? = some (some (.ref q)) → ¬ Fr H0 q) : J W (env.set i d.s) ω F M (σ.set i (some v)) H := by
  cases d with
  | d x => exact j.setD r
  | r x =>
    refine ⟨j.hw, fun k s e => ?_, fun k l kk xs kl ys p n e1 e2 e3 e4 => ?_⟩
    · by_cases h : i = k
      · subst h
        have hi : i < env.length := by
          have := (List.getElem?_eq_some_iff.mp e).1
          simpa using this
        rw [List.getElem?_set_self hi] at e
        cases e
        obtain ⟨ov, e1, _⟩ := j.sl i _ (List.getElem?_eq_getElem hi)
        have hs : i < σ.length := (List.getElem?_eq_some_iff.mp e1).1
        exact ⟨some v, List.getElem?_set_self hs, congrArg some r⟩
      · rw [List.getElem?_set_ne h] at e
        obtain ⟨ov, e1, q⟩ := j.sl k s e
        exact ⟨ov, by rw [List.getElem?_set_ne h]; exact e1, q⟩
    · have h1 : i ≠ k := fun z => by
        subst z
        by_cases hi : i < env.length
        · rw [List.getElem?_set_self hi] at e1; cases e1
        · rw [List.getElem?_eq_none (by simpa using hi)] at e1; cases e1
      have h2 : i ≠ l := fun z => by
        subst z
        by_cases hi : i < env.length
        · rw [List.getElem?_set_self hi] at e2; cases e2
        · rw [List.getElem?_eq_none (by simpa using hi)] at e2; cases e2
      rw [List.getElem?_set_ne h1] at e1 e3
      rw [List.getElem?_set_ne h2] at e2 e4
      exact j.di k l kk xs kl ys p n e1 e2 e3 e4
  | fd xs0 =>
    obtain ⟨p0, vs0, ob0, rfl, fp0, io0, l0, pr0⟩ := r
    refine ⟨j.hw, fun k s e => ?_, fun k l kk xs kl ys p n e1 e2 e3 e4 => ?_⟩
    · by_cases h : i = k
      · subst h
        have hi : i < env.length := by
          have := (List.getElem?_eq_some_iff.mp e).1
          simpa using this
        rw [List.getElem?_set_self hi] at e
        cases e
        obtain ⟨ov, e1, _⟩ := j.sl i _ (List.getElem?_eq_getElem hi)
        have hs : i < σ.length := (List.getElem?_eq_some_iff.mp e1).1
        exact ⟨_, List.getElem?_set_self hs, p0, vs0, ob0, rfl, fp0, io0, l0, pr0⟩
      · rw [List.getElem?_set_ne h] at e
        obtain ⟨ov, e1, q⟩ := j.sl k s e
        exact ⟨ov, by rw [List.getElem?_set_ne h]; exact e1, q⟩
    · have h1 : i ≠ k := fun z => by
        subst z
        by_cases hi : i < env.length
        · rw [List.getElem?_set_self hi] at e1; cases e1
        · rw [List.getElem?_eq_none (by simpa using hi)] at e1; cases e1
      have h2 : i ≠ l := fun z => by
        subst z
        by_cases hi : i < env.length
        · rw [List.getElem?_set_self hi] at e2; cases e2
        · rw [List.getElem?_eq_none (by simpa using hi)] at e2; cases e2
      rw [List.getElem?_set_ne h1] at e1 e3
      rw [List.getElem?_set_ne h2] at e2 e4
      exact j.di k l kk xs kl ys p n e1 e2 e3 e4
  | own kx xs =>
    obtain ⟨p, vs, ob, rfl, h0, f, m, hp, io, hl, pr⟩ := r
    have fresh : ∀ (k : Nat) kk ys q, env[k]? = some (.own kk ys) → σ[k]? = some (some (.ref q)) → q ≠ p := fun k kk ys q e1 e2 z => by
      have := hf rfl k kk ys q e1 e2
      rw [z] at this
      exact this h0
    refine ⟨j.hw, fun k s e => ?_, fun k l kk xs' kl ys q n e1 e2 e3 e4 => ?_⟩
    · by_cases h : i = k
      · subst h
        have hi : i < env.length := by
          have := (List.getElem?_eq_some_iff.mp e).1
          simpa using this
        rw [List.getElem?_set_self hi] at e
        cases e
        obtain ⟨ov, e1, _⟩ := j.sl i _ (List.getElem?_eq_getElem hi)
        have hs : i < σ.length := (List.getElem?_eq_some_iff.mp e1).1
        exact ⟨_, List.getElem?_set_self hs, p, vs, ob, rfl, f, m, hp, io, hl, pr⟩
      · rw [List.getElem?_set_ne h] at e
        obtain ⟨ov, e1, q⟩ := j.sl k s e
        exact ⟨ov, by rw [List.getElem?_set_ne h]; exact e1, q⟩
    · by_cases h1 : i = k
      · subst h1
        have h2 : i ≠ l := n
        rw [List.getElem?_set_ne h2] at e2 e4
        have hi : i < σ.length := by have := (List.getElem?_eq_some_iff.mp e3).1; simpa using this
        rw [List.getElem?_set_self hi] at e3
        exact fresh l kl ys q e2 e4 (by injection e3 with e3; injection e3 with e3; injection e3 with e3; exact e3.symm)
      · rw [List.getElem?_set_ne h1] at e1 e3
        by_cases h2 : i = l
        · subst h2
          have hi : i < σ.length := by have := (List.getElem?_eq_some_iff.mp e4).1; simpa using this
          rw [List.getElem?_set_self hi] at e4
          exact fresh k kk xs' q e1 e3 (by injection e4 with e4; injection e4 with e4; injection e4 with e4; exact e4.symm)
        · rw [List.getElem?_set_ne h2] at e2 e4
          exact j.di k l kk xs' kl ys q n e1 e2 e3 e4
/-- the own lists stand -/
theorem J.ownAt {env : List S} {ω : Ω} {F M H : Hp} {σ : L2.St} (j : J W env ω F M σ H) (k : Nat) (kk : Bool) (ys : List PyData) (q : Addr) (e1 : env[k]? = some (.own kk ys)) (e2 : σ[k]? = some (some (.ref q))) : ¬ Fr H q := by
  obtain ⟨ov, e3, q', vs', ob', e4, _, _, e5, io, _⟩ := j.sl k _ e1
  rw [e2] at e3; cases e3; cases e4
  exact fun h => h.not e5 io.plain
theorem I3.setS {en : En} {env : List S} {ω' : Ω} {F' M' H' H0 : Hp} {σ : L2.St} (i : I3 W en env ω' F' M' σ H') {k : Nat} {v : V} {d : D} (r : RD H0 F' M' H' v d) (hf : noOwn [d] = false → (∀ (k : Nat) kk ys q, env[k]? = some (.own kk ys) → σ[k]? = some (some (.ref q)) → ¬ Fr H0 q) ∧ ∀ p, Fr H0 p → Fr en.H p) : I3 W en (env.set k d.s) ω' F' M' (σ.set k (some v)) H' := by
  refine ⟨i.j.setS r fun h => (hf h).1, i.ex, fun n kn xs p e1 e2 => ?_⟩
  by_cases h : k = n
  · subst h
    have hs : k < σ.length := by have := (List.getElem?_eq_some_iff.mp e2).1; simpa using this
    have hi : k < env.length := by have := (List.getElem?_eq_some_iff.mp e1).1; simpa using this
    rw [List.getElem?_set_self hs] at e2
    rw [List.getElem?_set_self hi] at e1
    cases d with
    | d x => cases e1
    | r x => cases e1
    | fd x => cases e1
    | own ky ys =>
      obtain ⟨p', vs, ob, rfl, h0, _⟩ := r
      cases e2
      exact (hf rfl).2 _ h0
  · rw [List.getElem?_set_ne h] at e1 e2
    exact i.own n kn xs p e1 e2
theorem ss_set {k : Nat} {x : Str} {pos' : Pos} (hN : X.N.Nodup) (hi : X.N[k]? = some x) (hx : Loc X.env.scope x) (he : PE X a (tOf W C ta)) (hs : swapsWith a (some (.Name x pos')) pos.line X.env = pure false) (hf : X.fn x = true ∨ X.env.scope.names.lookup x = some .local) : PS X (.Assign [.Name x pos'] a pos) (sOf W C (sSet k ta)) :=
  ps_imp (ps_set hN hi hx he hs hf) fun D σ H h => by
  obtain ⟨en, env, ω, F, M, Ec, Dc, i, ht, hx, kn, kb, kc, kr⟩ := h
  exact ⟨env, ω, F, M, Ec, _, i.j, ht, hx.step i.ex, fun d ω1 v H1 F1 M1 q1 hw1 ex1 r1 => kn _ _ _ _ _ _ q1 ((i.step hw1 ex1).setS r1 fun _ => ⟨i.j.ownAt, i.ex.al⟩)⟩
/-- name = [..] (the comprehension stores by itself) -/
theorem ss_setLc {elt : Expr} {ifs : List Expr} {scope : Scope} {own : List (Str × Nat)} {ow : Bool} {it : TDi Ω} {pt : Pat} {t : TDb Ω} {e : TD Ω} {k : Nat} {y : Str} {py spos : Pos} (hc : X.calm = true) (hN : X.N.Nodup) (hy : X.N[k]? = some y) (hyl : X.env.scope.names.lookup y = some .local)
    (hsw : swapsWith (.ListComp elt [⟨tg, iter, ifs, 0⟩] scope pos) (some (.Name y py)) spos.line X.env = pure true) (hi : PI X tg iter (iOf W C it)) (ok : BlkOk X.N X.env.scope scope own) (ho : own.map (·.2) = pt.slots)
    (hg : ∀ (s : Shared) (H : Hp) (C : Addr) (cl : List (Str × Addr)) (fp : List Addr), PG (X.blk s H scope (compEnvC scope cl C X.env) fp) tg (gP X.K pt)) (ht : ∀ (s : Shared) (H : Hp) (C0 : Addr) (cl : List (Str × Addr)) (fp : List Addr), PTs (X.blk s H scope (compEnvC scope cl C0 X.env) fp) ifs (bOf W C.none t))
    (he : ∀ (s : Shared) (H : Hp) (C0 : Addr) (cl : List (Str × Addr)) (fp : List Addr), PE (X.blk s H scope (compEnvC scope cl C0 X.env) fp) elt (tOf W C.none e)) (hs : ∀ x, foldedSetIterable iter X.env x = pure x) :
    PS X (.Assign [.Name y py] (.ListComp elt [⟨tg, iter, ifs, 0⟩] scope pos) spos) (sOf W C (sSet k (dComp ow it pt t e))) :=
  ps_imp (ps_setLc (i := k) hc hN hy hyl hsw hi ok hg ht he hs) fun D σ H h => by
  obtain ⟨en, env, ω, F, M, Ec, Dc, i, ht, hx, kn, kb, kc, kr⟩ := h
  refine imp_comp ho σ H _ ⟨env, ω, F, M, Ec, _, i.j, ht, hx.step i.ex, fun d ω1 v H1 F1 M1 q1 hw1 ex1 r1 => kn _ _ _ _ _ _ q1 ((i.step hw1 ex1).setS r1 fun _ => ⟨i.j.ownAt, i.ex.al⟩)⟩
theorem de_comp {elt : Expr} {ifs : List Expr} {scope : Scope} {own : List (Str × Nat)} {ow : Bool} {it : TDi Ω} {pt : Pat} {t : TDb Ω} {e : TD Ω} (hc : X.calm = true) (hN : X.N.Nodup) (hi : PI X tg iter (iOf W C it)) (ok : BlkOk X.N X.env.scope scope own) (ho : own.map (·.2) = pt.slots)
    (hg : ∀ (s : Shared) (H : Hp) (C : Addr) (cl : List (Str × Addr)) (fp : List Addr), PG (X.blk s H scope (compEnvC scope cl C X.env) fp) tg (gP X.K pt)) (ht : ∀ (s : Shared) (H : Hp) (C0 : Addr) (cl : List (Str × Addr)) (fp : List Addr), PTs (X.blk s H scope (compEnvC scope cl C0 X.env) fp) ifs (bOf W C.none t))
    (he : ∀ (s : Shared) (H : Hp) (C0 : Addr) (cl : List (Str × Addr)) (fp : List Addr), PE (X.blk s H scope (compEnvC scope cl C0 X.env) fp) elt (tOf W C.none e)) (hs : ∀ x, foldedSetIterable iter X.env x = pure x) :
    PE X (.ListComp elt [⟨tg, iter, ifs, 0⟩] scope pos) (tOf W C (dComp ow it pt t e)) := pe_imp (pe_lc hc hN hi ok hg ht he hs) (imp_comp ho)
theorem set_own {env : List S} {i k : Nat} {s : S} {kk : Bool} {xs : List PyData} (hs : ∀ k xs, s ≠ .own k xs) (h : (env.set i s)[k]? = some (.own kk xs)) : env[k]? = some (.own kk xs) ∧ k ≠ i := by
  by_cases e : i = k
  · subst e
    by_cases hi : i < env.length
    · rw [List.getElem?_set_self hi] at h; exact absurd (Option.some.inj h) (hs _ _)
    · rw [List.getElem?_eq_none (by simpa using hi)] at h; cases h
  · rw [List.getElem?_set_ne e] at h
    exact ⟨h, fun z => e z.symm⟩
mutual
theorem bindP_own : ∀ {p : Pat} {x : PyData} {env env' : List S}, bindP p x env = some env' → ∀ (k : Nat) (kk : Bool) (xs : List PyData), env'[k]? = some (.own kk xs) → env[k]? = some (.own kk xs) ∧ k ∉ p.slots
  | .nm i, x, env, env', h, k, kk, xs, e => by
    simp only [bindP, Option.some.injEq] at h
    subst h
    obtain ⟨a, b⟩ := set_own (fun _ _ z => by cases z) e
    exact ⟨a, by simpa [Pat.slots] using b⟩
  | .nil, x, env, env', h, k, kk, xs, e => by
    cases x with
    | tuple ys => simp only [bindP] at h; exact bindPs_own h k kk xs e
    | _ => simp [bindP] at h
  | .cons p q, x, env, env', h, k, kk, xs, e => by
    cases x with
    | tuple ys => simp only [bindP] at h; exact bindPs_own h k kk xs e
    | _ => simp [bindP] at h
theorem bindPs_own : ∀ {p : Pat} {x : List PyData} {env env' : List S}, bindPs p x env = some env' → ∀ (k : Nat) (kk : Bool) (xs : List PyData), env'[k]? = some (.own kk xs) → env[k]? = some (.own kk xs) ∧ k ∉ p.slots
  | .nil, [], env, env', h, k, kk, xs, e => by
    simp only [bindPs, Option.some.injEq] at h
    subst h
    exact ⟨e, by simp [Pat.slots]⟩
  | .nil, _ :: _, _, _, h, _, _, _, _ => by simp [bindPs] at h
  | .cons p q, [], _, _, h, _, _, _, _ => by simp [bindPs] at h
  | .cons p q, x :: ys, env, env', h, k, kk, xs, e => by
    simp only [bindPs] at h
    split at h
    · rename_i env1 e1
      obtain ⟨a, b⟩ := bindPs_own h k kk xs e
      obtain ⟨c, d⟩ := bindP_own e1 k kk xs a
      exact ⟨c, by simp only [Pat.slots, List.mem_append, not_or]; exact ⟨d, b⟩⟩
    · cases h
  | .nm _, _, _, _, h, _, _, _, _ => by simp [bindPs] at h
end
theorem I3.pat {K : PySem.W.Frag} {en : En} {env env' : List S} {ω : Ω} {F M H : Hp} {σ : L2.St} (i : I3 W en env ω F M σ H) {pt : Pat} {x : PyData} {v : V} {Q : L2.St → Hp → Prop} (r : Rp F v x) (e : bindP pt x env = some env') (k : ∀ σ', I3 W en env' ω F M σ' H → Q σ' H) : gP K pt v σ H Q :=
  pat_ok pt x v env env' σ Q i.j r e fun σ' j o => k σ' ⟨j, i.ex, fun n kn xs p e1 e2 => by
    obtain ⟨a, b⟩ := bindP_own e n kn xs e1
    rw [o.2 n b] at e2
    exact i.own n kn xs p a e2⟩
/-- target = value, the target a pattern -/
theorem ss_pat {pt : Pat} (he : PE X a (tOf W C ta)) (hg : PG X tg (gP X.K pt)) (hs : swapsWithSole [tg] a pos.line X.env = pure false) (hw : swappedStores [tg] a X.env = pure none) (h1 : (assignEach [tg] X.env).map (·.2) = [assign tg X.env]) : PS X (.Assign [tg] a pos) (sOf W C (sPat pt ta)) :=
  ps_imp (ps_asg he hg hs hw h1) fun D σ H h => by
  obtain ⟨en, env, ω, F, M, Ec, Dc, i, ht, hx, kn, kb, kc, kr⟩ := h
  refine ⟨env, ω, F, M, Ec, _, i.j, ht, hx.step i.ex, fun d ω1 v H1 F1 M1 q1 hw1 ex1 r1 => ?_⟩
  split at q1
  · split at q1
    · rename_i env' eb
      exact (i.step hw1 ex1).pat r1 eb fun σ' i' => kn _ _ _ _ _ _ q1 i'
    · exact q1.elim
  · exact q1.elim
/-- a, b = e1, e2 of plain local names -/
def sPar1 (i k : Nat) (t : TDa Ω) : TDs Ω := fun E D env ω => t E env ω fun ds ω' => match ds with
  | [x, y] => (noOwn [x] || noOwn [y]) = true ∧ D.nx ((env.set i x.s).set k y.s) ω'
  | _ => False
theorem ss_par {i k : Nat} {x y : Str} {px py pt : Pos} {kt k2 : Nat} {pt2 : Pos} (hc : X.calm = true) (hN : X.N.Nodup) (hi : X.N[i]? = some x) (hj : X.N[k]? = some y) (hij : i ≠ k) (hx : X.env.scope.names.lookup x = some .local) (hy : X.env.scope.names.lookup y = some .local) (ha : PA X [a, b] (aOf W C ts))
    (hw : swappedStores [.Tuple [.Name x px, .Name y py] kt pt] (.Tuple [a, b] k2 pt2) X.env = pure (some [x, y])) (hs : swapsWithSole [.Tuple [.Name x px, .Name y py] kt pt] (.Tuple [a, b] k2 pt2) pos.line X.env = pure false) :
    PS X (.Assign [.Tuple [.Name x px, .Name y py] kt pt] (.Tuple [a, b] k2 pt2) pos) (sOf W C (sPar1 i k ts)) :=
  ps_imp (ps_par hc hN hi hj hij hx hy ha hw hs) fun D σ H h => by
  obtain ⟨en, env, ω, F, M, Ec, Dc, i0, ht, hx, kn, kb, kc, kr⟩ := h
  refine ⟨env, ω, F, M, Ec, _, i0.j, ht, hx.step i0.ex, fun ds ω1 vs H1 F1 M1 q1 hw1 ex1 r1 => ?_⟩
  split at q1
  · rename_i x y
    obtain ⟨v, u, rfl, r, r'⟩ := rds2 r1
    obtain ⟨no, q⟩ := q1
    refine ⟨v, u, rfl, kn _ _ F1 M1 _ _ q ?_⟩
    have i1 := (i0.step hw1 ex1).setS (k := i) r fun _ => ⟨i0.j.ownAt, i0.ex.al⟩
    refine i1.setS r' fun hy => ⟨fun n kn ys q e1 e2 => ?_, i0.ex.al⟩
    have hx : noOwn [x] = true := by
      rw [hy] at no
      simpa using no
    have hn : i ≠ n := fun z => by
      subst z
      have hl : i < env.length := by have := (List.getElem?_eq_some_iff.mp e1).1; simpa using this
      rw [List.getElem?_set_self hl] at e1
      cases x with
      | own _ _ => simp [noOwn] at hx
      | _ => cases e1
    rw [List.getElem?_set_ne hn] at e1 e2
    exact i0.j.ownAt n kn ys q e1 e2
  · exact q1.elim
/-- the own thing at i is frozen; no code -/
theorem imp_frz {k : Nat} (D : Ends) (σ : L2.St) (H : Hp) (h : sOf W C (sFrz k s) D σ H) : sOf W C s D σ H := by
  obtain ⟨en, env, ω, F, M, Ec, Dc, i, ht, hx, kn, kb, kc, kr⟩ := h
  have core : ∀ (kk : Bool) (xs : List PyData) (s' : S), env[k]? = some (.own kk xs) → (∀ k xs, s' ≠ .own k xs) → (∀ (F' : Hp) p vs ob, F' p = some ob → IsOb kk p ob vs xs → vs.length ≤ 1000000 → Rps F' vs xs → SlotOk F' M H s' (some (.ref p))) → s Ec Dc (env.set k s') ω → sOf W C s D σ H := by
    intro kk xs s' e ns slot ht
    obtain ⟨ov, e1, p, vs, ob, rfl, f, m, hp, io, hl, pr⟩ := i.j.sl k _ e
    have sub : ∀ a o, F a = some o → upd F p ob a = some o := fun a o w => by rw [upd_ne (ne_of_none w f)]; exact w
    have hn : Fr en.H p := i.own k kk xs p e e1
    have ex2 : Ex en.H en.F en.M H (upd F p ob) M := i.ex.frz hn f
    refine ⟨en, _, ω, upd F p ob, M, Ec, Dc, ⟨⟨i.j.hw.frz hp m io.plain, fun n s e2 => ?_, fun n l kx ys ky zs q ne e2 e3 e4 e5 => ?_⟩, ex2, fun n ky ys q e2 e3 => ?_⟩, ht, hx, kn, kb, kc, kr⟩
    · by_cases hkn : k = n
      · subst hkn
        have hi : k < env.length := by have := (List.getElem?_eq_some_iff.mp e2).1; simpa using this
        rw [List.getElem?_set_self hi] at e2
        cases e2
        exact ⟨_, e1, slot _ p vs ob upd_same io hl (rps_sub sub pr)⟩
      · rw [List.getElem?_set_ne hkn] at e2
        obtain ⟨ov', e3, q⟩ := i.j.sl n s e2
        refine ⟨ov', e3, ?_⟩
        cases s with
        | no => trivial
        | d x =>
          obtain ⟨v, e4, r⟩ := q
          exact ⟨v, e4, rp_sub sub r⟩
        | r v => exact q
        | fd ys =>
          obtain ⟨p', vs', ob', e4, f', io', hl', pr'⟩ := q
          exact ⟨p', vs', ob', e4, sub _ _ f', io', hl', rps_sub sub pr'⟩
        | own ky ys =>
          obtain ⟨p', vs', ob', e4, f', m', hp', io', hl', pr'⟩ := q
          subst e4
          have ne : p' ≠ p := fun z => by
            subst z
            exact i.j.di k n kk xs ky ys p' hkn e e2 e1 e3
          exact ⟨p', vs', ob', rfl, by rw [upd_ne ne]; exact f', m', hp', io', hl', rps_sub sub pr'⟩
    · obtain ⟨a1, _⟩ := set_own ns e2
      obtain ⟨a2, _⟩ := set_own ns e3
      exact i.j.di n l kx ys ky zs q ne a1 a2 e4 e5
    · obtain ⟨a1, _⟩ := set_own ns e2
      exact i.own n ky ys q a1 e3
  unfold sFrz at ht
  split at ht
  · rename_i xs e
    exact core false xs (.d (.list xs)) e (fun _ _ z => by cases z) (fun F' p vs ob fp io hl pr => by cases (show ob = .lst vs from io); exact ⟨_, rfl, .lst fp hl pr⟩) ht
  · rename_i xs e
    exact core true xs (.fd xs) e (fun _ _ z => by cases z) (fun F' p vs ob fp io hl pr => ⟨p, vs, ob, rfl, fp, io, hl, pr⟩) ht
  · exact ht.elim
/-- the own thing at k is changed -/
theorem I3.upd {en : En} {env : List S} {ω : Ω} {F M H : Hp} {σ : L2.St} (i : I3 W en env ω F M σ H) {k : Nat} {kk : Bool} {p : Addr} {ob : HO} {xs ys : List PyData} {us : List V} (e : env[k]? = some (.own kk xs)) (e1 : σ[k]? = some (some (.ref p))) (io : IsOb kk p ob us ys) (hl : us.length ≤ 1000000) (pr : Rps F us ys) : I3 W en (env.set k (.own kk ys)) ω F M σ (upd H p ob) := by
  obtain ⟨ov, e2, p', vs, ob0, e3, f, m, hp, _, _, _⟩ := i.j.sl k _ e
  rw [e1] at e2; cases e2; cases e3
  have hn := i.own k kk xs p e e1
  have hi : k < env.length := (List.getElem?_eq_some_iff.mp e).1
  refine ⟨⟨i.j.hw.at f m, fun n s e2 => ?_, fun n l kx xs' ky zs q ne e2 e3 e4 e5 => ?_⟩, i.ex.at hn io.plain, fun n ky ys' q e2 e3 => ?_⟩
  · by_cases hkn : k = n
    · subst hkn
      rw [List.getElem?_set_self hi] at e2
      cases e2
      exact ⟨_, e1, p, us, ob, rfl, f, m, upd_same, io, hl, pr⟩
    · rw [List.getElem?_set_ne hkn] at e2
      obtain ⟨ov', e3, q⟩ := i.j.sl n s e2
      refine ⟨ov', e3, ?_⟩
      cases s with
      | no => trivial
      | d x => exact q
      | r v => exact q
      | fd x => exact q
      | own kz zs =>
        obtain ⟨p', vs', ob', e4, f', m', hp', io', hl', pr'⟩ := q
        subst e4
        have ne : p' ≠ p := fun z => by
          subst z
          exact i.j.di k n kk xs kz zs p' hkn e e2 e1 e3
        exact ⟨p', vs', ob', rfl, f', m', by rw [upd_ne ne]; exact hp', io', hl', pr'⟩
  · have o1 : ∃ kw w, env[n]? = some (.own kw w) := by
      by_cases hkn : k = n
      · subst hkn; exact ⟨_, _, e⟩
      · rw [List.getElem?_set_ne hkn] at e2; exact ⟨_, _, e2⟩
    have o2 : ∃ kw w, env[l]? = some (.own kw w) := by
      by_cases hkn : k = l
      · subst hkn; exact ⟨_, _, e⟩
      · rw [List.getElem?_set_ne hkn] at e3; exact ⟨_, _, e3⟩
    obtain ⟨k1, w1, o1⟩ := o1
    obtain ⟨k2, w2, o2⟩ := o2
    exact i.j.di n l k1 w1 k2 w2 q ne o1 o2 e4 e5
  · by_cases hkn : k = n
    · subst hkn; exact i.own k kk xs q e e3
    · rw [List.getElem?_set_ne hkn] at e2; exact i.own n ky ys' q e2 e3
theorem few_ok {p3 : Pos} (he : starEach [a] X.env = [(false, eval a X.env)]) : ((backTo p3 (starEach [a] X.env)).all (fun x => !x.1) && (backToKw p3 (keywordEach [] X.env)).all (fun x => x.1.isSome)
      && decide ([a].length + ([] : List Keyword).length + (if ([] : List Keyword).isEmpty then 0 else 1) < 30)) = true := by rw [he]; rfl
theorem ss_app {k : Nat} {x : Str} {p1 p2 p3 : Pos} (hN : X.N[k]? = some x) (hv : Vis X.env.scope x) (hd : (x == ("__debug__" : Str)) = false) (hcd : (x == ("__classdict__" : Str)) = false) (ha : PE X a (tOf W C ta)) (he : starEach [a] X.env = [(false, eval a X.env)]) (hl : (p2.endLine == p3.line) = true) :
    PS X (.Expr (.Call (.Attribute (.Name x p1) "append" p2) [a] [] p3) pos) (sOf W C (sApp k ta)) := by
  refine ps_imp (ps_expr (pe_bm PySem.F.plainAttrs_list PySem.F.slot_list_append PySem.F.type_list_append mt_append (pe_var (i := k) hN hv hd hcd) (pa_cons ha pa_nil he) (by rfl) (few_ok he) hl he (by rfl)) (by rfl)) fun D σ H h => ?_
  obtain ⟨en, env, ω, F, M, Ec, Dc, i, ht, hx, kn, kb, kc, kr⟩ := h
  unfold sApp at ht
  split at ht
  · rename_i xs e
    obtain ⟨ov, e1, p, vs, ob, rfl, f, m, hp, io, hl, pr⟩ := i.j.sl k _ e
    cases (show ob = .lst vs from io)
    refine ⟨.ref p, e1, .inl ⟨rfl, _, SqL.of hp⟩, env, ω, F, M, Ec, _, i.j, ht, hx.step i.ex, fun d ω1 v H1 F1 M1 q1 hw1 ex1 r1 => ?_⟩
    cases d with
    | d z =>
      have i1 := i.step hw1 ex1
      have hp1 : H1 p = some (.lst vs) := ex1.keep _ _ hp m plain_lst
      have hlen := rps_len pr
      refine ⟨p, vs, v, rfl, rfl, hp1, by rw [sizeLine_eq]; omega, kn _ _ F1 M1 _ _ q1.2 (i1.upd e e1 rfl (by rw [List.length_append, List.length_singleton]; omega) (rps_app (rps_sub ex1.f0 pr) (.cons r1 .nil)))⟩
    | _ => exact q1.elim
  · exact ht.elim
theorem ss_ext {k : Nat} {x : Str} {p1 p2 p3 : Pos} (hN : X.N[k]? = some x) (hv : Vis X.env.scope x) (hd : (x == ("__debug__" : Str)) = false) (hcd : (x == ("__classdict__" : Str)) = false) (ha : PE X a (tOf W C ta)) (he : starEach [a] X.env = [(false, eval a X.env)]) (hl : (p2.endLine == p3.line) = true) :
    PS X (.Expr (.Call (.Attribute (.Name x p1) "extend" p2) [a] [] p3) pos) (sOf W C (sExt k ta)) := by
  refine ps_imp (ps_expr (pe_bm PySem.F.plainAttrs_list PySem.F.slot_list_extend PySem.F.type_list_extend QX.mt_extendA (pe_var (i := k) hN hv hd hcd) (pa_cons ha pa_nil he) (by rfl) (few_ok he) hl he (by rfl)) (by rfl)) fun D σ H h => ?_
  obtain ⟨en, env, ω, F, M, Ec, Dc, i, ht, hx, kn, kb, kc, kr⟩ := h
  unfold sExt at ht
  split at ht
  · rename_i xs e
    obtain ⟨ov, e1, p, vs, ob, rfl, f, m, hp, io, hl, pr⟩ := i.j.sl k _ e
    cases (show ob = .lst vs from io)
    refine ⟨.ref p, e1, .inl ⟨rfl, _, SqL.of hp⟩, env, ω, F, M, Ec, _, i.j, ht, hx.step i.ex, fun d ω1 v H1 F1 M1 q1 hw1 ex1 r1 => ?_⟩
    split at q1
    · rename_i ys
      have i1 := i.step hw1 ex1
      have hp1 : H1 p = some (.lst vs) := ex1.keep _ _ hp m plain_lst
      have hlen := rps_len pr
      obtain ⟨a, us, rfl, fa, la, pa⟩ := rp_lst r1
      have hlen2 := rps_len pa
      exact ⟨p, a, vs, us, rfl, rfl, hp1, .inl (hw1.fh _ _ fa), by rw [sizeLine_eq]; omega, kn _ _ F1 M1 _ _ q1.2 (i1.upd e e1 rfl (by rw [List.length_append]; omega) (rps_app (rps_sub ex1.f0 pr) pa))⟩
    · rename_i ys
      have i1 := i.step hw1 ex1
      have hp1 : H1 p = some (.lst vs) := ex1.keep _ _ hp m plain_lst
      have hlen := rps_len pr
      obtain ⟨a, us, rfl, fa, la, pa⟩ := rp_tup r1
      have hlen2 := rps_len pa
      exact ⟨p, a, vs, us, rfl, rfl, hp1, .inr (hw1.fh _ _ fa), by rw [sizeLine_eq]; omega, kn _ _ F1 M1 _ _ q1.2 (i1.upd e e1 rfl (by rw [List.length_append]; omega) (rps_app (rps_sub ex1.f0 pr) pa))⟩
    · exact q1.elim
  · exact ht.elim
/-- for -/
theorem ss_for {it : TDi Ω} {pt : Pat} (hp : PassesOwn (model X.prog X.w) X.A X.env X.xe) (hc : X.calm = true) (hi : PI X tg iter (iOf W C it)) (hg : PG X tg (gP X.K pt)) (hb : PSs X body (sOf W C s)) (hs : ∀ x, foldedSetIterable iter X.env x = pure x) :
    PS X (.For tg iter body [] pos) (sOf W C (sFor it pt s)) := by
  refine ps_imp (ps_for hp hc hi hg hb hs) fun D σ H h => ?_
  obtain ⟨en, env, ω, F, M, Ec, Dc, i, ht, hx, kn, kb, kc, kr⟩ := h
  refine ⟨env, ω, F, M, Ec, _, i.j, ht, hx.step i.ex, fun ds ω1 Jt H1 F1 M1 q1 hw1 ex1 wk => ?_⟩
  have i1 := i.step hw1 ex1
  -- the entry of the loop: the items stay
  let en1 : En := ⟨en.H, F1, en.M⟩
  have toEn : ∀ {env' ω' F' M' σ' H'}, I3 W en1 env' ω' F' M' σ' H' → I3 W en env' ω' F' M' σ' H' := fun {env' ω' F' M' σ' H'} q =>
    ⟨q.j, ⟨q.ex.keep, fun a o z => q.ex.f0 a o (i1.ex.f0 a o z), fun a o z => (q.ex.nf a o z).elim (fun y => i1.ex.nf a o y) .inr, q.ex.nm, q.ex.al, q.ex.cd⟩, q.own⟩
  have ofEn : I3 W en1 env ω1 F1 M1 σ H1 := ⟨i1.j, ⟨i1.ex.keep, fun _ _ z => z, fun _ _ z => .inl z, i1.ex.nm, i1.ex.al, i1.ex.cd⟩, i1.own⟩
  have toR : ∀ {H' F' M' : Hp}, Ex en1.H en1.F en1.M H' F' M' → Ex en.H en.F en.M H' F' M' := fun {H' F' M'} q =>
    ⟨q.keep, fun a o z => q.f0 a o (i1.ex.f0 a o z), fun a o z => (q.nf a o z).elim (fun y => i1.ex.nf a o y) .inr, q.nm, q.al, q.cd⟩
  refine ⟨fun n m σ2 H2 => ∃ env2 ω2 F2 M2, m = ds.length - n ∧ n ≤ ds.length ∧ I3 W en1 env2 ω2 F2 M2 σ2 H2 ∧ forL pt s Ec Dc (ds.drop n) env2 ω2, ⟨ds.length, env, ω1, F1, M1, by simp, Nat.zero_le _, ofEn, q1⟩, ?_⟩
  rintro n m σ2 H2 ⟨env2, ω2, F2, M2, rfl, hn, i2, q⟩
  have subH : Sub F1 H2 := fun a o z => i2.j.hw.fh _ _ (i2.ex.f0 a o z)
  by_cases hlt : n < ds.length
  · refine .inr ⟨wk.go n H2 subH hlt, fun σ' H' => ∃ env' ω' F' M', I3 W en1 env' ω' F' M' σ' H' ∧ forL pt s Ec Dc (ds.drop (n + 1)) env' ω', fun σ' H' ⟨env', ω', F', M', a1, a2⟩ => ⟨ds.length - (n + 1), by omega, env', ω', F', M', rfl, hlt, a1, a2⟩, fun x H3 hy => ?_⟩
    obtain ⟨d, hd⟩ : ∃ d, ds[n]? = some d := ⟨ds[n], List.getElem?_eq_getElem hlt⟩
    obtain ⟨F3, hw4, ex4, px⟩ := wk.yld n H2 x H3 d ω2 F2 M2 i2.j.hw i2.ex.f0 hd hy
    have e4 : ds.drop n = d :: ds.drop (n + 1) := by
      rw [List.drop_eq_getElem_cons hlt]
      have : ds[n] = d := Option.some.inj ((List.getElem?_eq_getElem hlt).symm.trans hd)
      rw [this]
    rw [e4] at q
    unfold forL at q
    split at q
    · rename_i env3 eb
      exact (i2.step hw4 ex4).pat px eb fun σ3 i3 => ⟨en1, env3, ω2, F3, M2, Ec, _, i3, q, fun c ω' H' F' M' a b e => hx c ω' H' F' M' a b (toR e), fun env' ω' F' M' σ' H' a b => ⟨env', ω', F', M', b, a⟩, fun env' ω' F' M' σ' H' a b => kn _ _ _ _ _ _ a (toEn b), fun env' ω' F' M' σ' H' a b => ⟨env', ω', F', M', b, a⟩, fun d ω' F' M' v H' a b e r => kr d ω' F' M' v H' a b (toR e) r⟩
    · exact q.elim
  · refine .inl ⟨wk.stop n H2 subH (by omega), ?_⟩
    rw [List.drop_eq_nil_of_le (by omega)] at q
    simp only [forL] at q
    exact kn _ _ _ _ _ _ q (toEn i2)
/-- while -/
theorem ss_while {sa : TDb Ω} (hp : PassesOwn (model X.prog X.w) X.A X.env X.xe) (hc : PT X c (bOf W C sa)) (hb : PSs X body (sOf W C s)) : PS X (.While c body [] pos) (sOf W C (sWhile sa s)) := by
  refine ps_imp (ps_while hp hc hb) fun D σ H h => ?_
  obtain ⟨en, env, ω, F, M, Ec, Dc, i, ht, hx, kn, kb, kc, kr⟩ := h
  obtain ⟨Iv, ⟨m0, w0⟩, turn⟩ := ht
  refine ⟨fun m σ' H' => ∃ env' ω' F' M', I3 W en env' ω' F' M' σ' H' ∧ Iv m env' ω', ⟨m0, env, ω, F, M, i, w0⟩, ?_⟩
  rintro m σ1 H1 ⟨env1, ω1, F1, M1, i1, w1⟩
  refine ⟨env1, ω1, F1, M1, Ec, _, i1.j, turn m env1 ω1 w1, hx.step i1.ex, fun b ω2 H2 F2 M2 q2 hw2 ex2 => ?_⟩
  cases b with
  | true =>
    refine iteT ⟨fun σ' H' => ∃ env' ω' F' M', I3 W en env' ω' F' M' σ' H' ∧ ∃ m', m' < m ∧ Iv m' env' ω', fun σ' H' ⟨env', ω', F', M', a, m', b, c⟩ => ⟨m', b, env', ω', F', M', a, c⟩, ?_⟩
    exact ⟨en, env1, ω2, F2, M2, Ec, _, i1.step hw2 ex2, q2, hx, fun env' ω' F' M' σ' H' a b => ⟨env', ω', F', M', b, a⟩, fun env' ω' F' M' σ' H' a b => kn _ _ _ _ _ _ a b, fun env' ω' F' M' σ' H' a b => ⟨env', ω', F', M', b, a⟩, kr⟩
  | false => exact iteF (kn _ _ _ _ _ _ q2 (i1.step hw2 ex2))
end
end Q
namespace Q
open PySem PySem.Spec PyProof.Rows L2

/-! ### dicts of keys: {}, {k: True}, dict([(k, True), ..]), d[k] = True, d.update(e) -/
def keyD : PyData → Option (List Int)
  | .tuple xs => intsOf xs
  | _ => none
theorem intsOf_ok : ∀ {xs : List PyData} {k : List Int}, intsOf xs = some k → xs = k.map .int
  | [], k, h => by cases h; rfl
  | .int i :: xs, k, h => by
    simp only [intsOf, Option.map_eq_some_iff] at h
    obtain ⟨k', h1, rfl⟩ := h
    rw [intsOf_ok h1]; rfl
  | .none :: _, _, h => by cases h
  | .bool _ :: _, _, h => by cases h
  | .str _ :: _, _, h => by cases h
  | .list _ :: _, _, h => by cases h
  | .tuple _ :: _, _, h => by cases h
  | .dict _ :: _, _, h => by cases h
theorem keyD_ok {x : PyData} {k : List Int} (h : keyD x = some k) : x = tI k := by
  cases x with
  | tuple xs => exact congrArg _ (intsOf_ok h)
  | _ => cases h
theorem eqvAll_kI : ∀ a b : List Int, PyData.eqvAll (a.map .int) (b.map .int) = decide (a = b)
  | [], [] => by simp [PyData.eqvAll]
  | [], _ :: _ => by simp [PyData.eqvAll]
  | _ :: _, [] => by simp [PyData.eqvAll]
  | i :: a, j :: b => by
    rw [List.map_cons, List.map_cons, PyData.eqvAll, eqvAll_kI a b]
    have e : PyData.eqv (.int i) (.int j) = decide (i = j) := by rw [PyData.eqv]; exact Bool.eq_iff_iff.mpr (by simp)
    rw [e, Bool.eq_iff_iff]
    simp
theorem eqv_tI (a b : List Int) : PyData.eqv (tI a) (tI b) = decide (a = b) := by
  unfold tI
  rw [PyData.eqv]
  exact eqvAll_kI a b
def putD (xs : List PyData) (x : PyData) : List PyData := if memD x xs = true then xs else xs ++ [x]
theorem memD_tI (k : List Int) : ∀ ks : List QD.KA, memD (tI k) (ks.map fun x => tI x.1) = ks.any fun x => decide (x.1 = k)
  | [] => rfl
  | x :: ks => by
    have ih := memD_tI k ks
    unfold memD at ih ⊢
    rw [List.map_cons, List.any_cons, List.any_cons, ih, eqv_tI]
theorem putD_tI (ks : List QD.KA) (k : List Int) (a : Addr) : putD (ks.map fun x => tI x.1) (tI k) = (QD.putI ks k a).map fun x => tI x.1 := by
  unfold putD QD.putI
  rw [memD_tI]
  split
  · rfl
  · simp
def putsD (xs ys : List PyData) : List PyData := ys.foldl putD xs
theorem putsD_tI : ∀ (ms ks : List QD.KA), putsD (ks.map fun x => tI x.1) (ms.map fun x => tI x.1) = (QD.putAll ks ms).map fun x => tI x.1
  | [], _ => rfl
  | m :: ms, ks => by
    have e : putsD (ks.map fun x => tI x.1) ((m :: ms).map fun x => tI x.1) = putsD (putD (ks.map fun x => tI x.1) (tI m.1)) (ms.map fun x => tI x.1) := rfl
    rw [e, putD_tI ks m.1 m.2, putsD_tI ms]
    rfl
/-- the keys of pairs (k, True) -/
def pairKs : List PyData → Option (List PyData)
  | [] => some []
  | .tuple [x, .bool true] :: r => match keyD x, pairKs r with
    | some _, some ks => some (x :: ks)
    | _, _ => none
  | _ => none
def hashD (x : PyData) : Int := match keyD x with
  | some k => QD.thash k
  | none => 0
theorem keyD_tI (k : List Int) : keyD (tI k) = some k := by
  unfold tI keyD
  simp only
  induction k with
  | nil => rfl
  | cons i k ih => rw [List.map_cons, intsOf, ih]; rfl
theorem hashD_tI (k : List Int) : hashD (tI k) = QD.thash k := by unfold hashD; rw [keyD_tI]
section
variable {Ω : Type}
def dNew : TD Ω := fun _ _ ω Q => Q (.own true []) ω
def keyK (d : D) (Q : PyData → Prop) : Prop := match d with
  | .d x => (keyD x).isSome = true ∧ Q x
  | _ => False
def dOne (t : TD Ω) : TD Ω := fun E env ω Q => t E env ω fun x ω1 => keyK x fun y => Q (.own true [y]) ω1
def dOfK (d : D) (Q : D → Prop) : Prop := match d with
  | .d (.list ps) => ∃ ks, pairKs ps = some ks ∧ Q (.fd (putsD [] ks))
  | _ => False
def dDof (t : TD Ω) : TD Ω := fun E env ω Q => t E env ω fun x ω1 => dOfK x fun d => Q d ω1
def sPutD (i : Nat) (t : TD Ω) : TDs Ω := fun E D env ω => match env[i]? with
  | some (.own true xs) => t E env ω fun d ω' => keyK d fun y => xs.length < 1000000 ∧ D.nx (env.set i (.own true (putD xs y))) ω'
  | _ => False
def sUpdD (i : Nat) (t : TD Ω) : TDs Ω := fun E D env ω => match env[i]? with
  | some (.own true xs) => t E env ω fun d ω' => match d with
    | .fd ys => xs.length + ys.length ≤ 1000000 ∧ (xs ≠ [] ∨ (ys.map hashD).Nodup) ∧ D.nx (env.set i (.own true (putsD xs ys))) ω'
    | _ => False
  | _ => False
end
section
variable {Ω : Type} {W : Ω → Hp → Prop} {C : Cxx} {X : Cx} {a b c : Expr} {ta tb tc : TD Ω} {pos : Pos}
theorem dis_plain {p : Addr} {o : Obj} {ks : List QD.KA} (D : QD.DIs o ks) : Plain (QD.DX p o) := by
  obtain ⟨es, ep, e, _⟩ := D.da
  exact plain_dx e
theorem de_new : PE X (.Dict [] [] pos) (tOf W C (dNew (Ω := Ω))) := by
  refine pe_imp QD.pe_new fun σ H Q h => ?_
  obtain ⟨env, ω, F, M, Ec, Qc, j, ht, hx, k⟩ := h
  intro p o n hs D
  obtain ⟨h1, h2, f, m⟩ := allocO (o := QD.DX p o) j.hw n (dis_plain D)
  exact k _ _ _ _ _ _ ht h1 h2 ⟨p, [], _, rfl, Fr.none n, f, m, upd_same, ⟨o, [], rfl, hs, D, rfl, rfl⟩, by simp, .nil⟩
theorem rp_tI {F : Hp} {v : V} {k : List Int} (h : Rp F v (tI k)) : ∃ a, v = .ref a ∧ F a = some (.tup (k.map V.int)) := by
  obtain ⟨a, vs, rfl, fa, la, pa⟩ := rp_tup h
  have e : vs = k.map V.int := rps_ints pa (show intsOf (k.map .int) = some k from keyD_tI k)
  rw [e] at fa
  exact ⟨a, rfl, fa⟩
theorem de_one' {k1 : Nat} {p1 : Pos} (hu : X.A.units + 64 < cLine) (ha : PE X a (tOf W C ta)) : PE X (.Dict [some a] [.Constant (.bool true) k1 p1] pos) (tOf W C (dOne ta)) := by
  refine pe_imp (QD.pe_one' hu ha pe_bl) fun σ H Q h => ?_
  obtain ⟨env, ω, F, M, Ec, Qc, j, ht, hx, k⟩ := h
  intro p o n hs D
  obtain ⟨h1, h2, f, m⟩ := allocO (o := QD.DX p o) j.hw n (dis_plain D)
  refine ⟨env, ω, F, M, Ec, _, j.step h1 h2, ht, hx.step h2, fun x ω1 v1 H1 F1 M1 q1 hw1 ex1 r1 => ?_⟩
  cases x with
  | d y =>
    obtain ⟨hk, q⟩ := q1
    obtain ⟨ky, hky⟩ := Option.isSome_iff_exists.mp hk
    have ey := keyD_ok hky
    subst ey
    obtain ⟨ad, rfl, fa⟩ := rp_tI r1
    have hp1 := ex1.keep _ _ (upd_same (H := H) (a := p) (o := QD.DX p o)) m (dis_plain D)
    have f1 := ex1.fnone (upd_same (H := H) (a := p) (o := QD.DX p o)) f (dis_plain D)
    have m1 := ex1.mnone (upd_same (H := H) (a := p) (o := QD.DX p o)) m (dis_plain D)
    refine ⟨ky, ad, rfl, rfl, hw1.fh _ _ fa, hp1, fun o' D' => ?_⟩
    exact k _ _ _ _ _ _ q (hw1.at f1 m1) ((h2.trans ex1).at (Fr.none n) (dis_plain D')) ⟨p, [.ref ad], _, rfl, Fr.none n, f1, m1, upd_same, ⟨o', [(ky, ad)], rfl, hs, D', rfl, rfl⟩, by simp, .cons r1 .nil⟩
  | _ => exact q1.elim
theorem pairs_of' {F : Hp} : ∀ {ps : List PyData} {vs : List V} {xs : List PyData}, Rps F vs ps → pairKs ps = some xs → ∃ (as : List Addr) (ks : List QD.KA), vs = as.map V.ref ∧ xs = (ks.map fun x => tI x.1) ∧ Paired (fun p k => F p = some (.tup [.ref k.2, .bl true]) ∧ F k.2 = some (.tup (k.1.map V.int))) as ks ∧ ∀ x ∈ ks, Rp F (.ref x.2) (tI x.1)
  | [], _, _, r, e => by cases r; cases e; exact ⟨[], [], rfl, rfl, .nil, fun x hx => by cases hx⟩
  | p :: ps, _, xs, r, e => by
    cases r with
    | @cons v vs _ _ r1 r2 =>
      unfold pairKs at e
      split at e
      · cases ‹_ :: _ = []›
      · rename_i x r0 e0
        cases e0
        split at e
        · rename_i k0 ks0 e1 e2
          cases e
          obtain ⟨as, ks, rfl, rfl, pr, al⟩ := pairs_of' r2 e2
          have ex := keyD_ok e1
          subst ex
          obtain ⟨a, us, rfl, fa, la, pa⟩ := rp_tup r1
          cases pa with
          | cons u1 pa2 =>
            cases pa2 with
            | cons u2 pa3 =>
              cases pa3
              cases rp_bl u2
              obtain ⟨b, rfl, fb⟩ := rp_tI u1
              refine ⟨a :: as, (k0, b) :: ks, rfl, rfl, .cons ⟨fa, fb⟩ pr, fun x hx => ?_⟩
              rcases List.mem_cons.mp hx with rfl | hx
              · exact u1
              · exact al x hx
        · cases e
      · cases e
theorem rps_kas {F : Hp} : ∀ {ks : List QD.KA}, (∀ x ∈ ks, Rp F (.ref x.2) (tI x.1)) → Rps F (ks.map fun x => V.ref x.2) (ks.map fun x => tI x.1)
  | [], _ => .nil
  | x :: ks, h => .cons (h x List.mem_cons_self) (rps_kas fun y hy => h y (List.mem_cons_of_mem _ hy))
theorem kas_rps {F : Hp} : ∀ {ks : List QD.KA}, Rps F (ks.map fun x => V.ref x.2) (ks.map fun x => tI x.1) → ∀ x ∈ ks, Rp F (.ref x.2) (tI x.1)
  | [], _, x, hx => by cases hx
  | y :: ks, h, x, hx => by
    rw [List.map_cons, List.map_cons] at h
    cases h with
    | cons a b =>
      rcases List.mem_cons.mp hx with rfl | hx
      · exact a
      · exact kas_rps b x hx
theorem rp_kt {F : Hp} {x : QD.KA} (h : Rp F (.ref x.2) (tI x.1)) : F x.2 = some (.tup (x.1.map V.int)) := by
  obtain ⟨a, e, fa⟩ := rp_tI h
  cases e
  exact fa
theorem de_dof {p1 : Pos} (hc : X.calm = true) (hu : X.A.units + 64 < cLine) (hg : Gl X "dict") (hm : X.mg "dict" = none) (ha : PE X a (tOf W C ta)) (he : starEach [a] X.env = [(false, eval a X.env)]) : PE X (.Call (.Name "dict" p1) [a] [] pos) (tOf W C (dDof ta)) := by
  refine pe_imp (pe_callTy (QD.call_of hc hu) hg hm (by decide +kernel) (pa_cons ha pa_nil he) (by decide) (by decide) he (by rfl)) fun σ H Q h => ?_
  obtain ⟨env, ω, F, M, Ec, Qc, j, ht, hx, k⟩ := h
  refine ⟨env, ω, F, M, Ec, _, j, ht, hx, fun x ω1 v1 H1 F1 M1 q1 hw1 ex1 r1 => ?_⟩
  unfold dOfK at q1
  split at q1
  · rename_i ps
    obtain ⟨xs, e, q⟩ := q1
    obtain ⟨ad, vs, rfl, fa, la, pa⟩ := rp_lst r1
    obtain ⟨as, ks, rfl, rfl, pr, al⟩ := pairs_of' pa e
    have l1 : as.length = ks.length := Paired.length pr
    have l2 := rps_len pa
    rw [List.length_map] at l2
    refine ⟨ad, as, ks, rfl, hw1.fh _ _ fa, Paired.mapP pr fun _ _ z => ⟨hw1.fh _ _ z.1, hw1.fh _ _ z.2⟩, fun p o n hs D => ?_⟩
    obtain ⟨h2, h3⟩ := alloc (o := QD.DX p o) hw1 n (dis_plain D)
    have hl := QD.putAll_len ks []
    rw [List.length_nil] at hl
    refine k _ _ _ _ _ _ q h2 (ex1.trans h3) ⟨p, _, _, rfl, upd_same, ⟨o, QD.putAll [] ks, rfl, hs, D, rfl, putsD_tI ks []⟩, by rw [List.length_map]; omega, ?_⟩
    rw [show putsD [] (ks.map fun x => tI x.1) = (QD.putAll [] ks).map fun x => tI x.1 from putsD_tI ks []]
    exact rps_kas fun x hx => rp_sub h3.f0 ((QD.putAll_mem hx).elim (fun z => by cases z) (al x))
  · exact q1.elim
/-- d[e] = True -/
theorem ss_put {k k1 : Nat} {x : Str} {p1 p2 p3 : Pos} (hu : X.A.units + 64 < cLine) (hN : X.N[k]? = some x) (hv : Vis X.env.scope x) (hd : (x == ("__debug__" : Str)) = false) (hcd : (x == ("__classdict__" : Str)) = false) (ha : PE X a (tOf W C ta)) :
    PS X (.Assign [.Subscript (.Name x p1) a p2] (.Constant (.bool true) k1 p3) pos) (sOf W C (sPutD k ta)) := by
  refine ps_imp (QD.ps_put hu (pe_var (i := k) hN hv hd hcd) ha pe_bl rfl) fun D σ H h => ?_
  obtain ⟨en, env, ω, F, M, Ec, Dc, i, ht, hx, kn, kb, kc, kr⟩ := h
  unfold sPutD at ht
  split at ht
  · rename_i xs e
    obtain ⟨ov, e1, p, vs, ob, rfl, f, m, hp, io, hl, pr⟩ := i.j.sl k _ e
    refine ⟨.ref p, e1, env, ω, F, M, Ec, _, i.j, ht, hx.step i.ex, fun d ω1 v H1 F1 M1 q1 hw1 ex1 r1 => ?_⟩
    cases d with
    | d z =>
      obtain ⟨hk, hlt, q⟩ := q1
      obtain ⟨ky, hky⟩ := Option.isSome_iff_exists.mp hk
      have ey := keyD_ok hky
      subst ey
      obtain ⟨ad, rfl, fa⟩ := rp_tI r1
      have i1 := i.step hw1 ex1
      have hp1 := ex1.keep _ _ hp m io.plain
      have pr1 := rps_sub ex1.f0 pr
      obtain ⟨o, ks, rfl, hs, D0, rfl, rfl⟩ := io
      have al := kas_rps pr1
      rw [List.length_map] at hlt
      refine ⟨p, o, ks, ky, ad, rfl, rfl, rfl, hp1, D0, by rw [sizeLine_eq]; omega, fun z hz => hw1.fh _ _ (rp_kt (al z hz)), hw1.fh _ _ fa, fun o' D' => ?_⟩
      rw [putD_tI ks ky ad] at q
      have hpl := QD.putI_len ks ky ad
      exact kn _ _ F1 M1 _ _ q (i1.upd e e1 ⟨o', _, rfl, hs, D', rfl, rfl⟩ (by rw [List.length_map]; omega) (rps_kas fun y hy => (QD.putI_mem hy).elim (al y) fun z => by rw [z]; exact r1))
    | _ => exact q1.elim
  · exact ht.elim
/-- d.update(e) -/
theorem ss_upd {k : Nat} {x : Str} {p1 p2 p3 : Pos} (hu : X.A.units + 64 < cLine) (hN : X.N[k]? = some x) (hv : Vis X.env.scope x) (hd : (x == ("__debug__" : Str)) = false) (hcd : (x == ("__classdict__" : Str)) = false) (ha : PE X a (tOf W C ta)) (he : starEach [a] X.env = [(false, eval a X.env)]) (hl : (p2.endLine == p3.line) = true) :
    PS X (.Expr (.Call (.Attribute (.Name x p1) "update" p2) [a] [] p3) pos) (sOf W C (sUpdD k ta)) := by
  refine ps_imp (QD.ps_upd hu (pe_var (i := k) hN hv hd hcd) ha (by rfl) hl he) fun D σ H h => ?_
  obtain ⟨en, env, ω, F, M, Ec, Dc, i, ht, hx, kn, kb, kc, kr⟩ := h
  unfold sUpdD at ht
  split at ht
  · rename_i xs e
    obtain ⟨ov, e1, p, vs, ob, rfl, f, m, hp, io, hl, pr⟩ := i.j.sl k _ e
    have io0 := io
    obtain ⟨o, ks, rfl, hs, D0, rfl, rfl⟩ := io
    refine ⟨.ref p, e1, ⟨p, o, ks, rfl, hp, D0⟩, env, ω, F, M, Ec, _, i.j, ht, hx.step i.ex, fun d ω1 v H1 F1 M1 q1 hw1 ex1 r1 => ?_⟩
    split at q1
    · rename_i ys
      obtain ⟨hlt, hh, q⟩ := q1
      obtain ⟨p2, us, ob2, rfl, f2, ⟨o2, ms, rfl, hs2, D2, rfl, rfl⟩, l2, pr2⟩ := r1
      have i1 := i.step hw1 ex1
      have hp1 := ex1.keep _ _ hp m io0.plain
      have pr1 := rps_sub ex1.f0 pr
      have f1 := ex1.fnone hp f io0.plain
      have al := kas_rps pr1
      have al2 := kas_rps pr2
      rw [List.length_map, List.length_map] at hlt
      refine ⟨p, o, ks, p2, o2, ms, rfl, rfl, hp1, hw1.fh _ _ f2, fun z => (by rw [← z, f1] at f2; cases f2), hs2, D0, D2, by rw [sizeLine_eq]; omega, fun z hz => hw1.fh _ _ (rp_kt (al z hz)), fun z hz => hw1.fh _ _ (rp_kt (al2 z hz)), ?_, fun o' D' => ?_⟩
      · rcases hh with z | z
        · exact .inl fun y => z (by rw [y]; rfl)
        · refine .inr ?_
          have ee : (ms.map fun x => tI x.1).map hashD = ms.map fun x => QD.thash x.1 := by
            rw [List.map_map]
            exact List.map_congr_left fun x _ => hashD_tI x.1
          rw [ee] at z
          exact z
      · rw [putsD_tI ms ks] at q
        have hpl := QD.putAll_len ms ks
        exact kn _ _ F1 M1 _ _ q (i1.upd e e1 ⟨o', _, rfl, hs, D', rfl, rfl⟩ (by rw [List.length_map]; omega) (rps_kas fun y hy => (QD.putAll_mem hy).elim (al y) (al2 y)))
    · exact q1.elim
  · exact ht.elim
end
end Q
namespace Q
open PySem PySem.Spec PyProof.Rows L2

/-! ### the core language -/
inductive CE where
  | var (i : Nat) | con (x : PyData) | glo (k : Nat)
  | tup (a : CE) | lst (own : Bool) (a : CE)
  | bin (o : Op2) (a b : CE) | un (o : Op1) (a : CE) | chain (o o' : Op2) (a b c : CE) | isN (neg : Bool) (a : CE)
  | and (a b : CE) | or (a b : CE) | not (a : CE) | ite (t a b : CE)
  | sl (a lo hi : CE) | no
  | blt (b : Blt) (a : CE) | isa (T : Ty) (a : CE) | call (k : Nat) (a : CE) | callK (k n : Nat) (a b : CE)
  | comp (own : Bool) (it : CE) (p : Pat) (t e : CE) | yes
  | nil | cons (a r : CE)
  | rng1 (a : CE) | rng2 (a b : CE) | zip (a b : CE)
  | lam (e : CE)
  | bb (b : BB) (a : CE) | enum (a : CE) | rev (a : CE)
  | dnew | done (a : CE) | dof (a : CE)
/-- what the names of the text are worth -/
structure Den (Ω : Type) where
  fns : Nat → Option (Nat × FSpec Ω)
  cns : List Int
  nm : Nat → Option Str := fun _ => none
/-- a core term's readings: as an expression, a test, arguments, what is walked, a slice's part -/
structure Dn (Ω : Type) where
  e : TD Ω
  b : TDb Ω
  a : TDa Ω
  i : TDi Ω
  o : TDo Ω
section
variable {Ω : Type}
def fE : TD Ω := fun _ _ _ _ => False
def fB : TDb Ω := fun _ _ _ _ => False
def fA : TDa Ω := fun _ _ _ _ => False
def fI : TDi Ω := fun _ _ _ _ => False
def fO : TDo Ω := fun _ _ _ _ => False
@[reducible] def mkE (e : TD Ω) : Dn Ω := ⟨e, dTru e, fA, dSeqI e, dSome e⟩
def dGlo (δ : Den Ω) (k : Nat) : TD Ω := match δ.cns[k]? with
  | some i => dCon (.int i)
  | none => fE
def dFn (δ : Den Ω) (k : Nat) (a : TDa Ω) : TD Ω := match δ.fns k with
  | some (n, sp) => dCallN n sp a
  | none => fE
/-- positional arguments a (n of them), keywords b -/
def dCallK (n m : Nat) (sp : FSpec Ω) (a b : TDa Ω) : TD Ω := fun E env ω Q => a E env ω fun ds ω1 => ds.length = n ∧ b E env ω1 fun es ω2 => noOwn (ds ++ es) = true ∧ (ds ++ es).length = m ∧ sp (ds ++ es) ω2 Q E
def dFnK (δ : Den Ω) (k n : Nat) (a b : TDa Ω) : TD Ω := match δ.fns k with
  | some (m, sp) => dCallK n m sp a b
  | none => fE
/-- _law_result(lambda: e) -/
def dLam (nm : Nat → Option Str) (te : TD Ω) : TD Ω := fun _ env ω Q => te (fun c ω' => ∃ z, nm c = some z ∧ Q (.d (.tuple [.str z])) ω') env ω fun d ω' => ∃ x, d = .d x ∧ Q (.d (.tuple [.str "returns", x])) ω'
def den (δ : Den Ω) : CE → Dn Ω
  | .var i => mkE (dVar i)
  | .con x => mkE (dCon x)
  | .glo k => mkE (dGlo δ k)
  | .tup a => mkE (dTup (den δ a).a)
  | .lst o a => mkE (dLst o (den δ a).a)
  | .bin o a b => mkE (dBin o (den δ a).e (den δ b).e)
  | .un o a => mkE (dUn o (den δ a).e)
  | .chain o o' a b c => mkE (dChain o o' (den δ a).e (den δ b).e (den δ c).e)
  | .isN n a => mkE (dIsN n (den δ a).e)
  | .and a b => ⟨dAndV (den δ a).e (den δ b).e, dAnd (den δ a).b (den δ b).b, fA, fI, fO⟩
  | .or a b => ⟨dOrV (den δ a).e (den δ b).e, dOr (den δ a).b (den δ b).b, fA, fI, fO⟩
  | .not a => ⟨dNotV (den δ a).e, dNot (den δ a).b, fA, fI, fO⟩
  | .ite t a b => mkE (dIf (den δ t).b (den δ a).e (den δ b).e)
  | .sl a lo hi => mkE (dSl (den δ a).e (den δ lo).o (den δ hi).o)
  | .no => ⟨fE, fB, fA, fI, dNo⟩
  | .blt b a => mkE (dBlt b (den δ a).a)
  | .isa T a => mkE (dIsa T (den δ a).e)
  | .call k a => mkE (dFn δ k (den δ a).a)
  | .callK k n a b => mkE (dFnK δ k n (den δ a).a (den δ b).a)
  | .comp o it p t e => mkE (dComp o (den δ it).i p (den δ t).b (den δ e).e)
  | .yes => ⟨fE, dYes, fA, fI, fO⟩
  | .nil => ⟨fE, fB, dNil, fI, fO⟩
  | .cons a r => ⟨fE, fB, dCons (den δ a).e (den δ r).a, fI, fO⟩
  | .rng1 a => ⟨fE, fB, fA, dRngA (dCons (den δ a).e dNil), fO⟩
  | .rng2 a b => ⟨fE, fB, fA, dRngB (dCons (den δ a).e (dCons (den δ b).e dNil)), fO⟩
  | .zip a b => ⟨fE, fB, fA, dZip (dCons (den δ a).e (dCons (den δ b).e dNil)), fO⟩
  | .lam e => mkE (dLam δ.nm (den δ e).e)
  | .bb b a => mkE (dBB b (den δ a).e)
  | .rev a => mkE (dRev (den δ a).e)
  | .dnew => mkE dNew
  | .done a => mkE (dOne (den δ a).e)
  | .dof a => mkE (dDof (den δ a).e)
  | .enum a => ⟨fE, fB, fA, dEnum (den δ a).e, fO⟩
end

/-! ### the check: core term against the text -/
structure Sx where
  N : List Str
  sc : Scope
  fnb : Str → Bool
  lm : Bool
structure Glob where
  fns : Nat → Option Str
  cns : Nat → Option Str
  exs : Nat → Option Str
  nf : Nat
  kws : List (Nat × Nat × List Str)
def visB (sx : Sx) (x : Str) : Bool := match sx.sc.names.lookup x with
  | some .local => true
  | some .cell => true
  | some .free => true
  | _ => false
def locB (sx : Sx) (x : Str) : Bool := match sx.sc.names.lookup x with
  | some .local => true
  | some .cell => sx.fnb x
  | _ => false
def glB (sx : Sx) (x : Str) : Bool := match sx.sc.names.lookup x with
  | some .globalImplicit => true
  | _ => false
def atB (l : List Str) (i : Nat) (x : Str) : Bool := match l[i]? with
  | some y => decide (y = x)
  | none => false
def fnB (g : Glob) (k : Nat) (x : Str) : Bool := match g.fns k with
  | some y => decide (y = x)
  | none => false
def oB (f : Nat → Option Str) (k : Nat) (x : Str) : Bool := match f k with
  | some y => decide (y = x)
  | none => false
def okN (x : Str) : Bool := !(x == ("__debug__" : Str)) && !(x == ("__classdict__" : Str))
def notStar : Expr → Bool
  | .Starred _ _ => false
  | _ => true
def plainT : Expr → Bool
  | .UnaryOp .Not _ _ => false
  | .BoolOp _ _ _ => false
  | .IfExp _ _ _ _ => false
  | .Compare _ _ _ _ => false
  | _ => true
def notSlice : Expr → Bool
  | .Slice _ _ _ _ => false
  | _ => true
def notSet : Expr → Bool
  | .Set _ _ _ => false
  | _ => true
/-! the target of an assignment, a for -/
mutual
def patB (sx : Sx) : Pat → Expr → Bool
  | .nm i, .Name x _ => atB sx.N i x && locB sx x
  | .nil, .Tuple es _ _ => patsB sx .nil es
  | .cons p r, .Tuple es _ _ => patsB sx (.cons p r) es
  | _, _ => false
def patsB (sx : Sx) : Pat → List Expr → Bool
  | .nil, [] => true
  | .cons p r, e :: es => notStar e && patB sx p e && patsB sx r es
  | _, _ => false
end
def ownOf (N : List Str) (p : Pat) : List (Str × Nat) := p.slots.map fun i => (N.getD i "", i)
@[reducible] def Sx.blk (sx : Sx) (scope : Scope) : Sx := ⟨sx.N, relS scope sx.sc, fun x => scope.names.lookup x == some .cell, false⟩
structure Ck where
  e : Sx → Expr → Bool
  b : Sx → Expr → Bool
  a : Sx → List Expr → Bool
  i : Sx → Expr → Expr → Bool
  o : Sx → Option Expr → Bool
  y : Bool
@[reducible] def ckE (f : Sx → Expr → Bool) : Ck := ⟨f, fun sx ex => plainT ex && f sx ex, fun _ _ => false, fun sx _ ex => notSet ex && f sx ex, fun sx oe => match oe with | some ex => f sx ex | none => false, false⟩
@[reducible] def ckF : Ck := ⟨fun _ _ => false, fun _ _ => false, fun _ _ => false, fun _ _ _ => false, fun _ _ => false, false⟩
def allNS : List Expr → Bool
  | [] => true
  | e :: r => notStar e && allNS r
def noPar : Arguments → Bool
  | ⟨[], [], none, [], [], none, []⟩ => true
  | _ => false
theorem noPar_ok {p : Arguments} (h : noPar p = true) : p = ⟨[], [], none, [], [], none, []⟩ := by
  unfold noPar at h
  split at h
  · rfl
  · cases h
def chk (g : Glob) : CE → Ck
  | .var i => ckE fun sx ex => match ex with
    | .Name x _ => atB sx.N i x && visB sx x && okN x
    | _ => false
  | .con d => ckE fun _ ex => match ex, d with
    | .Constant .none _ _, .none => true
    | .Constant (.bool b) _ _, .bool c => b == c
    | .Constant (.int i) _ _, .int j => decide (i = j)
    | .Constant (.str x) _ _, .str y => decide (x = y)
    | _, _ => false
  | .glo k => ckE fun sx ex => match ex with
    | .Name x _ => oB g.cns k x && glB sx x && okN x
    | _ => false
  | .tup a => ckE fun sx ex => match ex with
    | .Tuple es _ _ => (chk g a).a sx es
    | _ => false
  | .lst _ a => ckE fun sx ex => match ex with
    | .List es _ => (chk g a).a sx es
    | _ => false
  | .bin o a b =>
    let f : Sx → Expr → Bool := fun sx ex => match ex with
      | .BinOp x op y _ => decide (o.bin = some op) && (chk g a).e sx x && (chk g b).e sx y
      | .Compare x [op] [y] _ => decide (o.cmp = some op) && notSet y && (chk g a).e sx x && (chk g b).e sx y
      | .Subscript x y _ => decide (o = .ix) && notSlice y && (chk g a).e sx x && (chk g b).e sx y
      | _ => false
    { ckE f with b := fun sx ex => match ex with
      | .Compare _ [_] [_] _ => f sx ex
      | ex => plainT ex && f sx ex }
  | .un o a => ckE fun sx ex => match ex with
    | .UnaryOp .USub x _ => decide (o = .neg) && (chk g a).e sx x
    | .UnaryOp .Invert x _ => decide (o = .inv) && (chk g a).e sx x
    | _ => false
  | .chain o o' a b c =>
    let f : Sx → Expr → Bool := fun sx ex => match ex with
      | .Compare x [op, op'] [y, z] _ => decide (o.cmp = some op) && decide (o'.cmp = some op') && notSet z && (chk g a).e sx x && (chk g b).e sx y && (chk g c).e sx z
      | _ => false
    { ckE f with b := f }
  | .isN n a =>
    let f : Sx → Expr → Bool := fun sx ex => match ex with
      | .Compare x [op] [.Constant .none _ _] _ => decide (op = if n = true then .IsNot else .Is) && (chk g a).e sx x
      | _ => false
    { ckE f with b := f }
  | .and a b => { ckF with
    e := fun sx ex => match ex with
      | .BoolOp .And [x, y] _ => (chk g a).e sx x && (chk g b).e sx y
      | .BoolOp .And (x :: y :: z :: r) p => (chk g a).e sx x && (chk g b).e sx (.BoolOp .And (y :: z :: r) p)
      | _ => false
    b := fun sx ex => match ex with
      | .BoolOp .And [x, y] _ => (chk g a).b sx x && (chk g b).b sx y
      | .BoolOp .And (x :: y :: z :: r) p => (chk g a).b sx x && (chk g b).b sx (.BoolOp .And (y :: z :: r) p)
      | _ => false }
  | .or a b => { ckF with
    e := fun sx ex => match ex with
      | .BoolOp .Or [x, y] _ => (chk g a).e sx x && (chk g b).e sx y
      | .BoolOp .Or (x :: y :: z :: r) p => (chk g a).e sx x && (chk g b).e sx (.BoolOp .Or (y :: z :: r) p)
      | _ => false
    b := fun sx ex => match ex with
      | .BoolOp .Or [x, y] _ => (chk g a).b sx x && (chk g b).b sx y
      | .BoolOp .Or (x :: y :: z :: r) p => (chk g a).b sx x && (chk g b).b sx (.BoolOp .Or (y :: z :: r) p)
      | _ => false }
  | .not a => { ckF with
    e := fun sx ex => match ex with
      | .UnaryOp .Not x _ => (chk g a).e sx x
      | _ => false
    b := fun sx ex => match ex with
      | .UnaryOp .Not x _ => (chk g a).b sx x
      | _ => false }
  | .ite t a b => ckE fun sx ex => match ex with
    | .IfExp x y z _ => (chk g t).b sx x && (chk g a).e sx y && (chk g b).e sx z
    | _ => false
  | .sl a lo hi => ckE fun sx ex => match ex with
    | .Subscript x (.Slice l u none _) _ => (chk g a).e sx x && (chk g lo).o sx l && (chk g hi).o sx u
    | _ => false
  | .no => { ckF with o := fun _ oe => match oe with | none => true | some _ => false }
  | .blt b a => ckE fun sx ex => match ex with
    | .Call (.Name x _) (e :: es) [] _ => decide (x = b.nm) && glB sx x && allNS (e :: es) && (chk g a).a sx (e :: es)
    | _ => false
  | .isa T a => ckE fun sx ex => match ex with
    | .Call (.Name x _) [e, .Name y _] [] _ => decide (x = ("isinstance" : Str)) && glB sx x && decide (y = Str.ofString T.nm) && glB sx y && notStar e && (chk g a).e sx e
    | _ => false
  | .call k a => ckE fun sx ex => match ex with
    | .Call (.Name x _) es [] _ => decide (k < g.nf) && fnB g k x && glB sx x && okN x && allNS es && (chk g a).a sx es
    | _ => false
  | .callK k n a b => ckE fun sx ex => match ex with
    | .Call (.Name x _) es kws _ => decide (k < g.nf) && fnB g k x && glB sx x && okN x && allNS es && decide (es.length = n) && (chk g a).a sx es && decide ((k, n, kws.filterMap (·.arg)) ∈ g.kws) && kws.all (·.arg.isSome) && decide (kws ≠ []) && (chk g b).a sx (kws.map (·.value))
    | _ => false
  | .comp _ it p t e => ckE fun sx ex => match ex with
    | .ListComp elt [⟨tg, iter, ifs, 0⟩] scope _ => (chk g it).i sx tg iter && notSet iter && patB (sx.blk scope) p tg && blkC sx.N sx.sc scope (ownOf sx.N p) &&
      (match ifs with
        | [] => (chk g t).y
        | [c] => (chk g t).b (sx.blk scope) c
        | _ => false) && (chk g e).e (sx.blk scope) elt
    | _ => false
  | .yes => { ckF with y := true }
  | .nil => { ckF with a := fun _ es => match es with | [] => true | _ :: _ => false }
  | .cons a r => { ckF with a := fun sx es => match es with | e :: es => notStar e && (chk g a).e sx e && (chk g r).a sx es | [] => false }
  | .rng1 a => { ckF with i := fun sx _ ex => match ex with
    | .Call (.Name x _) [e] [] _ => decide (x = ("range" : Str)) && glB sx x && notStar e && (chk g a).e sx e
    | _ => false }
  | .rng2 a b => { ckF with i := fun sx _ ex => match ex with
    | .Call (.Name x _) [e, e'] [] _ => decide (x = ("range" : Str)) && glB sx x && notStar e && notStar e' && (chk g a).e sx e && (chk g b).e sx e'
    | _ => false }
  | .zip a b => { ckF with i := fun sx tg ex => match ex, tg with
    | .Call (.Name x _) [e, e'] [] _, .Tuple _ _ _ => decide (x = ("zip" : Str)) && glB sx x && notStar e && notStar e' && (chk g a).e sx e && (chk g b).e sx e'
    | _, _ => false }
  | .lam e => ckE fun sx ex => match ex with
    | .Call (.Name x _) [.Lambda params body scope _] [] _ => sx.lm && decide (x = ("_law_result" : Str)) && glB sx x && noPar params && LamX.lamSB sx.sc scope && (chk g e).e ⟨sx.N, scope, fun _ => false, false⟩ body
    | _ => false
  | .bb b a => ckE fun sx ex => match ex with
    | .Call (.Name x _) [.Call (.Name y _) [e] [] _] [] _ => decide (x = b.outer) && glB sx x && decide (y = b.inner) && glB sx y && notStar e && (chk g a).e sx e
    | _ => false
  | .rev a => ckE fun sx ex => match ex with
    | .Subscript x (.Slice none none (some (.UnaryOp .USub (.Constant (.int i) _ _) _)) _) _ => decide (i = 1) && (chk g a).e sx x
    | _ => false
  | .dnew => ckE fun _ ex => match ex with
    | .Dict [] [] _ => true
    | _ => false
  | .done a => ckE fun sx ex => match ex with
    | .Dict [some x] [.Constant (.bool true) _ _] _ => (chk g a).e sx x
    | _ => false
  | .dof a => ckE fun sx ex => match ex with
    | .Call (.Name x _) [e] [] _ => decide (x = ("dict" : Str)) && glB sx x && notStar e && (chk g a).e sx e
    | _ => false
  | .enum a => { ckF with i := fun sx tg ex => match ex, tg with
    | .Call (.Name x _) [e] [] _, .Tuple _ _ _ => decide (x = ("enumerate" : Str)) && glB sx x && notStar e && (chk g a).e sx e
    | _, _ => false }
end Q
namespace Q
open PySem PySem.Spec PyProof.Rows L2 LamX
/-- what _law_result makes of the lambda's reading; nm: the answer's name of a class -/
def TTres (nm : Value → Str → Prop) : (XK → Hp → VK → Prop) → Hp → VK → Prop := fun tl H Q => ∀ (p0 : Addr) (E' : XK) (Q' : VK), H p0 = none → (∀ v H', (∀ p, H' p = none → Q (.ref p) (upd H' p (.tup [.str "returns", v]))) → Q' v H') →
  (∀ cls H' z, nm cls z → (∀ H'' p, (∀ b o, H' b = some o → H'' b = some o) → H' p = none → H'' p = some (.tup [.str z]) → Q (.ref p) H'') → E' cls none H') → tl E' (upd H p0 (.tup [.non, .non])) Q'
theorem upd_eq {H : Hp} {a b : Addr} {o : HO} {u : Option HO} (h : upd H a o b = u) : (b = a ∧ u = some o) ∨ (b ≠ a ∧ H b = u) := by
  by_cases z : b = a
  · rw [z, upd_same] at h; exact .inl ⟨z, h.symm⟩
  · rw [upd_ne z] at h; exact .inr ⟨z, h⟩
section
variable {Ω : Type}
open Classical LamX in
/-- the world's part behind the making of a lambda -/
noncomputable def lamM (M H H1 : Hp) : Hp := fun b => if M b ≠ none ∨ Fr H b ∨ Cd H1 b then H1 b else none
theorem lamM_some {M H H1 : Hp} {b : Addr} {o : HO} (h : lamM M H H1 b = some o) : (M b ≠ none ∨ Fr H b ∨ Cd H1 b) ∧ H1 b = some o := by
  unfold lamM at h
  split at h
  · next q => exact ⟨q, h⟩
  · cases h
theorem lamM_in {M H H1 : Hp} {b : Addr} (q : M b ≠ none ∨ Fr H b ∨ Cd H1 b) : lamM M H H1 b = H1 b := if_pos q
theorem ext_cd {H H1 : Hp} (e : ExtN H H1) {a : Addr} (h : Cd H1 a) : Cd H a ∨ Fr H a := by
  cases k : H a with
  | none => exact .inr (Fr.none k)
  | some o =>
    by_cases t : ∃ ps, o = .tbl ps
    · exact .inr fun u q => by rw [k] at q; cases q; exact t
    · have q := e a o k fun ps z => t ⟨ps, z⟩
      obtain ⟨n, hn⟩ := h
      rw [q] at hn
      cases hn
      exact .inl ⟨n, k⟩
theorem ext_fr {H H1 : Hp} (e : ExtN H H1) {a : Addr} (h : Fr H1 a) : Fr H a := fun o k => by
  by_cases t : ∃ ps, o = .tbl ps
  · exact t
  · exact h o (e a o k fun ps z => t ⟨ps, z⟩)
theorem lam_step {W : Ω → Hp → Prop} {ω : Ω} {P : Addr} {F M H H1 : Hp} (hWt : ∀ ω M, W ω M → TabS M P qLam) (hWe : ∀ ω M M1, W ω M → (∀ a o, M a = some o → (∀ ps, o ≠ .tbl ps) → M1 a = some o) → TabS M1 P qLam → W ω M1)
    (hw : Hw W ω F M H) (e : ExtN H H1) (t : TabS H1 P qLam) : Hw W ω F (lamM M H H1) H1 ∧ Ex H F M H1 F (lamM M H H1) := by
  have fk : ∀ a o, F a = some o → H1 a = some o := fun a o q => e a o (hw.fh a o q) (hw.fp a o q).1
  refine ⟨⟨fk, fun a o q => (lamM_some q).2, fun a o q => ?_, hw.fp, hWe ω M _ hw.w (fun a o q n => ?_) ?_⟩, ⟨fun a o q _ p => e a o q p.1, fun _ _ q => q, fun _ _ q => .inl q, fun a o q => ?_, fun a q => ext_fr e q, fun a q => ?_⟩⟩
  · cases k : lamM M H H1 a with
    | none => rfl
    | some u =>
      rcases (lamM_some k).1 with z | z | ⟨n, z⟩
      · exact absurd (hw.fm a o q) z
      · exact (z.not (hw.fh a o q) (hw.fp a o q)).elim
      · rw [fk a o q] at z
        exact absurd (Option.some.inj z) ((hw.fp a o q).2 a n)
  · rw [lamM_in (.inl (by rw [q]; simp))]
    exact e a o (hw.mh a o q) n
  · obtain ⟨ps, h1, h2, h3⟩ := t
    obtain ⟨ps0, m1, _⟩ := hWt ω M hw.w
    refine ⟨ps, by rw [lamM_in (.inl (by rw [m1]; simp))]; exact h1, h2, fun pos cv hc => ?_⟩
    obtain ⟨c, rfl, h4⟩ := h3 pos cv hc
    exact ⟨c, rfl, by rw [lamM_in (.inr (.inr ⟨_, h4⟩))]; exact h4⟩
  · rcases (lamM_some q).1 with z | z | z
    · exact .inl z
    · exact .inr (.inl z)
    · exact .inr ((ext_cd e z).elim .inr .inl)
  · exact (ext_cd e q).elim .inl fun z => .inr (.inl z)
/-- a heap that holds more, and a tuple -/
theorem more_tup {W : Ω → Hp → Prop} {ω : Ω} {F M H H' : Hp} {p : Addr} {vs : List V} (hw : Hw W ω F M H) (s : ∀ b o, H b = some o → H' b = some o) (n : H p = none) (e : H' p = some (.tup vs)) : Hw W ω (upd F p (.tup vs)) M H' ∧ Ex H F M H' (upd F p (.tup vs)) M := by
  have nM : M p = none := by
    cases k : M p with
    | none => rfl
    | some u => rw [hw.mh p u k] at n; cases n
  have nF : F p = none := by
    cases k : F p with
    | none => rfl
    | some u => rw [hw.fh p u k] at n; cases n
  refine ⟨⟨fun a u q => ?_, fun a u q => s _ _ (hw.mh a u q), fun a u q => ?_, fun a u q => ?_, hw.w⟩, ⟨fun a u q _ _ => s _ _ q, fun a u q => ?_, fun a u q => ?_, fun a u q => .inl (by rw [q]; simp), fun a q u k => q u (s _ _ k), fun a q => ?_⟩⟩
  · rcases upd_eq q with ⟨rfl, k⟩ | ⟨_, k⟩
    · rw [k]; exact e
    · exact s _ _ (hw.fh _ _ k)
  · rcases upd_eq q with ⟨rfl, k⟩ | ⟨_, k⟩
    · exact nM
    · exact hw.fm _ _ k
  · rcases upd_eq q with ⟨rfl, k⟩ | ⟨_, k⟩
    · cases k; exact plain_tup
    · exact hw.fp _ _ k
  · rw [upd_ne (fun z => by rw [z, nF] at q; cases q)]; exact q
  · rcases upd_eq q with ⟨rfl, k⟩ | ⟨_, k⟩
    · exact .inr (Fr.none n)
    · exact .inl k
  · cases k : H a with
    | none => exact .inr (.inl (Fr.none k))
    | some o =>
      obtain ⟨x, hx⟩ := q
      rw [s _ _ k] at hx
      cases hx
      exact .inl ⟨x, k⟩
theorem imp_lam {W : Ω → Hp → Prop} {C : Cxx} {P : Addr} {nm : Nat → Option Str} {nmR : Value → Str → Prop} {te : TD Ω} (hWt : ∀ ω M, W ω M → TabS M P qLam) (hWe : ∀ ω M M1, W ω M → (∀ a o, M a = some o → (∀ ps, o ≠ .tbl ps) → M1 a = some o) → TabS M1 P qLam → W ω M1) (hnm : ∀ c z, nm c = some z → nmR (C.cx c) z)
    (σ : L2.St) (H : Hp) (Q : VK) (h : tOf W C (dLam nm te) σ H Q) : tLam [(P, qLam)] (TTres nmR) (fun E => tOf W ⟨C.cx, E⟩ te) σ H Q := by
  obtain ⟨env, ω, F, M, Ec, Qc, j, ht, hx, k⟩ := h
  refine ⟨fun p hp => by rw [List.mem_singleton.mp hp]; exact (hWt ω M j.hw.w).ext j.hw.mh, fun H1 eN T1 => ?_⟩
  obtain ⟨hw1, ex1⟩ := lam_step hWt hWe j.hw eN (T1 _ List.mem_cons_self)
  intro p0 E' Q' np0 hq he
  obtain ⟨hw2, ex2⟩ := alloc (o := .tup [.non, .non]) hw1 np0
  have ex12 := ex1.trans ex2
  refine ⟨env, ω, _, _, _, _, j.step hw2 ex12, ht, fun c ω' H' F' M' hc hw' ex' => ?_, fun d ω' v H' F' M' hc hw' ex' r => ?_⟩
  · obtain ⟨z, hz, q⟩ := hc
    refine he _ H' z (hnm c z hz) fun H'' p s n e => ?_
    obtain ⟨hw3, ex3⟩ := more_tup hw' s n e
    exact k _ _ _ _ _ _ q hw3 ((ex12.trans ex').trans ex3) (Rp.tup upd_same (by simp) (.cons (.str z) .nil))
  · obtain ⟨x, rfl, q⟩ := hc
    refine hq v H' fun p np => ?_
    obtain ⟨hw3, ex3⟩ := alloc (o := .tup [.str "returns", v]) hw' np
    exact k _ _ _ _ _ _ q hw3 ((ex12.trans ex').trans ex3) (Rp.tup upd_same (by simp) (.cons (.str _) (.cons (rp_sub ex3.f0 r) .nil)))
end
end Q
namespace Q
open PySem PySem.Spec PyProof.Rows L2
/-! ### small facts of the text -/
theorem star1 {e : Expr} {es : List Expr} {env : Env} (h : notStar e = true) : starEach (e :: es) env = (false, eval e env) :: starEach es env := by
  cases e <;> first | rfl | (simp [notStar] at h)
theorem starAll {es : List Expr} {env : Env} {pos : Pos} (h : allNS es = true) : (backTo pos (starEach es env)).any (·.1) = false := by
  induction es with
  | nil => rfl
  | cons e r ih =>
    simp only [allNS, Bool.and_eq_true] at h
    rw [star1 h.1]
    have := ih h.2
    simp only [backTo, List.map_cons, List.any_cons] at this ⊢
    simpa using this
theorem plainT_ok {e : Expr} {env : Env} (h : plainT e = true) : ∀ whole, isTrue e env whole = (do let v ← whole; standAt e.pos; holding [v] (truthy v)) := by
  intro whole
  cases e with
  | UnaryOp op x p => cases op <;> first | rfl | (simp [plainT] at h)
  | BoolOp _ _ _ => simp [plainT] at h
  | IfExp _ _ _ _ => simp [plainT] at h
  | Compare _ _ _ _ => simp [plainT] at h
  | _ => rfl
theorem notSlice_ok {e : Expr} (h : notSlice e = true) : PlainIx e := by
  intro o i
  cases e <;> first | rfl | (simp [notSlice] at h)
theorem notSet_ok {e : Expr} {op : CmpOp} (h : notSet e = true) : behindInMarks op e = false := by
  cases e <;> first | rfl | (simp [notSet] at h)
theorem notSet_fold {e : Expr} {env : Env} (h : notSet e = true) : ∀ x, foldedSetIterable e env x = pure x := by
  intro x
  cases e <;> first | rfl | (simp [notSet] at h)
theorem visB_ok {sx : Sx} {x : Str} (h : visB sx x = true) : Vis sx.sc x := by
  unfold visB at h
  split at h
  · exact .inl (by assumption)
  · exact .inr (.inl (by assumption))
  · exact .inr (.inr (by assumption))
  · cases h
theorem locB_ok {sx : Sx} {x : Str} (h : locB sx x = true) : Loc sx.sc x ∧ (sx.fnb x = true ∨ sx.sc.names.lookup x = some .local) := by
  unfold locB at h
  split at h
  · exact ⟨.inl (by assumption), .inr (by assumption)⟩
  · exact ⟨.inr (by assumption), .inl h⟩
  · cases h
theorem glB_ok {sx : Sx} {x : Str} (h : glB sx x = true) : sx.sc.names.lookup x = some .globalImplicit := by
  unfold glB at h
  split at h
  · assumption
  · cases h
theorem atB_ok {l : List Str} {i : Nat} {x : Str} (h : atB l i x = true) : l[i]? = some x := by
  unfold atB at h
  split at h
  · rename_i y e
    rw [e, of_decide_eq_true h]
  · cases h
theorem fnB_ok {g : Glob} {k : Nat} {x : Str} (h : fnB g k x = true) : g.fns k = some x := by
  unfold fnB at h
  split at h
  · rename_i y e
    rw [e, of_decide_eq_true h]
  · cases h
theorem oB_ok {f : Nat → Option Str} {k : Nat} {x : Str} (h : oB f k x = true) : f k = some x := by
  unfold oB at h
  split at h
  · rename_i y e
    rw [e, of_decide_eq_true h]
  · cases h
theorem okN_ok {x : Str} (h : okN x = true) : (x == ("__debug__" : Str)) = false ∧ (x == ("__classdict__" : Str)) = false := by
  unfold okN at h
  rw [Bool.and_eq_true] at h
  exact ⟨by simpa using h.1, by simpa using h.2⟩
/-! ### the context -/
def bltNames : List Str := ["len", "tuple", "list", "all", "sorted", "min", "max", "isinstance", "int", "bool", "str", "range", "zip", "enumerate", "set", "dict"]
def gN {α : Type} (n : Nat) (us ws : List α) : List α := if us.length = n then us ++ ws else []
structure FnI {Ω : Type} (W : Ω → Hp → Prop) (cx : Nat → Value) (g : Glob) (X : Cx) (k : Nat) (x : Str) (m : Nat) (sp : FSpec Ω) (f : Addr) (fd : FuncData) (ps : List Str) (lv : Nat) : Prop where
  len : ps.length = m
  mg : X.mg x = some (.ref f)
  kp : PySem.W.keepIn X.K (.ref f) = true
  bd : L2.Binds X.K fd ps []
  kb : ∀ n ks, (k, n, ks) ∈ g.kws → KBinds X.K fd ps ks (gN n) (gN n)
  ok : FnOk X.prog X.w X.K X.mg X.base (L2.CX X.prog X.w) lv f fd ps (spOf W cx ps.length sp)
  rm : Room lv X.A
/-- what the law's lambdas ask of the law's body -/
structure LamI {Ω : Type} (W : Ω → Hp → Prop) (δ : Den Ω) (g : Glob) (C : Cxx) (X : Cx) : Prop where
  ex : ∃ (gf c P : Addr) (k : Nat) (pg : Arguments) (bg : List Stmt) (sg : Scope) (dV kV doc pm cdv ct oc : Value) (an od : Option Addr) (osl : Array (Option Value)) (Ng : List Str) (nmR : Value → Str → Prop),
    X.mg "_law_result" = some (.ref gf) ∧ PySem.W.keepIn X.K (.ref gf) = true ∧ X.K.lookup gf = some ⟨oc, od, .func (PySem.W.fnOf "_law_result" "_law_result" pg bg sg dV kV doc pm an cdv ct), osl⟩ ∧ PySem.W.codeIn X.K cdv "_law_result" = true ∧
    L2.Binds X.K (PySem.W.fnOf "_law_result" "_law_result" pg bg sg dV kV doc pm an cdv ct) ["call"] [] ∧ FnScope Ng ["call"] sg ∧ Ng[0]? = some ("call" : Str) ∧ Vis sg "call" ∧ LamX.GivesTo X Ng "_law_result" sg gf cdv bg "call" qLam (TTres nmR) ∧
    LamX.TabB X.base X.mg c P ∧ X.env.code = .ref c ∧ X.env.qual ++ "<lambda>" = qLam ∧ Room (k + 2) X.A ∧
    (∀ ω M, W ω M → LamX.TabS M P qLam) ∧ (∀ ω M M1, W ω M → (∀ a o, M a = some o → (∀ ps, o ≠ .tbl ps) → M1 a = some o) → LamX.TabS M1 P qLam → W ω M1) ∧ (∀ c z, δ.nm c = some z → nmR (C.cx c) z) ∧
    ∀ (j : Nat) x, j < g.nf → g.fns j = some x → ∃ m sp f fd ps lv, lv ≤ k ∧ δ.fns j = some (m, sp) ∧ FnI W C.cx g X j x m sp f fd ps lv
structure Ctx {Ω : Type} (W : Ω → Hp → Prop) (δ : Den Ω) (g : Glob) (sx : Sx) (C : Cxx) (X : Cx) : Prop where
  hN : X.N = sx.N
  nd : sx.N.Nodup
  sc : X.env.scope = sx.sc
  fn : X.fn = sx.fnb
  calm : X.calm = true
  hu : X.A.units + 64 < cLine
  tk : Takes X fun cls d _ H => C.wx cls d H
  blt : ∀ x, x ∈ bltNames → X.mg x = none
  con : ∀ (k : Nat) x, g.cns k = some x → ∃ i t, X.mg x = some (.int i t) ∧ δ.cns[k]? = some i
  fns : ∀ (k : Nat) x, k < g.nf → g.fns k = some x → ∃ m sp f fd ps lv, δ.fns k = some (m, sp) ∧ FnI W C.cx g X k x m sp f fd ps lv
  lam : sx.lm = true → LamI W δ g C X
theorem Ctx.gl {Ω : Type} {W : Ω → Hp → Prop} {δ : Den Ω} {g : Glob} {sx : Sx} {C : Cxx} {X : Cx} (c : Ctx W δ g sx C X) {x : Str} (h : glB sx x = true) : Gl X x := by
  show X.env.scope.names.lookup x = _
  rw [c.sc]; exact glB_ok h
theorem Ctx.inLam {Ω : Type} {W : Ω → Hp → Prop} {δ : Den Ω} {g : Glob} {sx : Sx} {C : Cxx} {X : Cx} (c : Ctx W δ g sx C X) {k : Nat} (fns : ∀ (j : Nat) x, j < g.nf → g.fns j = some x → ∃ m sp f fd ps lv, lv ≤ k ∧ δ.fns j = some (m, sp) ∧ FnI W C.cx g X j x m sp f fd ps lv)
    (scope : Scope) (A : Around) (outer : List Env) (s : Shared) (H : Hp) (E : XK) (f c' : Addr) (hr : Room k (A.deeper (LamX.lamEnv X scope s.heap.objs.size f c'))) : Ctx W δ g ⟨sx.N, scope, fun _ => false, false⟩ ⟨C.cx, E⟩ (LamX.lamCx X A outer s H E scope f c') where
  hN := c.hN
  nd := c.nd
  sc := rfl
  fn := rfl
  calm := rfl
  hu := hr.units
  tk := takes_of rfl rfl rfl rfl
  blt := c.blt
  con := c.con
  fns := fun j x hj e => by
    obtain ⟨m, sp, f, fd, ps, lv, hl, e1, q⟩ := fns j x hj e
    exact ⟨m, sp, f, fd, ps, lv, e1, ⟨q.len, q.mg, q.kp, q.bd, q.kb, q.ok, hr.mono hl⟩⟩
  lam := fun z => by cases z
theorem Ctx.blk {Ω : Type} {W : Ω → Hp → Prop} {δ : Den Ω} {g : Glob} {sx : Sx} {C : Cxx} {X : Cx} (c : Ctx W δ g sx C X) (scope : Scope) (s : Shared) (H : Hp) (C0 : Addr) (cl : List (Str × Addr)) (fp : List Addr) : Ctx W δ g (sx.blk scope) C.none (X.blk s H scope (compEnvC scope cl C0 X.env) fp) where
  hN := c.hN
  nd := c.nd
  sc := by
    show (compEnvC scope cl C0 X.env).scope = relS scope sx.sc
    rw [← c.sc]; rfl
  fn := rfl
  calm := c.calm
  hu := c.hu
  tk := L2.takes0
  blt := c.blt
  con := c.con
  lam := fun z => by cases z
  fns := fun k x h e => by
    obtain ⟨m, sp, f, fd, ps, lv, e1, F⟩ := c.fns k x h e
    exact ⟨m, sp, f, fd, ps, lv, e1, ⟨F.len, F.mg, F.kp, F.bd, F.kb, F.ok, F.rm⟩⟩
section
variable {Ω : Type} {W : Ω → Hp → Prop} {δ : Den Ω} {g : Glob} {sx : Sx} {C : Cxx} {X : Cx}
mutual
theorem pat_pg (c : Ctx W δ g sx C X) : ∀ (p : Pat) (tg : Expr), patB sx p tg = true → PG X tg (gP X.K p)
  | .nm i, tg, h => by
    cases tg with
    | Name x pos =>
      simp only [patB, Bool.and_eq_true] at h
      obtain ⟨h1, h2⟩ := locB_ok h.2
      simp only [gP]
      exact pg_name (by rw [c.hN]; exact c.nd) (by rw [c.hN]; exact atB_ok h.1) (by rw [c.sc]; exact h1) (by rw [c.fn, c.sc]; exact h2)
    | _ => simp [patB] at h
  | .nil, tg, h => by
    cases tg with
    | Tuple es k pos =>
      simp only [patB] at h
      obtain ⟨a, b, d⟩ := pats_pg c .nil es h
      simp only [gP]
      exact pg_tup c.calm (by simpa only [gPs] using a) (by simpa [Pat.len] using b) d
    | _ => simp [patB] at h
  | .cons p r, tg, h => by
    cases tg with
    | Tuple es k pos =>
      simp only [patB] at h
      obtain ⟨a, b, d⟩ := pats_pg c (.cons p r) es h
      simp only [gP]
      exact pg_tup c.calm (by simpa only [gPs] using a) (by simpa [Pat.len] using b) d
    | _ => simp [patB] at h
theorem pats_pg (c : Ctx W δ g sx C X) : ∀ (p : Pat) (es : List Expr), patsB sx p es = true → PGs X es (gPs X.K p) ∧ (assignEach es X.env).length = p.len ∧ (assignEach es X.env).findIdx? (·.1) = none
  | .nil, [], h => ⟨by simp only [gPs]; exact pgs_nil, rfl, rfl⟩
  | .nil, _ :: _, h => by simp [patsB] at h
  | .cons p r, [], h => by simp [patsB] at h
  | .cons p r, e :: es, h => by
    simp only [patsB, Bool.and_eq_true] at h
    obtain ⟨⟨h0, h1⟩, h2⟩ := h
    obtain ⟨a, b, d⟩ := pats_pg c r es h2
    have hs : assignEach (e :: es) X.env = (false, assign e X.env) :: assignEach es X.env := by
      cases e <;> first | rfl | (simp [notStar] at h0)
    refine ⟨by simp only [gPs]; exact pgs_cons (pat_pg c p e h1) a (by rw [hs]; rfl), by rw [hs, List.length_cons, b]; rfl, by rw [hs]; simp [List.findIdx?_cons, d]⟩
  | .nm _, _, h => by simp [patsB] at h
end
end
end Q
namespace Q
open PySem PySem.Spec PyProof.Rows L2
section
variable {Ω : Type} {W : Ω → Hp → Prop} {δ : Den Ω} {g : Glob}
/-- the readings of a core term are readings of the text that it was checked against -/
structure Snd (W : Ω → Hp → Prop) (δ : Den Ω) (g : Glob) (c : CE) : Prop where
  e : ∀ {sx C X}, Ctx W δ g sx C X → ∀ ex, (chk g c).e sx ex = true → PE X ex (tOf W C (den δ c).e)
  b : ∀ {sx C X}, Ctx W δ g sx C X → ∀ ex, (chk g c).b sx ex = true → PT X ex (bOf W C (den δ c).b)
  w : ∀ {sx C X}, Ctx W δ g sx C X → ∀ op l p, (chk g c).b sx (.BoolOp op l p) = true → PW X (.BoolOp op l p) (bOf W C (den δ c).b)
  a : ∀ {sx C X}, Ctx W δ g sx C X → ∀ es, (chk g c).a sx es = true → PA X es (aOf W C (den δ c).a)
  i : ∀ {sx C X}, Ctx W δ g sx C X → ∀ tg ex, (chk g c).i sx tg ex = true → PI X tg ex (iOf W C (den δ c).i) ∧ notSet ex = true
  o : ∀ {sx C X}, Ctx W δ g sx C X → ∀ oe, (chk g c).o sx oe = true → PO X oe (oOf W C (den δ c).o)
  y : (chk g c).y = true → (den δ c).b = dYes
  k : ∀ {sx C X}, Ctx W δ g sx C X → ∀ kws : List Keyword, (chk g c).a sx (kws.map (·.value)) = true → PK X kws (aOf W C (den δ c).a)
theorem notF {p : Prop} (h : false = true) : p := by cases h
/-- a plain expression -/
theorem snd_plain {c : CE} {f : Sx → Expr → Bool} {t : TD Ω} (hc : chk g c = ckE f) (hd : den δ c = mkE t) (h : ∀ {sx C X}, Ctx W δ g sx C X → ∀ ex, f sx ex = true → PE X ex (tOf W C t)) : Snd W δ g c := by
  refine ⟨?_, ?_, ?_, ?_, ?_, ?_, ?_, ?_⟩ <;> rw [hc, hd]
  · exact fun c ex q => h c ex q
  · intro sx C X c ex q
    rw [Bool.and_eq_true] at q
    exact dt_tru (h c ex q.2) (plainT_ok q.1)
  · intro sx C X c op l p q
    simp [plainT] at q
  · exact fun _ _ q => notF q
  · intro sx C X c tg ex q
    rw [Bool.and_eq_true] at q
    exact ⟨di_seq (h c ex q.2), q.1⟩
  · intro sx C X c oe q
    cases oe with
    | none => cases q
    | some ex => exact do_some (h c ex q)
  · exact fun q => notF q
  · exact fun _ _ q => notF q
theorem snd_var (i : Nat) : Snd W δ g (.var i) := snd_plain rfl rfl fun c ex q => by
  cases ex with
  | Name x pos =>
    simp only [Bool.and_eq_true] at q
    obtain ⟨⟨q1, q2⟩, q3⟩ := q
    exact de_var (by rw [c.hN]; exact atB_ok q1) (by rw [c.sc]; exact visB_ok q2) (okN_ok q3).1 (okN_ok q3).2
  | _ => cases q
theorem snd_con (d : PyData) : Snd W δ g (.con d) := snd_plain rfl rfl fun c ex q => by
  cases ex with
  | Constant k n pos =>
    cases k <;> cases d <;> try (cases q; done)
    · exact de_con pe_non fun _ => .non
    · cases beq_iff_eq.mp q; exact de_con pe_bl fun _ => .bl _
    · cases of_decide_eq_true q; exact de_con pe_int fun _ => .int _
    · cases of_decide_eq_true q; exact de_con pe_str fun _ => .str _
  | _ => cases d <;> cases q
theorem snd_glo (k : Nat) : Snd W δ g (.glo k) := snd_plain rfl rfl fun c ex q => by
  cases ex with
  | Name x pos =>
    simp only [Bool.and_eq_true] at q
    obtain ⟨⟨q1, q2⟩, q3⟩ := q
    obtain ⟨i, t, e1, e2⟩ := c.con k x (oB_ok q1)
    unfold dGlo
    rw [e2]
    exact de_con (pe_glob (v := .int i) (c.gl q2) e1 ⟨t, rfl⟩ (okN_ok q3).1) fun _ => .int _
  | _ => cases q
theorem snd_tup {a : CE} (sa : Snd W δ g a) : Snd W δ g (.tup a) := snd_plain rfl rfl fun c ex q => by
  cases ex with
  | Tuple es k pos => exact de_tup (sa.a c es q)
  | _ => cases q
theorem snd_lst {o : Bool} {a : CE} (sa : Snd W δ g a) : Snd W δ g (.lst o a) := snd_plain rfl rfl fun c ex q => by
  cases ex with
  | List es pos => exact de_lst (sa.a c es q)
  | _ => cases q
theorem snd_bin {o : Op2} {a b : CE} (sa : Snd W δ g a) (sb : Snd W δ g b) : Snd W δ g (.bin o a b) := by
  have he : ∀ {sx C X}, Ctx W δ g sx C X → ∀ ex, (chk g (.bin o a b)).e sx ex = true → PE X ex (tOf W C (dBin o (den δ a).e (den δ b).e)) := fun {sx C X} c ex q => by
    cases ex with
    | BinOp x op y pos =>
      simp only [chk, Bool.and_eq_true] at q
      exact de_bin (of_decide_eq_true q.1.1) (sa.e c x q.1.2) (sb.e c y q.2)
    | Compare x ops ys pos =>
      simp only [chk] at q
      split at q
      · rename_i e; cases e
      · rename_i e; cases e
        simp only [Bool.and_eq_true] at q
        exact de_cmp (of_decide_eq_true q.1.1.1) c.hu (sa.e c _ q.1.2) (sb.e c _ q.2) (notSet_ok q.1.1.2)
      · rename_i e; cases e
      · cases q
    | Subscript x y pos =>
      simp only [chk, Bool.and_eq_true] at q
      cases of_decide_eq_true q.1.1.1
      exact de_ix (sa.e c x q.1.2) (sb.e c y q.2) (notSlice_ok q.1.1.2)
    | _ => simp [chk] at q
  refine ⟨he, ?_, ?_, ?_, ?_, ?_, ?_, ?_⟩
  · intro sx C X c ex q
    have q' := q
    simp only [chk] at q
    split at q
    · rename_i x op y pos
      simp only [Bool.and_eq_true] at q
      exact dt_cmp (of_decide_eq_true q.1.1.1) c.hu (sa.e c _ q.1.2) (sb.e c _ q.2) (notSet_ok q.1.1.2)
    · rw [Bool.and_eq_true] at q
      exact dt_tru (he c ex (by simp only [chk]; exact q.2)) (plainT_ok q.1)
  · intro sx C X c op l p q
    simp [chk, plainT] at q
  · exact fun _ _ q => notF q
  · intro sx C X c tg ex q
    simp only [chk] at q
    rw [Bool.and_eq_true] at q
    exact ⟨di_seq (he c ex (by simp only [chk]; exact q.2)), q.1⟩
  · intro sx C X c oe q
    cases oe with
    | none => simp [chk] at q
    | some ex => exact do_some (he c ex (by simpa only [chk] using q))
  · intro q; simp [chk] at q
  · exact fun _ _ q => notF q
/-- a plain expression whose test is its own -/
theorem snd_own {c : CE} {f : Sx → Expr → Bool} {t : TD Ω} (hc : chk g c = { ckE f with b := f }) (hd : den δ c = mkE t) (h : ∀ {sx C X}, Ctx W δ g sx C X → ∀ ex, f sx ex = true → PE X ex (tOf W C t)) (hb : ∀ {sx C X}, Ctx W δ g sx C X → ∀ ex, f sx ex = true → PT X ex (bOf W C (dTru t)))
    (hn : ∀ sx op l p, f sx (.BoolOp op l p) = false) : Snd W δ g c := by
  refine ⟨?_, ?_, ?_, ?_, ?_, ?_, ?_, ?_⟩ <;> rw [hc, hd]
  · exact fun c ex q => h c ex q
  · exact fun c ex q => hb c ex q
  · intro sx C X c op l p q
    have z := hn sx op l p
    have q' : f sx (.BoolOp op l p) = true := q
    rw [z] at q'; cases q'
  · exact fun _ _ q => notF q
  · intro sx C X c tg ex q
    rw [Bool.and_eq_true] at q
    exact ⟨di_seq (h c ex q.2), q.1⟩
  · intro sx C X c oe q
    cases oe with
    | none => cases q
    | some ex => exact do_some (h c ex q)
  · exact fun q => notF q
  · exact fun _ _ q => notF q
theorem snd_un {o : Op1} {a : CE} (sa : Snd W δ g a) : Snd W δ g (.un o a) := snd_plain rfl rfl fun c ex q => by
  cases ex with
  | UnaryOp op x pos =>
    cases op with
    | USub =>
      simp only [Bool.and_eq_true] at q
      cases of_decide_eq_true q.1
      exact de_neg (sa.e c x q.2)
    | Invert =>
      simp only [Bool.and_eq_true] at q
      cases of_decide_eq_true q.1
      exact de_inv (sa.e c x q.2)
    | _ => cases q
  | _ => cases q
theorem snd_chain {o o' : Op2} {a b d : CE} (sa : Snd W δ g a) (sb : Snd W δ g b) (sd : Snd W δ g d) : Snd W δ g (.chain o o' a b d) := snd_own rfl rfl (fun c ex q => by
    cases ex with
    | Compare x ops ys pos =>
      try simp only at q
      split at q
      · rename_i e; cases e
        simp only [Bool.and_eq_true] at q
        obtain ⟨⟨⟨⟨⟨q1, q2⟩, q3⟩, q4⟩, q5⟩, q6⟩ := q
        exact de_chain (of_decide_eq_true q1) (of_decide_eq_true q2) c.hu (sa.e c _ q4) (sb.e c _ q5) (sd.e c _ q6) (notSet_ok q3)
      · cases q
    | _ => cases q) (fun c ex q => by
    cases ex with
    | Compare x ops ys pos =>
      try simp only at q
      split at q
      · rename_i e; cases e
        simp only [Bool.and_eq_true] at q
        obtain ⟨⟨⟨⟨⟨q1, q2⟩, q3⟩, q4⟩, q5⟩, q6⟩ := q
        exact dt_chain (of_decide_eq_true q1) (of_decide_eq_true q2) c.hu (sa.e c _ q4) (sb.e c _ q5) (sd.e c _ q6) (notSet_ok q3)
      · cases q
    | _ => cases q) fun _ _ _ _ => rfl
theorem snd_isN {n : Bool} {a : CE} (sa : Snd W δ g a) : Snd W δ g (.isN n a) := snd_own rfl rfl (fun c ex q => by
    cases ex with
    | Compare x ops ys pos =>
      try simp only at q
      split at q
      · rename_i e; cases e
        simp only [Bool.and_eq_true] at q
        rw [of_decide_eq_true q.1]
        exact de_isN (sa.e c _ q.2)
      · cases q
    | _ => cases q) (fun c ex q => by
    cases ex with
    | Compare x ops ys pos =>
      try simp only at q
      split at q
      · rename_i e; cases e
        simp only [Bool.and_eq_true] at q
        rw [of_decide_eq_true q.1]
        exact dt_isN (sa.e c _ q.2)
      · cases q
    | _ => cases q) fun _ _ _ _ => rfl
theorem snd_and {a b : CE} (sa : Snd W δ g a) (sb : Snd W δ g b) : Snd W δ g (.and a b) := by
  have hw : ∀ {sx C X}, Ctx W δ g sx C X → ∀ ex, (chk g (.and a b)).b sx ex = true → PW X ex (bOf W C (dAnd (den δ a).b (den δ b).b)) := fun {sx C X} c ex q => by
    simp only [chk] at q
    split at q
    · rw [Bool.and_eq_true] at q
      exact dw_and (sa.b c _ q.1) (dw_and1 (sb.b c _ q.2))
    · rw [Bool.and_eq_true] at q
      exact dw_and (sa.b c _ q.1) (sb.w c _ _ _ q.2)
    · cases q
  refine ⟨?_, fun c ex q => (hw c ex q).pt, fun c op l p q => hw c _ q, ?_, ?_, ?_, ?_, ?_⟩
  · intro sx C X c ex q
    simp only [chk] at q
    split at q
    · rw [Bool.and_eq_true] at q
      exact de_and (sa.e c _ q.1) (de_one (sb.e c _ q.2))
    · rw [Bool.and_eq_true] at q
      exact de_and (sa.e c _ q.1) (sb.e c _ q.2)
    · cases q
  all_goals intros; simp_all [chk]
theorem snd_or {a b : CE} (sa : Snd W δ g a) (sb : Snd W δ g b) : Snd W δ g (.or a b) := by
  have hw : ∀ {sx C X}, Ctx W δ g sx C X → ∀ ex, (chk g (.or a b)).b sx ex = true → PW X ex (bOf W C (dOr (den δ a).b (den δ b).b)) := fun {sx C X} c ex q => by
    simp only [chk] at q
    split at q
    · rw [Bool.and_eq_true] at q
      exact dw_or (sa.b c _ q.1) (dw_or1 (sb.b c _ q.2))
    · rw [Bool.and_eq_true] at q
      exact dw_or (sa.b c _ q.1) (sb.w c _ _ _ q.2)
    · cases q
  refine ⟨?_, fun c ex q => (hw c ex q).pt, fun c op l p q => hw c _ q, ?_, ?_, ?_, ?_, ?_⟩
  · intro sx C X c ex q
    simp only [chk] at q
    split at q
    · rw [Bool.and_eq_true] at q
      exact de_or (sa.e c _ q.1) (de_one (sb.e c _ q.2))
    · rw [Bool.and_eq_true] at q
      exact de_or (sa.e c _ q.1) (sb.e c _ q.2)
    · cases q
  all_goals intros; simp_all [chk]
theorem snd_not {a : CE} (sa : Snd W δ g a) : Snd W δ g (.not a) := by
  refine ⟨?_, ?_, ?_, ?_, ?_, ?_, ?_, ?_⟩
  · intro sx C X c ex q
    simp only [chk] at q
    split at q
    · exact de_not (sa.e c _ q)
    · cases q
  · intro sx C X c ex q
    simp only [chk] at q
    split at q
    · exact dt_not (sa.b c _ q)
    · cases q
  all_goals intros; simp_all [chk]
theorem snd_ite {t a b : CE} (st : Snd W δ g t) (sa : Snd W δ g a) (sb : Snd W δ g b) : Snd W δ g (.ite t a b) := snd_plain rfl rfl fun c ex q => by
  cases ex with
  | IfExp x y z pos =>
    simp only [Bool.and_eq_true] at q
    exact de_if (st.b c x q.1.1) (sa.e c y q.1.2) (sb.e c z q.2)
  | _ => cases q
theorem snd_sl {a lo hi : CE} (sa : Snd W δ g a) (sl : Snd W δ g lo) (sh : Snd W δ g hi) : Snd W δ g (.sl a lo hi) := snd_plain rfl rfl fun c ex q => by
  cases ex with
  | Subscript x y pos =>
    try simp only at q
    split at q
    · rename_i e; cases e
      simp only [Bool.and_eq_true] at q
      exact de_sl (sa.e c _ q.1.1) (sl.o c _ q.1.2) (sh.o c _ q.2)
    · cases q
  | _ => cases q
theorem snd_no : Snd W δ g .no := by
  refine { e := ?e, b := ?b, w := ?w, a := ?a, i := ?i, o := ?o, y := ?y, k := ?k }
  case o =>
    intro sx C X c oe q
    cases oe with
    | none => exact do_none
    | some _ => simp [chk] at q
  all_goals intros; simp_all [chk]
theorem snd_yes : Snd W δ g .yes := by
  refine { e := ?e, b := ?b, w := ?w, a := ?a, i := ?i, o := ?o, y := ?y, k := ?k }
  case y => exact fun _ => rfl
  all_goals intros; simp_all [chk]
theorem pk_imp {X : Cx} {e : List Keyword} {t t' : TA} (h : PK X e t) (i : ∀ σ H Q, t' σ H Q → t σ H Q) : PK X e t' := ⟨fun pos pins s σ H Q I q => h.run pos pins s σ H Q I (i σ H Q q)⟩
theorem snd_nil : Snd W δ g .nil := by
  refine { e := ?e, b := ?b, w := ?w, a := ?a, i := ?i, o := ?o, y := ?y, k := ?k }
  case a =>
    intro sx C X c es q
    cases es with
    | nil => exact da_nil
    | cons _ _ => simp [chk] at q
  case k =>
    intro sx C X c kws q
    cases kws with
    | nil =>
      refine pk_imp pk_nil fun σ H Q h => ?_
      obtain ⟨env, ω, F, M, Ec, Qc, j, ht, hx, k⟩ := h
      exact k _ _ _ _ _ _ ht j.hw (Ex.refl H F M) .nil
    | cons _ _ => simp [chk] at q
  all_goals intros; simp_all [chk]
theorem snd_cons {a r : CE} (sa : Snd W δ g a) (sr : Snd W δ g r) : Snd W δ g (.cons a r) := by
  refine { e := ?e, b := ?b, w := ?w, a := ?a, i := ?i, o := ?o, y := ?y, k := ?k }
  case a =>
    intro sx C X c es q
    cases es with
    | nil => simp [chk] at q
    | cons e es =>
      simp only [chk, Bool.and_eq_true] at q
      exact da_cons (sa.e c e q.1.2) (sr.a c es q.2) (star1 q.1.1)
  case k =>
    intro sx C X c kws q
    cases kws with
    | nil => simp [chk] at q
    | cons kw kws =>
      simp only [chk, List.map_cons, Bool.and_eq_true] at q
      obtain ⟨nm, v, kp⟩ := kw
      refine pk_imp (pk_cons (sa.e c v q.1.2) (sr.k c kws q.2)) fun σ H Q h => ?_
      obtain ⟨env, ω, F, M, Ec, Qc, j, ht, hx, k⟩ := h
      refine ⟨env, ω, F, M, Ec, _, j, ht, hx, fun x ω1 v1 H1 F1 M1 q1 hw1 ex1 r1 => ?_⟩
      refine ⟨env, ω1, F1, M1, Ec, _, j.step hw1 ex1, q1, hx.step ex1, fun xs ω2 vs H2 F2 M2 q2 hw2 ex2 r2 => ?_⟩
      exact k _ _ _ _ _ _ q2 hw2 (ex1.trans ex2) (.cons (r1.step ex2) (r2.back ex1.al))
  all_goals intros; simp_all [chk]
theorem Blt.mem : ∀ b : Blt, b.nm ∈ bltNames := by intro b; cases b <;> decide
theorem Ty.mem : ∀ T : Ty, Str.ofString T.nm ∈ bltNames := by intro T; cases T <;> decide
end
end Q
namespace Q
open PySem PySem.Spec PyProof.Rows L2
section
variable {Ω : Type} {W : Ω → Hp → Prop} {δ : Den Ω} {g : Glob}
theorem snd_blt {b : Blt} {a : CE} (sa : Snd W δ g a) : Snd W δ g (.blt b a) := snd_plain rfl rfl fun c ex q => by
  cases ex with
  | Call f args kws pos =>
    split at q
    · rename_i e; cases e
      simp only [Bool.and_eq_true] at q
      obtain ⟨⟨⟨q1, q2⟩, q3⟩, q4⟩ := q
      have e := of_decide_eq_true q1
      subst e
      have q3' := q3
      simp only [allNS, Bool.and_eq_true] at q3'
      exact de_blt c.calm c.hu (c.gl q2) (c.blt _ b.mem) (sa.a c _ q4) (star1 q3'.1) (starAll q3'.2)
    · cases q
  | _ => cases q
theorem snd_isa {T : Ty} {a : CE} (sa : Snd W δ g a) : Snd W δ g (.isa T a) := snd_plain rfl rfl fun c ex q => by
  cases ex with
  | Call f args kws pos =>
    split at q
    · rename_i e; cases e
      simp only [Bool.and_eq_true] at q
      obtain ⟨⟨⟨⟨⟨q1, q2⟩, q3⟩, q4⟩, q5⟩, q6⟩ := q
      have e := of_decide_eq_true q1
      have e2 := of_decide_eq_true q3
      subst e e2
      exact de_isa (c.gl q2) (c.blt _ (by decide)) (c.gl q4) (c.blt _ T.mem) (sa.e c _ q6) (star1 q5)
    · cases q
  | _ => cases q
theorem snd_call {k : Nat} {a : CE} (sa : Snd W δ g a) : Snd W δ g (.call k a) := snd_plain rfl rfl fun c ex q => by
  cases ex with
  | Call f args kws pos =>
    split at q
    · rename_i e; cases e
      simp only [Bool.and_eq_true] at q
      obtain ⟨⟨⟨⟨⟨q1, q2⟩, q3⟩, q4⟩, q5⟩, q6⟩ := q
      obtain ⟨m, sp, f, fd, ps, lv, e1, F⟩ := c.fns k _ (of_decide_eq_true q1) (fnB_ok q2)
      unfold dFn
      rw [e1]
      have hl := F.len
      subst hl
      cases args with
      | nil =>
        have hp : (den δ a).a = dNil := by cases a <;> first | rfl | (simp [chk] at q6; done)
        rw [hp]
        exact de_call0 F.ok F.rm (c.gl q3) F.mg F.kp F.bd c.tk (okN_ok q4).1
      | cons e es =>
        simp only [allNS, Bool.and_eq_true] at q5
        exact de_call F.ok F.rm (c.gl q3) F.mg F.kp F.bd c.tk (sa.a c _ q6) (okN_ok q4).1 (star1 q5.1) (starAll q5.2)
    · cases q
  | _ => cases q
theorem kw_some : ∀ {kws : List Keyword} {env : Env} {pos : Pos}, kws.all (·.arg.isSome) = true → (backToKw pos (keywordEach kws env)).all (·.1.isSome) = true ∧ (backToKw pos (keywordEach kws env)).filterMap (·.1) = kws.filterMap (·.arg) ∧ (backToKw pos (keywordEach kws env)).any (·.1.isNone) = false
  | [], _, _, _ => ⟨rfl, rfl, rfl⟩
  | ⟨nm, v, p⟩ :: kws, env, pos, h => by
    simp only [List.all_cons, Bool.and_eq_true] at h
    obtain ⟨a, b, d⟩ := kw_some (env := env) (pos := pos) h.2
    cases nm with
    | none => simp at h
    | some x =>
      simp only [backToKw, keywordEach, List.map_cons, List.all_cons, List.filterMap_cons, List.any_cons] at a b d ⊢
      exact ⟨by simpa using a, congrArg (x :: ·) b, by simpa using d⟩
theorem pe_callK0 {X : Cx} {CX : CXT} {k : Nat} {f : Addr} {fd : FuncData} {ps ks : List Str} {sp : Sp} {E : XK} {x : Str} {p pos : Pos} {kws : List Keyword} {tk : TA} {gv : List Value → List Value → List Value} {gV : List V → List V → List V} (F : FnOk X.prog X.w X.K X.mg X.base CX k f fd ps sp) (hr : Room k X.A) (hg : Gl X x) (hm : X.mg x = some (.ref f)) (hk : PySem.W.keepIn X.K (.ref f) = true) (hb : KBinds X.K fd ps ks gv gV) (hx : Passes CX X E)
    (hkw : PK X kws tk) (hall : (backToKw pos (keywordEach kws X.env)).all (·.1.isSome) = true) (hks : (backToKw pos (keywordEach kws X.env)).filterMap (·.1) = ks)
    (hdb : (x == ("__debug__" : Str)) = false) (hpl : ((backTo pos (starEach [] X.env)).any (·.1) || (backToKw pos (keywordEach kws X.env)).any (·.1.isNone)) = false) :
    PE X (.Call (.Name x p) [] kws pos) (tCallK sp gV E tNil tk) := by
  refine ⟨fun pins s σ H Q I h => ?_⟩
  refine wpAny_Call_Name_kw (ld_glob I hg hm ?_ hdb)
  refine PySem.W.callWith_KW0 (h₀ := X.base) I.ok.mod.kin hk hall (thn (hkw.run pos pins s σ H _ I h) fun ws s2 ⟨zs, H2, I2, rz, q2⟩ => ⟨I2.kIn, ?_⟩) hpl
  rw [hks]
  exact run_fnk F hr hb hx I2 .nil rz q2
theorem imp_callK {C : Cxx} {n m : Nat} {sp : FSpec Ω} {a b : TDa Ω} (σ : L2.St) (H : Hp) (Q : VK) (h : tOf W C (dCallK n m sp a b) σ H Q) : aOf W C a σ H fun vs H1 => aOf W C b σ H1 fun zs H2 => spOf W C.cx m sp (gN n vs zs) H2 Q C.wx := by
  obtain ⟨env, ω, F, M, Ec, Qc, j, ht, hx, k⟩ := h
  refine ⟨env, ω, F, M, Ec, _, j, ht, hx, fun ds ω1 vs H1 F1 M1 q1 hw1 ex1 r1 => ?_⟩
  obtain ⟨hn, q1⟩ := q1
  refine ⟨env, ω1, F1, M1, Ec, _, j.step hw1 ex1, q1, hx.step ex1, fun es ω2 zs H2 F2 M2 q2 hw2 ex2 r2 => ?_⟩
  obtain ⟨no, hm, q⟩ := q2
  have ex := ex1.trans ex2
  have hv : vs.length = n := by rw [← hn]; exact Paired.length r1
  have hr : RDs H F2 M2 H2 (vs ++ zs) (ds ++ es) := by
    have r1' := r1.step ex2
    have r2' := r2.back ex1.al
    clear q1 ht r1 no hm q hn hv
    induction r1' with
    | nil => exact r2'
    | cons a b ih => exact .cons a ih
  unfold gN
  rw [if_pos hv]
  exact ⟨F2, M2, ω2, ds ++ es, Qc, Ec, hw2, rds_noOwn no hr, hm, q, fun d ω' v H' F' M' q hw' ex' r' => k d ω' v H' F' M' q hw' (ex.trans ex') (r'.back ex.al), fun c ω' H' F' M' e hw' ex' => hx c ω' H' F' M' e hw' (ex.trans ex')⟩
theorem snd_callK {k n : Nat} {a b : CE} (sa : Snd W δ g a) (sb : Snd W δ g b) : Snd W δ g (.callK k n a b) := snd_plain rfl rfl fun c ex q => by
  cases ex with
  | Call f args kws pos =>
    split at q
    · rename_i e; cases e
      simp only [Bool.and_eq_true] at q
      obtain ⟨⟨⟨⟨⟨⟨⟨⟨⟨⟨q1, q2⟩, q3⟩, q4⟩, q5⟩, q6⟩, q7⟩, q8⟩, q9⟩, q10⟩, q11⟩ := q
      obtain ⟨m, sp, f, fd, ps, lv, e1, F⟩ := c.fns k _ (of_decide_eq_true q1) (fnB_ok q2)
      unfold dFnK
      rw [e1]
      have hl := F.len
      subst hl
      have kb := F.kb n _ (of_decide_eq_true q8)
      obtain ⟨k1, k2, k3⟩ := kw_some (env := _) (pos := pos) q9
      cases args with
      | nil =>
        have hp : (den δ a).a = dNil := by cases a <;> first | rfl | (simp [chk] at q7; done)
        refine pe_imp (pe_callK0 (E := _) F.ok F.rm (c.gl q3) F.mg F.kp kb (passes_call c.tk fun _ _ _ _ h => h) (sb.k c kws q11) k1 k2 (okN_ok q4).1 (by rw [k3]; rfl)) fun σ H Q h => ?_
        have z := imp_callK σ H Q h
        rw [hp] at z
        obtain ⟨env, ω, F, M, Ec, Qc, j, ht, hx, k⟩ := z
        exact k _ _ _ _ _ _ ht j.hw (Ex.refl H F M) .nil
      | cons e es =>
        have q5' := q5
        simp only [allNS, Bool.and_eq_true] at q5'
        exact pe_imp (pe_callK (E := _) F.ok F.rm (c.gl q3) F.mg F.kp kb (passes_call c.tk fun _ _ _ _ h => h) (sa.a c _ q7) (sb.k c kws q11) k1 k2 (okN_ok q4).1 (star1 q5'.1) (by rw [starAll q5, k3]; rfl)) imp_callK
    · cases q
  | _ => cases q
theorem snd_rng1 {a : CE} (sa : Snd W δ g a) : Snd W δ g (.rng1 a) := by
  refine { e := ?e, b := ?b, w := ?w, a := ?a, i := ?i, o := ?o, y := ?y, k := ?k }
  case i =>
    intro sx C X c tg ex q
    simp only [chk] at q
    split at q
    · simp only [Bool.and_eq_true] at q
      obtain ⟨⟨⟨q1, q2⟩, q3⟩, q4⟩ := q
      have e := of_decide_eq_true q1
      subst e
      exact ⟨di_range1 (c.gl q2) (c.blt _ (by decide)) (da_cons (sa.e c _ q4) da_nil (star1 q3)) (by rw [star1 q3]; rfl), rfl⟩
    · cases q
  all_goals intros; simp_all [chk]
theorem snd_rng2 {a b : CE} (sa : Snd W δ g a) (sb : Snd W δ g b) : Snd W δ g (.rng2 a b) := by
  refine { e := ?e, b := ?b, w := ?w, a := ?a, i := ?i, o := ?o, y := ?y, k := ?k }
  case i =>
    intro sx C X c tg ex q
    simp only [chk] at q
    split at q
    · simp only [Bool.and_eq_true] at q
      obtain ⟨⟨⟨⟨⟨q1, q2⟩, q3⟩, q3'⟩, q4⟩, q5⟩ := q
      have e := of_decide_eq_true q1
      subst e
      exact ⟨di_range2 (c.gl q2) (c.blt _ (by decide)) (da_cons (sa.e c _ q4) (da_cons (sb.e c _ q5) da_nil (star1 q3')) (star1 q3)) (by rw [star1 q3, star1 q3']; rfl) (by rw [star1 q3']; rfl), rfl⟩
    · cases q
  all_goals intros; simp_all [chk]
theorem snd_zip {a b : CE} (sa : Snd W δ g a) (sb : Snd W δ g b) : Snd W δ g (.zip a b) := by
  refine { e := ?e, b := ?b, w := ?w, a := ?a, i := ?i, o := ?o, y := ?y, k := ?k }
  case i =>
    intro sx C X c tg ex q
    simp only [chk] at q
    split at q
    · simp only [Bool.and_eq_true] at q
      obtain ⟨⟨⟨⟨⟨q1, q2⟩, q3⟩, q3'⟩, q4⟩, q5⟩ := q
      have e := of_decide_eq_true q1
      subst e
      exact ⟨di_zip c.calm (c.gl q2) (c.blt _ (by decide)) (da_cons (sa.e c _ q4) (da_cons (sb.e c _ q5) da_nil (star1 q3')) (star1 q3)) (by rw [star1 q3, star1 q3']; rfl) (by rw [star1 q3']; rfl), rfl⟩
    · cases q
  all_goals intros; simp_all [chk]
theorem ownOf_slots (N : List Str) (p : Pat) : (ownOf N p).map (·.2) = p.slots := by
  unfold ownOf
  rw [List.map_map]
  exact List.map_id' _
theorem pts_yes {C : Cxx} {X : Cx} : PTs X [] (bOf W C (dYes (Ω := Ω))) := by
  obtain ⟨h⟩ := pts_nil (X := X)
  refine ⟨fun pins s σ H Q I hq => h pins s σ H Q I ?_⟩
  obtain ⟨env, ω, F, M, Ec, Qc, j, ht, hx, k⟩ := hq
  exact k _ _ _ _ _ ht j.hw (Ex.refl H F M)
theorem snd_comp {ow : Bool} {it : CE} {p : Pat} {t e : CE} (si : Snd W δ g it) (st : Snd W δ g t) (se : Snd W δ g e) : Snd W δ g (.comp ow it p t e) := snd_plain rfl rfl fun c ex q => by
  cases ex with
  | ListComp elt gs scope pos =>
    split at q
    · rename_i e; cases e
      simp only [Bool.and_eq_true] at q
      obtain ⟨⟨⟨⟨⟨q1, q2⟩, q3⟩, q4⟩, q5⟩, q6⟩ := q
      refine de_comp c.calm (by rw [c.hN]; exact c.nd) (si.i c _ _ q1).1 (by rw [c.hN, c.sc]; exact blkOk_by q4) (ownOf_slots _ p) (fun s H C0 cl fp => pat_pg (c.blk scope s H C0 cl fp) p _ q3) (fun s H C0 cl fp => ?_) (fun s H C0 cl fp => se.e (c.blk scope s H C0 cl fp) _ q6) (notSet_fold q2)
      split at q5
      · rw [st.y q5]; exact pts_yes
      · exact pts_one (st.b (c.blk scope s H C0 cl fp) _ q5)
      · cases q5
    · cases q
  | _ => cases q
theorem BB.memO : ∀ b : BB, b.outer ∈ bltNames := by intro b; cases b <;> decide
theorem BB.memI : ∀ b : BB, b.inner ∈ bltNames := by intro b; cases b <;> decide
theorem snd_bb {b : BB} {a : CE} (sa : Snd W δ g a) : Snd W δ g (.bb b a) := snd_plain rfl rfl fun c ex q => by
  split at q
  · simp only [Bool.and_eq_true] at q
    obtain ⟨⟨⟨⟨⟨q1, q2⟩, q3⟩, q4⟩, q5⟩, q6⟩ := q
    have e := of_decide_eq_true q1
    have e2 := of_decide_eq_true q3
    subst e e2
    exact de_bb c.calm (c.gl q2) (c.blt _ b.memO) (c.gl q4) (c.blt _ b.memI) (sa.e c _ q6) (star1 q5)
  · cases q
theorem snd_rev {a : CE} (sa : Snd W δ g a) : Snd W δ g (.rev a) := snd_plain rfl rfl fun c ex q => by
  split at q
  · simp only [Bool.and_eq_true] at q
    obtain ⟨q1, q2⟩ := q
    cases of_decide_eq_true q1
    exact de_rev (sa.e c _ q2)
  · cases q
theorem snd_dnew : Snd W δ g .dnew := snd_plain rfl rfl fun c ex q => by
  split at q
  · exact de_new
  · cases q
theorem snd_done {a : CE} (sa : Snd W δ g a) : Snd W δ g (.done a) := snd_plain rfl rfl fun c ex q => by
  split at q
  · exact de_one' c.hu (sa.e c _ q)
  · cases q
theorem snd_dof {a : CE} (sa : Snd W δ g a) : Snd W δ g (.dof a) := snd_plain rfl rfl fun c ex q => by
  split at q
  · simp only [Bool.and_eq_true] at q
    obtain ⟨⟨⟨q1, q2⟩, q3⟩, q4⟩ := q
    cases of_decide_eq_true q1
    exact de_dof c.calm c.hu (c.gl q2) (c.blt _ (by decide)) (sa.e c _ q4) (by rw [star1 q3]; rfl)
  · cases q
theorem snd_enum {a : CE} (sa : Snd W δ g a) : Snd W δ g (.enum a) := by
  refine { e := ?e, b := ?b, w := ?w, a := ?a, i := ?i, o := ?o, y := ?y, k := ?k }
  case i =>
    intro sx C X c tg ex q
    simp only [chk] at q
    split at q
    · simp only [Bool.and_eq_true] at q
      obtain ⟨⟨⟨q1, q2⟩, q3⟩, q4⟩ := q
      have e := of_decide_eq_true q1
      subst e
      exact ⟨di_enum (c.gl q2) (c.blt _ (by decide)) (sa.e c _ q4) (star1 q3), rfl⟩
    · cases q
  all_goals intros; simp_all [chk]
theorem snd_lam {e : CE} (sa : Snd W δ g e) : Snd W δ g (.lam e) := snd_plain rfl rfl fun {sx C X} c ex q => by
  split at q
  · next x p params body scope lpos pos =>
    simp only [Bool.and_eq_true] at q
    obtain ⟨⟨⟨⟨⟨k1, k2⟩, k3⟩, k4⟩, k5⟩, k6⟩ := q
    cases of_decide_eq_true k2
    cases noPar_ok k4
    obtain ⟨gf, ca, P, k, pg, bg, sg, dV, kV, doc, pm, cdv, ct, oc, an, od, osl, Ng, nmR, hm, hk, lk, hcg, hb, Sg, hNg, hva, hG, TB, hcode, hq, hr, hWt, hWe, hnm, fns⟩ := (c.lam k1).ex
    refine pe_imp (LamX.pe_lamcall (T := [(P, qLam)]) (TT := TTres nmR) (t := fun E => tOf W ⟨C.cx, E⟩ (den δ e).e) (c.gl k3) hm hk lk hcg hb Sg hNg hva (by rw [hq]; exact hG) TB hcode (by rw [hq]; exact List.mem_cons_self) (fun p hp _ => by rw [List.mem_singleton.mp hp, hq]) hr (LamX.lamS_by (by rw [c.sc]; exact k5)) rfl (fun _ _ _ _ _ => rfl) (fun A outer s H E f c' hr2 => sa.e (c.inLam fns scope A outer s H E f c' hr2) body k6)) (imp_lam hWt hWe hnm)
  · cases q
theorem sound : ∀ c : CE, Snd W δ g c
  | .var i => snd_var i
  | .con d => snd_con d
  | .glo k => snd_glo k
  | .tup a => snd_tup (sound a)
  | .lst _ a => snd_lst (sound a)
  | .bin _ a b => snd_bin (sound a) (sound b)
  | .un _ a => snd_un (sound a)
  | .chain _ _ a b c => snd_chain (sound a) (sound b) (sound c)
  | .isN _ a => snd_isN (sound a)
  | .and a b => snd_and (sound a) (sound b)
  | .or a b => snd_or (sound a) (sound b)
  | .not a => snd_not (sound a)
  | .ite t a b => snd_ite (sound t) (sound a) (sound b)
  | .sl a lo hi => snd_sl (sound a) (sound lo) (sound hi)
  | .no => snd_no
  | .blt _ a => snd_blt (sound a)
  | .isa _ a => snd_isa (sound a)
  | .call _ a => snd_call (sound a)
  | .callK _ _ a b => snd_callK (sound a) (sound b)
  | .comp _ it _ t e => snd_comp (sound it) (sound t) (sound e)
  | .yes => snd_yes
  | .nil => snd_nil
  | .cons a r => snd_cons (sound a) (sound r)
  | .rng1 a => snd_rng1 (sound a)
  | .rng2 a b => snd_rng2 (sound a) (sound b)
  | .zip a b => snd_zip (sound a) (sound b)
  | .lam e => snd_lam (sound e)
  | .bb _ a => snd_bb (sound a)
  | .rev a => snd_rev (sound a)
  | .dnew => snd_dnew
  | .done a => snd_done (sound a)
  | .dof a => snd_dof (sound a)
  | .enum a => snd_enum (sound a)
end
end Q
namespace Q
open PySem PySem.Spec PyProof.Rows L2

/-! ### statements of the core language -/
inductive Aug where | add | mul | xor
  deriving DecidableEq
inductive CS where
  | nil | cons (s r : CS) | frz (i : Nat) (r : CS)
  | drop (e : CE) | ret (e : CE) | ifS (t : CE) (a b : CS)
  | set (i : Nat) (e : CE) | par (i k : Nat) (a b : CE) | pat (p : Pat) (e : CE)
  | app (i : Nat) (e : CE) | ext (i : Nat) (e : CE) | aug (o : Aug) (i : Nat) (e : CE)
  | dput (i : Nat) (e : CE) | dupd (i : Nat) (e : CE) | par3 (i j k : Nat) (a b c : CE)
  | raise (c : Nat) | forS (it : CE) (p : Pat) (b : CS) | whileS (t : CE) (b : CS)
section
variable {Ω : Type}
def pAug : Aug → Int → Int → (Int → Prop) → Prop
  | .add, i, j, Q => Q (i + j)
  | .mul, i, j, Q => CMul i j ∧ Q (i * j)
  | .xor, i, j, Q => Q (Builtin.bitXor i j)
def sAug (o : Aug) (i : Nat) (t : TD Ω) : TDs Ω := fun E D env ω => match env[i]? with
  | some (.d (.int a)) => t E env ω fun d ω' => match d with
    | .d (.int b) => pAug o a b fun z => D.nx (env.set i (.d (.int z))) ω'
    | _ => False
  | _ => False
/-- a, b, c = e1, e2, e3 of plain local names, data -/
def sPar3 (i j k : Nat) (t : TDa Ω) : TDs Ω := fun E D env ω => t E env ω fun ds ω' => match ds with
  | [x, y, z] => noOwn [x, y, z] = true ∧ D.nx (((env.set i x.s).set j y.s).set k z.s) ω'
  | _ => False
def denS (δ : Den Ω) : CS → TDs Ω
  | .nil => sNext
  | .cons s r => sSeq (denS δ s) (denS δ r)
  | .frz i r => sFrz i (denS δ r)
  | .drop e => sDrop (den δ e).e
  | .ret e => sRet (den δ e).e
  | .ifS t a b => sIf (den δ t).b (denS δ a) (denS δ b)
  | .set i e => sSet i (den δ e).e
  | .par i k a b => sPar1 i k (dCons (den δ a).e (dCons (den δ b).e dNil))
  | .pat p e => sPat p (den δ e).e
  | .app i e => sApp i (den δ e).e
  | .ext i e => sExt i (den δ e).e
  | .aug o i e => sAug o i (den δ e).e
  | .dput i e => sPutD i (den δ e).e
  | .dupd i e => sUpdD i (den δ e).e
  | .par3 i j k a b c => sPar3 i j k (dCons (den δ a).e (dCons (den δ b).e (dCons (den δ c).e dNil)))
  | .raise c => sRaise c
  | .forS it p b => sFor (den δ it).i p (denS δ b)
  | .whileS t b => sWhile (den δ t).b (denS δ b)
end
/-! the check -/
def notComp : Expr → Bool
  | .ListComp _ _ _ _ => false
  | .SetComp _ _ _ _ => false
  | .DictComp _ _ _ _ _ => false
  | _ => true
def isLocal (sx : Sx) (x : Str) : Bool := match sx.sc.names.lookup x with
  | some .local => true
  | _ => false
/-- the comprehension stores by itself -/
def swapsB (sx : Sx) (x : Str) (px lp : Pos) (scope : Scope) : Bool := isLocal sx x && (px.line == lp.line) && !(scope.names.any fun (n, k) => n == x && (k == .local || k == .cell))
def plainNames (sx : Sx) (line : Nat) (ts : List Expr) : List Str := ts.filterMap fun
  | .Name id pos => if sx.sc.names.lookup id == some .local && pos.line == line then some id else none
  | _ => none
/-- no swapped stores -/
def noSwap (sx : Sx) (tg v : Expr) : Bool := match tg, v with
  | .Tuple ts _ _, .Tuple vs _ _ => (plainNames sx ((ts.head?.map (·.pos.line)).getD 0) ts).length != ts.length
  | .Tuple _ _ _, _ => true
  | _, _ => false
structure Cks where
  s : Sx → Stmt → Bool
  l : Sx → List Stmt → Bool
@[reducible] def ckS (f : Sx → Stmt → Bool) : Cks := ⟨f, fun _ _ => false⟩
@[reducible] def ckL (f : Sx → List Stmt → Bool) : Cks := ⟨fun _ _ => false, f⟩
@[reducible] def Aug.op : Aug → Operator
  | .add => .Add | .mul => .Mult | .xor => .BitXor
def chkS (g : Glob) : CS → Cks
  | .nil => ckL fun _ l => match l with | [] => true | _ :: _ => false
  | .cons s r => ckL fun sx l => match l with | st :: l => (chkS g s).s sx st && (chkS g r).l sx l | [] => false
  | .frz _ r => ckL fun sx l => (chkS g r).l sx l
  | .drop e => ckS fun sx st => match st with
    | .Expr v _ => notComp v && (chk g e).e sx v
    | _ => false
  | .ret e => ckS fun sx st => match st with
    | .Return (some v) _ => (chk g e).e sx v
    | _ => false
  | .ifS t a b => ckS fun sx st => match st with
    | .If c x y _ => (chk g t).b sx c && (chkS g a).l sx x && (chkS g b).l sx y
    | _ => false
  | .set i e => ckS fun sx st => match st with
    | .Assign [.Name x px] v _ => atB sx.N i x && locB sx x && (chk g e).e sx v && (match v with
      | .ListComp _ _ scope lp => swapsB sx x px lp scope || !isLocal sx x
      | v => notComp v)
    | _ => false
  | .par i k a b => ckS fun sx st => match st with
    | .Assign [.Tuple [.Name x px, .Name y py] _ _] (.Tuple [u, v] _ _) _ => atB sx.N i x && atB sx.N k y && decide (i ≠ k) && isLocal sx x && isLocal sx y && (py.line == px.line) && decide (x ≠ y) && notStar u && notStar v && !([u, v].all (foldedForSure 8)) && !([u, v].all (constantsAlone 8)) && (chk g a).e sx u && (chk g b).e sx v
    | _ => false
  | .pat p e => ckS fun sx st => match st with
    | .Assign [tg] v _ => patB sx p tg && (chk g e).e sx v && notComp v && noSwap sx tg v
    | _ => false
  | .app i e => ckS fun sx st => match st with
    | .Expr (.Call (.Attribute (.Name x _) at' p2) [a] [] p3) _ => decide (at' = ("append" : Str)) && atB sx.N i x && visB sx x && okN x && notStar a && (p2.endLine == p3.line) && (chk g e).e sx a
    | _ => false
  | .ext i e => ckS fun sx st => match st with
    | .Expr (.Call (.Attribute (.Name x _) at' p2) [a] [] p3) _ => decide (at' = ("extend" : Str)) && atB sx.N i x && visB sx x && okN x && notStar a && (p2.endLine == p3.line) && (chk g e).e sx a
    | _ => false
  | .dput i e => ckS fun sx st => match st with
    | .Assign [.Subscript (.Name x _) a _] (.Constant (.bool true) _ _) _ => atB sx.N i x && visB sx x && okN x && (chk g e).e sx a
    | _ => false
  | .dupd i e => ckS fun sx st => match st with
    | .Expr (.Call (.Attribute (.Name x _) at' p2) [a] [] p3) _ => decide (at' = ("update" : Str)) && atB sx.N i x && visB sx x && okN x && notStar a && (p2.endLine == p3.line) && (chk g e).e sx a
    | _ => false
  | .par3 i j k a b c => ckS fun sx st => match st with
    | .Assign [.Tuple [.Name x px, .Name y py, .Name z pz] _ _] (.Tuple [u, v, w] _ _) _ => atB sx.N i x && atB sx.N j y && atB sx.N k z && decide (i ≠ j) && decide (i ≠ k) && decide (j ≠ k) && isLocal sx x && isLocal sx y && isLocal sx z && (py.line == px.line) && (pz.line == px.line) && decide (x ≠ y) && decide (x ≠ z) && decide (y ≠ z) && notStar u && notStar v && notStar w && !([u, v, w].all (foldedForSure 8)) && !([u, v, w].all (constantsAlone 8)) && (chk g a).e sx u && (chk g b).e sx v && (chk g c).e sx w
    | _ => false
  | .aug o i e => ckS fun sx st => match st with
    | .AugAssign (.Name x _) op v _ => decide (op = o.op) && atB sx.N i x && locB sx x && (chk g e).e sx v
    | _ => false
  | .raise c => ckS fun sx st => match st with
    | .Raise (some (.Call (.Name x _) [.Constant (.str _) _ _] [] _)) none _ => oB g.exs c x && glB sx x && okN x
    | _ => false
  | .forS it p b => ckS fun sx st => match st with
    | .For tg iter body [] _ => (chk g it).i sx tg iter && patB sx p tg && (chkS g b).l sx body
    | _ => false
  | .whileS t b => ckS fun sx st => match st with
    | .While c body [] _ => (chk g t).b sx c && (chkS g b).l sx body
    | _ => false
/-! the context of a def's body -/
structure ExcOk (K : PySem.W.Frag) (mg : Str → Option Value) (x : Str) (C : Addr) : Prop where
  g : mg x = some (.ref C)
  q : PySem.W.excIn K C [.type "ValueError", .type "Exception", .type "BaseException", .type "object"] "ValueError.__new__" = true
  k : PySem.W.keepIn K (.ref C) = true
  b : PySem.W.subIn K (.ref C) (.type "BaseException") = some true
  t : PySem.W.typeIn K (.ref C) = some (.type "type")
structure CtxS {Ω : Type} (W : Ω → Hp → Prop) (δ : Den Ω) (g : Glob) (sx : Sx) (C : Cxx) (X : Cx) : Prop extends Ctx W δ g sx C X where
  kd : sx.sc.kind = .function
  po : PassesOwn (model X.prog X.w) X.A X.env X.xe
  exs : ∀ (c : Nat) x, g.exs c = some x → ∃ Ca, C.cx c = .ref Ca ∧ ExcOk X.K X.mg x Ca
section
variable {Ω : Type} {W : Ω → Hp → Prop} {δ : Den Ω} {g : Glob} {sx : Sx} {C : Cxx} {X : Cx}
theorem sw_no {v : Expr} {t : Option Expr} {l : Nat} {env : Env} (h : notComp v = true) : swapsWith v t l env = pure false := by
  cases v <;> first | rfl | (simp [notComp] at h)
theorem isLocal_ok {x : Str} (h : isLocal sx x = true) : sx.sc.names.lookup x = some .local := by
  unfold isLocal at h
  split at h
  · assumption
  · cases h
theorem not_isLocal {x : Str} (h : isLocal sx x = false) : sx.sc.names.lookup x ≠ some .local := fun e => by
  unfold isLocal at h
  rw [e] at h
  cases h
theorem sw_cell {elt : Expr} {gs : List Comprehension} {scope : Scope} {pos py : Pos} {y : Str} {l : Nat} {env : Env} (hy : env.scope.names.lookup y ≠ some .local) : swapsWith (.ListComp elt gs scope pos) (some (.Name y py)) l env = pure false := by
  have e : (env.kindOf y == some .local) = false := by
    show (env.scope.names.lookup y == some .local) = false
    exact beq_eq_false_iff_ne.mpr hy
  unfold swapsWith
  simp only [e, Bool.and_false, Bool.false_and]
theorem block_fn {env : Env} (hk : env.scope.kind = .function) : env.blockKind = .function := by unfold Env.blockKind; rw [hk]; rfl
theorem sw_par {x y : Str} {px py pt : Pos} {kt : Nat} {a b : Expr} {k2 : Nat} {pt2 : Pos} {env : Env} (hk : env.scope.kind = .function) (hx : env.scope.names.lookup x = some .local) (hy : env.scope.names.lookup y = some .local) (hl : (py.line == px.line) = true) (hn : x ≠ y) (ha : notStar a = true) (hb : notStar b = true)
    (hf : [a, b].all (foldedForSure 8) = false) (hc : [a, b].all (constantsAlone 8) = false) : swappedStores [.Tuple [.Name x px, .Name y py] kt pt] (.Tuple [a, b] k2 pt2) env = pure (some [x, y]) := by
  have k1 : env.kindOf x = some .local := hx
  have k2 : env.kindOf y = some .local := hy
  have hed : [x, y].eraseDups = [x, y] := by
    have : (y == x) = false := beq_eq_false_iff_ne.mpr (Ne.symm hn)
    simp [List.eraseDups, List.eraseDupsBy, List.eraseDupsBy.loop, this]
  unfold swappedStores
  simp only [block_fn hk, k1, k2, hf, hc, Expr.pos, List.length_cons, List.length_nil, List.head?_cons, Option.map_some, Option.getD_some, List.filterMap_cons, List.filterMap_nil, hl, beq_self_eq_true, Bool.and_self, if_true, hed]
  rw [if_neg (by decide)]
  rw [if_neg fun z => ?_]
  · rfl
  · obtain ⟨e, he, hz⟩ := List.any_eq_true.mp z
    have hs : notStar e = true := by
      rcases List.mem_cons.mp he with q | q
      · rw [q]; exact ha
      · rw [List.mem_singleton.mp q]; exact hb
    cases e <;> first | (cases hz; done) | (simp [notStar] at hs)
theorem sw_par3 {x y z : Str} {px py pz pt : Pos} {kt : Nat} {a b c : Expr} {k2 : Nat} {pt2 : Pos} {env : Env} (hk : env.scope.kind = .function) (hx : env.scope.names.lookup x = some .local) (hy : env.scope.names.lookup y = some .local) (hz : env.scope.names.lookup z = some .local) (hl : (py.line == px.line) = true) (hl2 : (pz.line == px.line) = true) (hn : x ≠ y) (hn2 : x ≠ z) (hn3 : y ≠ z) (ha : notStar a = true) (hb : notStar b = true) (hc0 : notStar c = true)
    (hf : [a, b, c].all (foldedForSure 8) = false) (hc : [a, b, c].all (constantsAlone 8) = false) : swappedStores [.Tuple [.Name x px, .Name y py, .Name z pz] kt pt] (.Tuple [a, b, c] k2 pt2) env = pure (some [x, y, z]) := by
  have k1 : env.kindOf x = some .local := hx
  have k2 : env.kindOf y = some .local := hy
  have k3 : env.kindOf z = some .local := hz
  have hed : [x, y, z].eraseDups = [x, y, z] := by
    have h1 : (y == x) = false := beq_eq_false_iff_ne.mpr (Ne.symm hn)
    have h2 : (z == x) = false := beq_eq_false_iff_ne.mpr (Ne.symm hn2)
    have h3 : (z == y) = false := beq_eq_false_iff_ne.mpr (Ne.symm hn3)
    simp [List.eraseDups, List.eraseDupsBy, List.eraseDupsBy.loop, h1, h2, h3]
  unfold swappedStores
  simp only [block_fn hk, k1, k2, k3, hf, hc, Expr.pos, List.length_cons, List.length_nil, List.head?_cons, Option.map_some, Option.getD_some, List.filterMap_cons, List.filterMap_nil, hl, hl2, beq_self_eq_true, Bool.and_self, if_true, hed]
  rw [if_neg (by decide)]
  rw [if_neg fun z => ?_]
  · rfl
  · obtain ⟨e, he, hz⟩ := List.any_eq_true.mp z
    have hs : notStar e = true := by
      rcases List.mem_cons.mp he with q | q
      · rw [q]; exact ha
      · rcases List.mem_cons.mp q with q | q
        · rw [q]; exact hb
        · rw [List.mem_singleton.mp q]; exact hc0
    cases e <;> first | (cases hz; done) | (simp [notStar] at hs)
theorem sw_none {ts vs : List Expr} {k1 k2 : Nat} {p1 p2 : Pos} {env : Env} (h : ((ts.filterMap fun | .Name id pos => if env.kindOf id == some .local && pos.line == (ts.head?.map (·.pos.line)).getD 0 then some id else none | _ => none).length != ts.length) = true) : swappedStores [.Tuple ts k1 p1] (.Tuple vs k2 p2) env = pure none := by
  unfold swappedStores
  dsimp only
  split
  · rfl
  · split
    · rfl
    · exact if_pos (Bool.or_eq_true_iff.mpr (.inl h))
theorem noSwap_ok (c : Ctx W δ g sx C X) {tg v : Expr} (h : noSwap sx tg v = true) : swappedStores [tg] v X.env = pure none ∧ (assignEach [tg] X.env).map (·.2) = [assign tg X.env] := by
  cases tg with
  | Tuple ts k p =>
    refine ⟨?_, rfl⟩
    cases v with
    | Tuple vs k2 p2 =>
      simp only [noSwap, plainNames] at h
      refine sw_none ?_
      have e : ∀ id, X.env.kindOf id = sx.sc.names.lookup id := fun id => by show X.env.scope.names.lookup id = _; rw [c.sc]
      simp only [e]
      exact h
    | _ => rfl
  | _ => simp [noSwap] at h
end
end Q
namespace Q
open PySem PySem.Spec PyProof.Rows L2
section
variable {Ω : Type} {W : Ω → Hp → Prop} {δ : Den Ω} {g : Glob}
structure SndS (W : Ω → Hp → Prop) (δ : Den Ω) (g : Glob) (c : CS) : Prop where
  s : ∀ {sx C X}, CtxS W δ g sx C X → ∀ st, (chkS g c).s sx st = true → PS X st (sOf W C (denS δ c))
  l : ∀ {sx C X}, CtxS W δ g sx C X → ∀ l, (chkS g c).l sx l = true → PSs X l (sOf W C (denS δ c))
theorem ss_nil' : SndS W δ g .nil := ⟨fun _ _ q => notF q, fun c l q => by
  cases l with
  | nil => exact ss_nil
  | cons _ _ => cases q⟩
theorem ss_cons' {s r : CS} (hs : SndS W δ g s) (hr : SndS W δ g r) : SndS W δ g (.cons s r) := ⟨fun _ _ q => notF q, fun c l q => by
  cases l with
  | nil => cases q
  | cons st l =>
    simp only [chkS, Bool.and_eq_true] at q
    exact ss_cons (hs.s c st q.1) (hr.l c l q.2)⟩
theorem ss_frz' {i : Nat} {r : CS} (hr : SndS W δ g r) : SndS W δ g (.frz i r) := ⟨fun _ _ q => notF q, fun c l q => pss_imp (hr.l c l q) imp_frz⟩
theorem ss_drop' {e : CE} : SndS W δ g (.drop e) := ⟨fun c st q => by
  cases st with
  | Expr v pos =>
    simp only [chkS, Bool.and_eq_true] at q
    exact ss_drop ((sound e).e c.toCtx v q.2) (sw_no q.1)
  | _ => (cases q), fun _ _ q => notF q⟩
theorem ss_ret' {e : CE} : SndS W δ g (.ret e) := ⟨fun c st q => by
  cases st with
  | Return v pos =>
    cases v with
    | none => cases q
    | some v => exact ss_ret ((sound e).e c.toCtx v q)
  | _ => (cases q), fun _ _ q => notF q⟩
theorem ss_if' {t : CE} {a b : CS} (ha : SndS W δ g a) (hb : SndS W δ g b) : SndS W δ g (.ifS t a b) := ⟨fun c st q => by
  cases st with
  | If x y z pos =>
    simp only [chkS, Bool.and_eq_true] at q
    exact ss_if ((sound t).b c.toCtx x q.1.1) (ha.l c y q.1.2) (hb.l c z q.2)
  | _ => (cases q), fun _ _ q => notF q⟩
theorem ss_set' {i : Nat} {e : CE} : SndS W δ g (.set i e) := ⟨fun {sx C X} c st q => by
  cases st with
  | Assign ts v pos =>
    simp only [chkS] at q
    split at q
    · rename_i e0; cases e0
      rename_i x px
      simp only [Bool.and_eq_true] at q
      obtain ⟨⟨⟨q1, q2⟩, q3⟩, q4⟩ := q
      obtain ⟨l1, l2⟩ := locB_ok q2
      have hN : X.N.Nodup := by rw [c.hN]; exact c.nd
      have hi : X.N[i]? = some x := by rw [c.hN]; exact atB_ok q1
      have hx : Loc X.env.scope x := by rw [c.sc]; exact l1
      have hf : X.fn x = true ∨ X.env.scope.names.lookup x = some .local := by rw [c.fn, c.sc]; exact l2
      split at q4
      · rename_i elt gs scope lp
        by_cases hsw : swapsB sx x px lp scope = true
        · cases e with
          | comp ow it p t el =>
            simp only [chk] at q3
            split at q3
            · rename_i e0; cases e0
              simp only [Bool.and_eq_true] at q3
              obtain ⟨⟨⟨⟨⟨k1, k2⟩, k3⟩, k4⟩, k5⟩, k6⟩ := q3
              unfold swapsB at hsw
              simp only [Bool.and_eq_true, Bool.not_eq_true'] at hsw
              have hyl : X.env.scope.names.lookup x = some .local := by rw [c.sc]; exact isLocal_ok hsw.1.1
              refine ss_setLc (own := ownOf sx.N p) c.calm hN hi hyl (sw_true (by rw [c.sc]; exact c.kd) hyl hsw.1.2 hsw.2) ((sound it).i c.toCtx _ _ k1).1 (by rw [c.hN, c.sc]; exact blkOk_by k4) (ownOf_slots _ p) (fun s H C0 cl fp => pat_pg (c.blk scope s H C0 cl fp) p _ k3) (fun s H C0 cl fp => ?_) (fun s H C0 cl fp => (sound el).e (c.blk scope s H C0 cl fp) _ k6) (notSet_fold k2)
              split at k5
              · rw [(sound (W := W) (δ := δ) t).y k5]; exact pts_yes
              · exact pts_one ((sound t).b (c.blk scope s H C0 cl fp) _ k5)
              · cases k5
            · cases q3
          | _ => first | (simp [chk] at q3; done) | (simp only [chk] at q3; split at q3 <;> first | (cases q3; done) | (rename_i e0; cases e0; done))
        · have hnl : isLocal sx x = false := by
            rw [Bool.or_eq_true] at q4
            rcases q4 with z | z
            · exact absurd z hsw
            · simpa using z
          exact ss_set hN hi hx ((sound e).e c.toCtx _ q3) (sw_cell (by rw [c.sc]; exact not_isLocal hnl)) hf
      · exact ss_set hN hi hx ((sound e).e c.toCtx _ q3) (sw_no q4) hf
    · cases q
  | _ => (cases q), fun _ _ q => notF q⟩
theorem ss_par' {i k : Nat} {a b : CE} : SndS W δ g (.par i k a b) := ⟨fun {sx C X} c st q => by
  cases st with
  | Assign ts v pos =>
    simp only [chkS] at q
    split at q
    · rename_i e0; cases e0
      simp only [Bool.and_eq_true, Bool.not_eq_true'] at q
      obtain ⟨⟨⟨⟨⟨⟨⟨⟨⟨⟨⟨⟨q1, q2⟩, q3⟩, q4⟩, q5⟩, q6⟩, q7⟩, q8⟩, q9⟩, q10⟩, q11⟩, q12⟩, q13⟩ := q
      have hx := isLocal_ok q4
      have hy := isLocal_ok q5
      rw [← c.sc] at hx hy
      refine ss_par c.calm (by rw [c.hN]; exact c.nd) (by rw [c.hN]; exact atB_ok q1) (by rw [c.hN]; exact atB_ok q2) (of_decide_eq_true q3) hx hy (da_cons ((sound a).e c.toCtx _ q12) (da_cons ((sound b).e c.toCtx _ q13) da_nil (star1 q9)) (star1 q8)) (sw_par (by rw [c.sc]; exact c.kd) hx hy q6 (of_decide_eq_true q7) q8 q9 q10 q11) rfl
    · cases q
  | _ => (cases q), fun _ _ q => notF q⟩
theorem ss_pat' {p : Pat} {e : CE} : SndS W δ g (.pat p e) := ⟨fun {sx C X} c st q => by
  cases st with
  | Assign ts v pos =>
    simp only [chkS] at q
    split at q
    · rename_i e0; cases e0
      simp only [Bool.and_eq_true] at q
      obtain ⟨⟨⟨q1, q2⟩, q3⟩, q4⟩ := q
      obtain ⟨z1, z2⟩ := noSwap_ok c.toCtx q4
      exact ss_pat ((sound e).e c.toCtx _ q2) (pat_pg c.toCtx p _ q1) (sw_no q3) z1 z2
    · cases q
  | _ => (cases q), fun _ _ q => notF q⟩
theorem ss_app' {i : Nat} {e : CE} : SndS W δ g (.app i e) := ⟨fun {sx C X} c st q => by
  cases st with
  | Expr v pos =>
    simp only [chkS] at q
    split at q
    · rename_i e0; cases e0
      simp only [Bool.and_eq_true] at q
      obtain ⟨⟨⟨⟨⟨⟨q1, q2⟩, q3⟩, q4⟩, q5⟩, q6⟩, q7⟩ := q
      cases of_decide_eq_true q1
      exact ss_app (by rw [c.hN]; exact atB_ok q2) (by rw [c.sc]; exact visB_ok q3) (okN_ok q4).1 (okN_ok q4).2 ((sound e).e c.toCtx _ q7) (by rw [star1 q5]; rfl) q6
    · cases q
  | _ => (cases q), fun _ _ q => notF q⟩
theorem ss_ext' {i : Nat} {e : CE} : SndS W δ g (.ext i e) := ⟨fun {sx C X} c st q => by
  cases st with
  | Expr v pos =>
    simp only [chkS] at q
    split at q
    · rename_i e0; cases e0
      simp only [Bool.and_eq_true] at q
      obtain ⟨⟨⟨⟨⟨⟨q1, q2⟩, q3⟩, q4⟩, q5⟩, q6⟩, q7⟩ := q
      cases of_decide_eq_true q1
      exact ss_ext (by rw [c.hN]; exact atB_ok q2) (by rw [c.sc]; exact visB_ok q3) (okN_ok q4).1 (okN_ok q4).2 ((sound e).e c.toCtx _ q7) (by rw [star1 q5]; rfl) q6
    · cases q
  | _ => (cases q), fun _ _ q => notF q⟩
theorem ss_dput' {i : Nat} {e : CE} : SndS W δ g (.dput i e) := ⟨fun {sx C X} c st q => by
  cases st with
  | Assign ts v pos =>
    simp only [chkS] at q
    split at q
    · rename_i e0; cases e0
      simp only [Bool.and_eq_true] at q
      obtain ⟨⟨⟨q1, q2⟩, q3⟩, q4⟩ := q
      exact ss_put c.hu (by rw [c.hN]; exact atB_ok q1) (by rw [c.sc]; exact visB_ok q2) (okN_ok q3).1 (okN_ok q3).2 ((sound e).e c.toCtx _ q4)
    · cases q
  | _ => (cases q), fun _ _ q => notF q⟩
theorem ss_dupd' {i : Nat} {e : CE} : SndS W δ g (.dupd i e) := ⟨fun {sx C X} c st q => by
  cases st with
  | Expr v pos =>
    simp only [chkS] at q
    split at q
    · rename_i e0; cases e0
      simp only [Bool.and_eq_true] at q
      obtain ⟨⟨⟨⟨⟨⟨q1, q2⟩, q3⟩, q4⟩, q5⟩, q6⟩, q7⟩ := q
      cases of_decide_eq_true q1
      exact ss_upd c.hu (by rw [c.hN]; exact atB_ok q2) (by rw [c.sc]; exact visB_ok q3) (okN_ok q4).1 (okN_ok q4).2 ((sound e).e c.toCtx _ q7) (by rw [star1 q5]; rfl) q6
    · cases q
  | _ => (cases q), fun _ _ q => notF q⟩
theorem noOwn3 {x y z : D} (h : noOwn [x, y, z] = true) : noOwn [x] = true ∧ noOwn [y] = true ∧ noOwn [z] = true := by
  cases x <;> cases y <;> cases z <;> first | exact ⟨rfl, rfl, rfl⟩ | (simp [noOwn] at h)
theorem ss_par3' {i j k : Nat} {a b d : CE} : SndS W δ g (.par3 i j k a b d) := ⟨fun {sx C X} c st q => by
  cases st with
  | Assign ts v pos =>
    simp only [chkS] at q
    split at q
    · rename_i e0; cases e0
      simp only [Bool.and_eq_true, Bool.not_eq_true'] at q
      obtain ⟨⟨⟨⟨⟨⟨⟨⟨⟨⟨⟨⟨⟨⟨⟨⟨⟨⟨⟨⟨⟨q1, q2⟩, q3⟩, q4⟩, q5⟩, q6⟩, q7⟩, q8⟩, q9⟩, q10⟩, q11⟩, q12⟩, q13⟩, q14⟩, q15⟩, q16⟩, q17⟩, q18⟩, q19⟩, q20⟩, q21⟩, q22⟩ := q
      have hx := isLocal_ok q7
      have hy := isLocal_ok q8
      have hz := isLocal_ok q9
      rw [← c.sc] at hx hy hz
      refine ps_imp (ps_par3 (i := i) (j := j) (l := k) c.calm (by rw [c.hN]; exact c.nd) (by rw [c.hN]; exact atB_ok q1) (by rw [c.hN]; exact atB_ok q2) (by rw [c.hN]; exact atB_ok q3) (of_decide_eq_true q4) (of_decide_eq_true q5) (of_decide_eq_true q6) hx hy hz (da_cons ((sound a).e c.toCtx _ q20) (da_cons ((sound b).e c.toCtx _ q21) (da_cons ((sound d).e c.toCtx _ q22) da_nil (star1 q17)) (star1 q16)) (star1 q15)) (sw_par3 (by rw [c.sc]; exact c.kd) hx hy hz q10 q11 (of_decide_eq_true q12) (of_decide_eq_true q13) (of_decide_eq_true q14) q15 q16 q17 q18 q19) rfl) fun D σ H h => ?_
      obtain ⟨en, env, ω, F, M, Ec, Dc, i0, ht, hx, kn, kb, kc, kr⟩ := h
      have ht' : sPar3 i j k (dCons (den δ a).e (dCons (den δ b).e (dCons (den δ d).e dNil))) Ec Dc env ω := ht
      unfold sPar3 at ht'
      refine ⟨env, ω, F, M, Ec, _, i0.j, ht', hx.step i0.ex, fun ds ω1 vs H1 F1 M1 q1 hw1 ex1 r1 => ?_⟩
      split at q1
      · rename_i x y z
        cases r1 with
        | cons r t =>
          cases t with
          | cons r' t' =>
            cases t' with
            | cons r'' t'' =>
              cases t''
              obtain ⟨no, q⟩ := q1
              obtain ⟨n1, n2, n3⟩ := noOwn3 no
              refine ⟨_, _, _, rfl, kn _ _ F1 M1 _ _ q ?_⟩
              have i1 := (i0.step hw1 ex1).setS (k := i) r fun h => by rw [n1] at h; cases h
              have i2 := i1.setS (k := j) r' fun h => by rw [n2] at h; cases h
              exact i2.setS (k := k) r'' fun h => by rw [n3] at h; cases h
      · exact q1.elim
    · cases q
  | _ => (cases q), fun _ _ q => notF q⟩
theorem ip_ok (o : Aug) (X : Cx) : ∃ r, PIp X o.op r ∧ ∀ i j H (Q : VK), (pAug o i j fun z => Q (.int z) H) → r (.int i) (.int j) H Q := by
  cases o with
  | add => exact ⟨_, iop_add, fun i j H Q h => ⟨i, j, rfl, rfl, h⟩⟩
  | mul => exact ⟨_, iop_mul, fun i j H Q h => ⟨i, j, rfl, rfl, h.1, h.2⟩⟩
  | xor => exact ⟨_, iop_xor, fun i j H Q h => ⟨i, j, rfl, rfl, h⟩⟩
theorem pAug_mono {o : Aug} {i j : Int} {P Q : Int → Prop} (h : pAug o i j P) (k : ∀ z, P z → Q z) : pAug o i j Q := by
  cases o with
  | add => exact k _ h
  | mul => exact ⟨h.1, k _ h.2⟩
  | xor => exact k _ h
theorem ss_aug' {o : Aug} {i : Nat} {e : CE} : SndS W δ g (.aug o i e) := ⟨fun {sx C X} c st q => by
  cases st with
  | AugAssign tg op v pos =>
    simp only [chkS] at q
    split at q
    · rename_i e0; cases e0
      simp only [Bool.and_eq_true] at q
      obtain ⟨⟨⟨q1, q2⟩, q3⟩, q4⟩ := q
      cases of_decide_eq_true q1
      obtain ⟨l1, l2⟩ := locB_ok q3
      obtain ⟨r, hr, hl⟩ := ip_ok o X
      refine ps_imp (ps_aug (by rw [c.hN]; exact c.nd) (by rw [c.hN]; exact atB_ok q2) (by rw [c.sc]; exact l1) ((sound e).e c.toCtx _ q4) hr (by rw [c.fn, c.sc]; exact l2)) fun D σ H h => ?_
      obtain ⟨en, env, ω, F, M, Ec, Dc, i0, ht, hx, kn, kb, kc, kr⟩ := h
      simp only [denS, sAug] at ht
      split at ht
      · rename_i a ea
        obtain ⟨ov, e1, v1, rfl, rp⟩ := i0.j.sl i _ ea
        cases rp_int rp
        refine ⟨_, e1, env, ω, F, M, Ec, _, i0.j, ht, hx.step i0.ex, fun d ω1 v H1 F1 M1 q1 hw1 ex1 r1 => ?_⟩
        split at q1
        · cases rp_int r1
          refine hl _ _ _ _ (pAug_mono q1 fun z hz => ?_)
          exact kn _ _ F1 M1 _ _ hz ((i0.step hw1 ex1).setS (H0 := H) (d := .d (.int z)) (.int z) fun h => by cases h)
        · exact q1.elim
      · exact ht.elim
    · cases q
  | _ => (cases q), fun _ _ q => notF q⟩
theorem ss_raise' {n : Nat} : SndS W δ g (.raise n) := ⟨fun {sx C X} c st q => by
  cases st with
  | Raise ex ca pos =>
    simp only [chkS] at q
    split at q
    · rename_i e0; cases e0
      simp only [Bool.and_eq_true] at q
      obtain ⟨⟨q1, q2⟩, q3⟩ := q
      obtain ⟨Ca, e1, eo⟩ := c.exs n _ (oB_ok q1)
      refine ps_imp (ps_raise c.calm c.tk (pmk_own PySem.F.excBase_ValueError eo.q eo.g eo.k (raises_own eo.b eo.t) (c.gl q2) (okN_ok q3).1)) fun D σ H h => ?_
      obtain ⟨en, env, ω, F, M, Ec, Dc, i0, ht, hx, kn, kb, kc, kr⟩ := h
      have z := hx n ω H F M ht i0.j.hw i0.ex
      rw [e1] at z
      exact z
    · cases q
  | _ => (cases q), fun _ _ q => notF q⟩
theorem ss_for' {it : CE} {p : Pat} {b : CS} (hb : SndS W δ g b) : SndS W δ g (.forS it p b) := ⟨fun {sx C X} c st q => by
  cases st with
  | For tg iter body orelse pos =>
    cases orelse with
    | nil =>
      simp only [chkS, Bool.and_eq_true] at q
      obtain ⟨z1, z2⟩ := (sound it).i c.toCtx _ _ q.1.1
      exact ss_for c.po c.calm z1 (pat_pg c.toCtx p _ q.1.2) (hb.l c body q.2) (notSet_fold z2)
    | cons _ _ => cases q
  | _ => (cases q), fun _ _ q => notF q⟩
theorem ss_while' {t : CE} {b : CS} (hb : SndS W δ g b) : SndS W δ g (.whileS t b) := ⟨fun {sx C X} c st q => by
  cases st with
  | While x body orelse pos =>
    cases orelse with
    | nil =>
      simp only [chkS, Bool.and_eq_true] at q
      exact ss_while c.po ((sound t).b c.toCtx x q.1) (hb.l c body q.2)
    | cons _ _ => cases q
  | _ => (cases q), fun _ _ q => notF q⟩
theorem soundS : ∀ c : CS, SndS W δ g c
  | .nil => ss_nil'
  | .cons s r => ss_cons' (soundS s) (soundS r)
  | .frz _ r => ss_frz' (soundS r)
  | .drop _ => ss_drop'
  | .ret _ => ss_ret'
  | .ifS _ a b => ss_if' (soundS a) (soundS b)
  | .set _ _ => ss_set'
  | .par _ _ _ _ => ss_par'
  | .pat _ _ => ss_pat'
  | .app _ _ => ss_app'
  | .ext _ _ => ss_ext'
  | .aug _ _ _ => ss_aug'
  | .dput _ _ => ss_dput'
  | .dupd _ _ => ss_dupd'
  | .par3 _ _ _ _ _ _ => ss_par3'
  | .raise _ => ss_raise'
  | .forS _ _ b => ss_for' (soundS b)
  | .whileS _ b => ss_while' (soundS b)
end
end Q
namespace Q
open PySem PySem.Spec PyProof.Rows L2
/-! ### defs -/
def startE (N : List Str) (ds : List D) : List S := ds.map D.s ++ List.replicate (N.length - ds.length) .no
/-- what the text says of its names, apart from its defs -/
structure Txt {Ω : Type} (δ : Den Ω) (g : Glob) (cx : Nat → Value) (K : PySem.W.Frag) (mg : Str → Option Value) : Prop where
  blt : ∀ x, x ∈ bltNames → mg x = none
  con : ∀ (k : Nat) x, g.cns k = some x → ∃ i t, mg x = some (.int i t) ∧ δ.cns[k]? = some i
  exs : ∀ (c : Nat) x, g.exs c = some x → ∃ Ca, cx c = .ref Ca ∧ ExcOk K mg x Ca
structure FnJ {Ω : Type} (W : Ω → Hp → Prop) (cx : Nat → Value) (g : Glob) (P : Program) (w : World) (K : PySem.W.Frag) (mg : Str → Option Value) (base : Heap) (lv k : Nat) (x : Str) (m : Nat) (sp : FSpec Ω) (f : Addr) (fd : FuncData) (ps : List Str) : Prop where
  len : ps.length = m
  at_ : mg x = some (.ref f)
  kp : PySem.W.keepIn K (.ref f) = true
  bd : L2.Binds K fd ps []
  kb : ∀ n ks, (k, n, ks) ∈ g.kws → KBinds K fd ps ks (gN n) (gN n)
  ok : FnOk P w K mg base (L2.CX P w) lv f fd ps (spOf W cx ps.length sp)
/-- the first n defs keep their promises -/
def Prev {Ω : Type} (W : Ω → Hp → Prop) (δ : Den Ω) (g : Glob) (cx : Nat → Value) (P : Program) (w : World) (K : PySem.W.Frag) (mg : Str → Option Value) (base : Heap) (n : Nat) : Prop :=
  ∀ (k : Nat) x, k < n → g.fns k = some x → ∃ m sp f fd ps, δ.fns k = some (m, sp) ∧ FnJ W cx g P w K mg base n k x m sp f fd ps
section
variable {Ω : Type} {W : Ω → Hp → Prop} {δ : Den Ω} {g : Glob} {cx : Nat → Value} {P : Program} {w : World} {K : PySem.W.Frag} {mg : Str → Option Value} {base : Heap}
theorem Prev.zero : Prev W δ g cx P w K mg base 0 := fun k x h => absurd h (Nat.not_lt_zero k)
theorem Prev.snoc {n : Nat} (h : Prev W δ g cx P w K mg base n) {x : Str} {m : Nat} {sp : FSpec Ω} {f : Addr} {fd : FuncData} {ps : List Str} (e : g.fns n = some x) (e2 : δ.fns n = some (m, sp)) (F : FnJ W cx g P w K mg base (n + 1) n x m sp f fd ps) : Prev W δ g cx P w K mg base (n + 1) := fun k y hk ey => by
  by_cases z : k = n
  · subst z
    rw [e] at ey; cases ey
    exact ⟨m, sp, f, fd, ps, e2, F⟩
  · obtain ⟨m, sp, f, fd, ps, a, b⟩ := h k y (by omega) ey
    exact ⟨m, sp, f, fd, ps, a, ⟨b.len, b.at_, b.kp, b.bd, b.kb, b.ok.mono (Nat.le_succ n)⟩⟩
theorem Prev.gap {n m : Nat} (h : Prev W δ g cx P w K mg base n) (hm : n ≤ m) (e : ∀ k, n ≤ k → k < m → g.fns k = none) : Prev W δ g cx P w K mg base m := fun k y hk ey => by
  by_cases z : k < n
  · obtain ⟨m', sp, f, fd, ps, a, b⟩ := h k y z ey
    exact ⟨m', sp, f, fd, ps, a, ⟨b.len, b.at_, b.kp, b.bd, b.kb, b.ok.mono hm⟩⟩
  · rw [e k (by omega) hk] at ey; cases ey
@[reducible] def Glob.at (g : Glob) (n : Nat) : Glob := { g with nf := n }
theorem start_ok {N : List Str} {F M H : Hp} {ω : Ω} {vs : List V} {ds : List D} (hw : Hw W ω F M H) (r : RDs H F M H vs ds) (no : noOwn ds = true) : J W (startE N ds) ω F M (L2.start N vs) H := by
  have hl : vs.length = ds.length := Paired.length r
  have get : ∀ {vs : List V} {ds : List D} (i : Nat) (d : D), RDs H F M H vs ds → ds[i]? = some d → ∃ v, vs[i]? = some v ∧ RD H F M H v d := fun {vs ds} i d r e => by
    induction r generalizing i with
    | nil => simp at e
    | cons a b ih =>
      cases i with
      | zero => simp at e; subst e; exact ⟨_, rfl, a⟩
      | succ i => simpa using ih i (by simpa using e)
  have nown : ∀ {ds : List D} (i : Nat) (kk : Bool) (xs : List PyData), noOwn ds = true → ds[i]? = some (.own kk xs) → False := fun {ds} i kk xs h e => by
    induction ds generalizing i with
    | nil => simp at e
    | cons a b ih =>
      cases i with
      | zero => simp at e; subst e; simp [noOwn] at h
      | succ i =>
        cases a with
        | own _ _ => simp [noOwn] at h
        | _ => exact ih i (by simpa [noOwn] using h) (by simpa using e)
  have hown : ∀ (i : Nat) (kk : Bool) (xs : List PyData), (startE N ds)[i]? = some (.own kk xs) → False := fun i kk xs e => by
    unfold startE at e
    by_cases hi : i < ds.length
    · rw [List.getElem?_append_left (by simpa using hi), List.getElem?_map] at e
      cases q : ds[i]? with
      | none => rw [q] at e; cases e
      | some d =>
        rw [q] at e
        cases d with
        | own _ ys => exact nown i _ ys no q
        | _ => cases e
    · rw [List.getElem?_append_right (by simpa using hi), List.getElem?_replicate] at e
      split at e <;> cases e
  refine ⟨hw, fun i s e => ?_, fun i j kk xs kl ys p _ e _ _ _ => (hown i kk xs e).elim⟩
  unfold startE at e
  unfold L2.start
  by_cases hi : i < ds.length
  · rw [List.getElem?_append_left (by simpa using hi), List.getElem?_map] at e
    rw [List.getElem?_append_left (by simpa [hl] using hi), List.getElem?_map]
    cases q : ds[i]? with
    | none => rw [q] at e; cases e
    | some d =>
      rw [q] at e
      obtain ⟨v, e1, rv⟩ := get i d r q
      rw [e1]
      refine ⟨some v, rfl, ?_⟩
      cases d with
      | d x => cases e; exact ⟨v, rfl, rv⟩
      | r x => cases e; exact congrArg some rv
      | fd x => cases e; obtain ⟨p, vs, ob, rfl, h⟩ := rv; exact ⟨p, vs, ob, rfl, h⟩
      | own _ ys => exact (nown i _ ys no q).elim
  · rw [List.getElem?_append_right (by simpa using hi), List.getElem?_replicate] at e
    rw [List.getElem?_append_right (by simpa [hl] using hi), List.getElem?_replicate]
    simp only [List.length_map] at e ⊢
    split at e
    · rename_i z
      cases e
      rw [hl, if_pos z]
      exact ⟨none, rfl, trivial⟩
    · cases e
theorem rds_self {H F M : Hp} : ∀ {ds : List D} {vs : List V}, RDs H F M H vs ds → noOwn ds = true
  | [], _, _ => rfl
  | .d x :: r, _, k => by cases k with | cons a b => simpa [noOwn] using rds_self b
  | .r x :: r, _, k => by cases k with | cons a b => simpa [noOwn] using rds_self b
  | .fd x :: r, _, k => by cases k with | cons a b => simpa [noOwn] using rds_self b
  | .own _ _ :: _, _, k => by
    cases k with
    | cons a b =>
      obtain ⟨p, vs, ob, _, h0, _, _, h1, io, _⟩ := a
      exact (h0.not h1 io.plain).elim
/-- THE RULE: a def by its core text; b: it may hold lambdas -/
theorem def_gen {b : Bool} {j n : Nat} {x : Str} {st : Stmt} {f : Addr} {fd : FuncData} {N ps : List Str} {c : CS} {sp : FSpec Ω} (T : Txt δ g cx K mg) (hP : Prev W δ g cx P w K mg base n) (Fn : FunD K x x (defArgs st) (defBody st) (defScope st) [] [] f fd) (S : FnScope N ps (defScope st))
    (hc : (chkS (g.at n) c).l ⟨N, defScope st, fun _ => true, b⟩ (defBody st) = true)
    (rd : ∀ ds ω Qc Ec, ds.length = ps.length → sp ds ω Qc Ec → denS δ c Ec ⟨fun _ ω' => Qc (.d .none) ω', Qc, fun _ _ => False, fun _ _ => False⟩ (startE N ds) ω)
    (hL : b = true → ∀ (cdv : Value), fd.code = cdv → PySem.W.codeIn K cdv x = true → ∀ (A : Around) (outer : List Env) (s : Shared) (H : Hp) (E : XK), Room (n + j) (A.deeper (envOfC x (defScope st) s.heap.objs.size f cdv)) → LamI W δ (g.at n) ⟨cx, E⟩ (cxOf (L2.CX P w) P w K mg base N x (defScope st) f cdv A outer s H E)) :
    FnOk P w K mg base (L2.CX P w) (n + j + 1) f fd ps (spOf W cx ps.length sp) := by
  obtain ⟨oc, od, dV, kV, doc, pm, an, cdv, ct, osl, rfl, lk, hcd, _, _⟩ := Fn.ex
  refine fn_of lk hcd S (fun vs H Q E h => ?_) fun A outer s H vs Q E hr h => ?_
  · obtain ⟨F, M, ω, ds, Qc, Ec, hw, r, hl, _⟩ := h
    rw [← hl]; exact Paired.length r
  · obtain ⟨F, M, ω, ds, Qc, Ec, hw, r, hl, hsp, kq, ke⟩ := h
    have ctx : CtxS W δ (g.at n) ⟨N, defScope st, fun _ => true, b⟩ ⟨cx, E⟩ (cxOf (L2.CX P w) P w K mg base N x (defScope st) f cdv A outer s H E) := {
      hN := rfl
      nd := S.nd
      sc := rfl
      fn := rfl
      calm := rfl
      hu := hr.units
      tk := takes_of rfl rfl rfl rfl
      blt := T.blt
      con := T.con
      fns := fun k y hk ey => by
        obtain ⟨m, sp, f, fd, ps, e1, q⟩ := hP k y hk ey
        exact ⟨m, sp, f, fd, ps, n, e1, ⟨q.len, q.at_, q.kp, q.bd, q.kb, q.ok, hr.mono (Nat.le_add_right n j)⟩⟩
      lam := fun z => hL z cdv rfl hcd A outer s H E hr
      kd := S.kind
      po := passes_of rfl
      exs := T.exs }
    refine ⟨_, (soundS c).l ctx (defBody st) hc, ?_⟩
    have j := start_ok (N := N) hw r (rds_self r)
    refine ⟨⟨H, F, M⟩, startE N ds, ω, F, M, Ec, _, ⟨j, Ex.refl _ _ _, fun i kk xs p e1 e2 => ?_⟩, rd ds ω Qc Ec hl hsp, ke, fun env' ω' F' M' σ' H' q i => ?_, fun _ _ _ _ _ _ q _ => q.elim, fun _ _ _ _ _ _ q _ => q.elim, fun d ω' F' M' v H' q hw' ex r => kq d ω' v H' F' M' q hw' ex r⟩
    · obtain ⟨ov, e3, q⟩ := j.sl i _ e1
      rw [e2] at e3; cases e3
      obtain ⟨p', vs', ob', e4, f1, m1, h1, _⟩ := q
      cases e4
      exfalso
      have := rds_self r
      unfold startE at e1
      by_cases hi : i < ds.length
      · rw [List.getElem?_append_left (by simpa using hi), List.getElem?_map] at e1
        cases q : ds[i]? with
        | none => rw [q] at e1; cases e1
        | some d =>
          rw [q] at e1
          cases d with
          | own kz ys =>
            clear j hc
            have : ∀ {ds : List D} (i : Nat), noOwn ds = true → ds[i]? = some (.own kz ys) → False := fun {ds} i h e => by
              induction ds generalizing i with
              | nil => simp at e
              | cons a b ih =>
                cases i with
                | zero => simp at e; subst e; simp [noOwn] at h
                | succ i =>
                  cases a with
                  | own _ _ => simp [noOwn] at h
                  | _ => exact ih i (by simpa [noOwn] using h) (by simpa using e)
            exact this i (rds_self r) q
          | _ => cases e1
      · rw [List.getElem?_append_right (by simpa using hi), List.getElem?_replicate] at e1
        split at e1 <;> cases e1
    · exact kq _ ω' _ H' F' M' q i.j.hw i.ex .non
theorem def_ok {n : Nat} {x : Str} {st : Stmt} {f : Addr} {fd : FuncData} {N ps : List Str} {c : CS} {sp : FSpec Ω} (T : Txt δ g cx K mg) (hP : Prev W δ g cx P w K mg base n) (Fn : FunD K x x (defArgs st) (defBody st) (defScope st) [] [] f fd) (S : FnScope N ps (defScope st))
    (hc : (chkS (g.at n) c).l ⟨N, defScope st, fun _ => true, false⟩ (defBody st) = true)
    (rd : ∀ ds ω Qc Ec, ds.length = ps.length → sp ds ω Qc Ec → denS δ c Ec ⟨fun _ ω' => Qc (.d .none) ω', Qc, fun _ _ => False, fun _ _ => False⟩ (startE N ds) ω) : FnOk P w K mg base (L2.CX P w) (n + 1) f fd ps (spOf W cx ps.length sp) :=
  def_gen (j := 0) T hP Fn S hc rd fun z => by cases z
end
end Q
namespace Q
open PySem PySem.Spec PyProof.Rows L2
/-! ### the law's town: where its draws are counted -/
theorem pig : ∀ (n : Nat) (l : List Int), l.Nodup → (∀ x ∈ l, 0 ≤ x ∧ x < n) → l.length ≤ n
  | 0, l, _, h => by
    cases l with
    | nil => exact Nat.le_refl _
    | cons x r => have := h x List.mem_cons_self; omega
  | n + 1, l, nd, h => by
    by_cases m : (n : Int) ∈ l
    · have e := List.length_erase_of_mem m
      have p : 0 < l.length := List.length_pos_of_mem m
      have q := pig n (l.erase (n : Int)) (nd.erase _) fun x hx => by
        obtain ⟨h1, h2⟩ := (List.Nodup.mem_erase_iff nd).mp hx
        have := h x h2
        omega
      omega
    · have q := pig n l nd fun x hx => by
        have := h x hx
        have : x ≠ (n : Int) := fun z => m (z ▸ hx)
        omega
      omega
def RestOk (kvs : List (Key × V)) : Prop := (kvs.map (·.1)).Nodup ∧ ∀ kv ∈ kvs, ∃ k i, kv = (Sum.inl k, V.int i) ∧ 0 ≤ k ∧ k < 63
theorem RestOk.len {kvs : List (Key × V)} (h : RestOk kvs) : kvs.length ≤ 63 := by
  have hm : ∃ l : List Int, kvs.map (·.1) = l.map Sum.inl ∧ ∀ x ∈ l, 0 ≤ x ∧ x < 63 := by
    have h2 := h.2
    clear h
    induction kvs with
    | nil => exact ⟨[], rfl, by simp⟩
    | cons p r ih =>
      obtain ⟨l, e, q⟩ := ih fun kv hk => h2 kv (List.mem_cons_of_mem _ hk)
      obtain ⟨k, i, rfl, a, b⟩ := h2 p List.mem_cons_self
      exact ⟨k :: l, by simp [e], fun x hx => (List.mem_cons.mp hx).elim (fun z => by rw [z]; exact ⟨a, b⟩) (q x)⟩
  obtain ⟨l, e, q⟩ := hm
  have nd := h.1
  rw [e] at nd
  have nd2 : l.Nodup := by
    have hh := List.pairwise_map.mp nd
    refine List.Pairwise.imp ?_ hh
    intro a b z y
    exact z (by rw [y])
  have := pig 63 l nd2 q
  have e2 := congrArg List.length e
  simp only [List.length_map] at e2
  omega
theorem RestOk.put {kvs : List (Key × V)} {k i : Int} (h : RestOk kvs) (a : 0 ≤ k) (b : k < 63) : RestOk (putK kvs (Sum.inl k) (.int i)) := by
  cases e : valV kvs (Sum.inl k : Key) with
  | none =>
    refine ⟨nd_putK _ h.1 e, fun kv hk => ?_⟩
    rw [putK_new _ e] at hk
    rcases List.mem_append.mp hk with z | z
    · exact h.2 kv z
    · rw [List.mem_singleton.mp z]; exact ⟨k, i, rfl, a, b⟩
  | some v =>
    have q : (kvs.any fun kv => decide (kv.1 = (Sum.inl k : Key))) = true := by rw [valV_any, e]; rfl
    unfold putK
    rw [if_pos q]
    refine ⟨?_, fun kv hk => ?_⟩
    · have z : (kvs.map fun kv => if kv.1 = (Sum.inl k : Key) then (kv.1, V.int i) else kv).map (·.1) = kvs.map (·.1) := by
        rw [List.map_map]
        refine List.map_congr_left fun p _ => ?_
        simp only [Function.comp]
        split <;> rfl
      rw [z]; exact h.1
    · obtain ⟨p, hp, rfl⟩ := List.mem_map.mp hk
      obtain ⟨k', i', rfl, a', b'⟩ := h.2 p hp
      by_cases z : (Sum.inl k' : Key) = Sum.inl k
      · rw [if_pos z]; exact ⟨k', i, rfl, a', b'⟩
      · rw [if_neg z]; exact ⟨k', i', rfl, a', b'⟩
theorem RestOk.val {kvs : List (Key × V)} {k : Int} {v : V} (h : RestOk kvs) (e : valV kvs (Sum.inl k : Key) = some v) : ∃ i, v = .int i := by
  unfold valV at e
  rw [Option.map_eq_some_iff] at e
  obtain ⟨p, hp, rfl⟩ := e
  obtain ⟨k', i', rfl, _⟩ := h.2 p (List.mem_of_find?_eq_some hp)
  exact ⟨i', rfl⟩
def townD (c : Int) (r : Addr) : HO := .dK [(Sum.inr ("count" : Str), .int c), (Sum.inr ("rests" : Str), .ref r)]
def Town (M : Hp) (t : Addr) : Prop := ∃ (r : Addr) (c : Int) (kvs : List (Key × V)), M t = some (townD c r) ∧ M r = some (.dK kvs) ∧ r ≠ t ∧ RestOk kvs
/-- the law's table of code objects, if it has one -/
def TabW (T : Option Addr) (M : Hp) : Prop := ∀ P, T = some P → LamX.TabS M P qLam
theorem plain_dK {xs : List (Key × V)} : Plain (.dK xs) := ⟨fun _ h => (by cases h), fun _ _ h => by unfold LamX.CodeO at h; cases h⟩
theorem tabS_upd {H : Hp} {a P : Addr} {q : Str} {o : HO} (h : LamX.TabS H P q) (e : ∀ u, H a = some u → Plain u) : LamX.TabS (upd H a o) P q := by
  obtain ⟨ps, h1, h2, h3⟩ := h
  refine ⟨ps, ?_, h2, fun pos cv hc => ?_⟩
  · have n : P ≠ a := fun z => by rw [z] at h1; exact (e _ h1).1 ps rfl
    rw [upd_ne n]; exact h1
  · obtain ⟨c, rfl, h4⟩ := h3 pos cv hc
    have n : c ≠ a := fun z => (e _ (show H a = some (LamX.CodeO c q) by rw [← z]; exact h4)).2 c q rfl
    exact ⟨c, rfl, by rw [upd_ne n]; exact h4⟩
def Base0 (K : PySem.W.Frag) (sa : Addr) (ns : List Int) (T : Option Addr) (M : Hp) : Prop := SqL K M sa (ns.map V.int) ∧ TabW T M
/-- the world of a law: the script at sa, the table, the town -/
def Wd (K : PySem.W.Frag) (sa : Addr) (ns : List Int) (T : Option Addr) : Option Addr → Hp → Prop
  | none, M => Base0 K sa ns T M
  | some t, M => Base0 K sa ns T M ∧ Town M t
def spDraw (sa : Addr) : FSpec (Option Addr) := fun ds ω Q _ => ∃ t many, ds = [.r (.ref sa), .r (.ref t), .d (.int many)] ∧ ω = some t ∧ 0 < many ∧ many ≤ 1000000 ∧ ∀ r, 0 ≤ r → r < many → Q (.d (.int r)) ω
def spBegun : FSpec (Option Addr) := fun ds ω Q _ => ds = [] ∧ ω = none ∧ ∀ t, Q (.r (.ref t)) (some t)
theorem sqL_upd {K : PySem.W.Frag} {M : Hp} {sa a : Addr} {xs : List V} {o : HO} {kvs : List (Key × V)} (h : SqL K M sa xs) (e : M a = some (.dK kvs)) : SqL K (upd M a o) sa xs := by
  rcases h with (h | ⟨u, h⟩) | h
  · exact .inl (.inl (by rw [upd_ne (fun z => by rw [z, e] at h; cases h)]; exact h))
  · exact .inl (.inr ⟨u, by rw [upd_ne (fun z => by rw [z, e] at h; cases h)]; exact h⟩)
  · exact .inr h
theorem sqL_mono {K : PySem.W.Frag} {F F' : Hp} {a : Addr} {xs : List V} (s : ∀ a o, F a = some o → F' a = some o) (h : SqL K F a xs) : SqL K F' a xs := by
  rcases h with (h | ⟨o, h⟩) | h
  · exact .inl (.inl (s _ _ h))
  · exact .inl (.inr ⟨o, s _ _ h⟩)
  · exact .inr h
theorem base_upd {K : PySem.W.Frag} {M : Hp} {sa a : Addr} {ns : List Int} {T : Option Addr} {o : HO} {kvs : List (Key × V)} (h : Base0 K sa ns T M) (e : M a = some (.dK kvs)) : Base0 K sa ns T (upd M a o) := by
  exact ⟨sqL_upd h.1 e, fun P hP => tabS_upd (h.2 P hP) fun u q => by rw [e] at q; cases q; exact plain_dK⟩
theorem base_mono {K : PySem.W.Frag} {F F' : Hp} {sa : Addr} {ns : List Int} {T : Option Addr} (s : ∀ a o, F a = some o → F' a = some o) (h : Base0 K sa ns T F) : Base0 K sa ns T F' :=
  ⟨sqL_mono s h.1, fun P hP => (h.2 P hP).ext s⟩
/-- all but tables stay -/
theorem Wd.ext {K : PySem.W.Frag} {sa : Addr} {ns : List Int} {T : Option Addr} {ω : Option Addr} {M M1 : Hp} (h : Wd K sa ns T ω M) (s : ∀ a o, M a = some o → (∀ ps, o ≠ .tbl ps) → M1 a = some o) (t : TabW T M1) : Wd K sa ns T ω M1 := by
  have hb : ∀ {M : Hp}, Base0 K sa ns T M → (∀ a o, M a = some o → (∀ ps, o ≠ .tbl ps) → M1 a = some o) → Base0 K sa ns T M1 := fun {M} h s => by
    refine ⟨?_, t⟩
    rcases h.1 with (h | ⟨u, h⟩) | h
    · exact .inl (.inl (s _ _ h fun _ z => by cases z))
    · exact .inl (.inr ⟨u, s _ _ h fun _ z => by cases z⟩)
    · exact .inr h
  cases ω with
  | none => exact hb h s
  | some x =>
    obtain ⟨h1, r, c, kvs, e1, e2, e3, e4⟩ := h
    exact ⟨hb h1 s, r, c, kvs, s _ _ e1 (fun _ z => by cases z), s _ _ e2 (fun _ z => by cases z), e3, e4⟩
theorem town_put (c d : Int) (r : Addr) : putK [((Sum.inr ("count" : Str) : Key), V.int c), (Sum.inr ("rests" : Str), V.ref r)] (Sum.inr ("count" : Str)) (V.int d) = [(Sum.inr ("count" : Str), V.int d), (Sum.inr ("rests" : Str), V.ref r)] := by rfl
/-- the world's part changes at a -/
theorem world_upd {H F M : Hp} {a : Addr} {o o' : HO} (fh : ∀ a o, F a = some o → H a = some o) (mh : ∀ a o, M a = some o → H a = some o) (fm : ∀ a o, F a = some o → M a = none) (e : M a = some o') (pl : Plain o) :
    (∀ b u, F b = some u → upd H a o b = some u) ∧ (∀ b u, upd M a o b = some u → upd H a o b = some u) ∧ (∀ b u, F b = some u → upd M a o b = none) ∧ Ex H F M (upd H a o) F (upd M a o) := by
  have nF : ∀ b u, F b = some u → b ≠ a := fun b u q z => by rw [z] at q; rw [fm a u q] at e; cases e
  refine ⟨fun b u q => by rw [upd_ne (nF b u q)]; exact fh b u q, fun b u q => ?_, fun b u q => by rw [upd_ne (nF b u q)]; exact fm b u q, ⟨fun b u q m _ => ?_, fun _ _ q => q, fun _ _ q => .inl q, fun b u q => ?_, fun b q => (q.upd pl).1, fun b q => .inl (q.upd pl)⟩⟩
  · by_cases z : b = a
    · rw [z] at q ⊢; rw [upd_same] at q ⊢; exact q
    · rw [upd_ne z] at q ⊢; exact mh b u q
  · rw [upd_ne (fun z => by rw [z] at m; rw [m] at e; cases e)]; exact q
  · by_cases z : b = a
    · rw [z, e]; simp
    · rw [upd_ne z] at q; rw [q]; simp
/-- a town is begun -/
theorem begun_new {K : PySem.W.Frag} {sa p r : Addr} {ns : List Int} {T : Option Addr} {F M H : Hp} (hw : Hw (Wd K sa ns T) none F M H) (np : H p = none) (nr : upd H p (HO.dK []) r = none) :
    Hw (Wd K sa ns T) (some p) F (upd (upd M r (.dK [])) p (townD 0 r)) (upd (upd (upd H p (.dK [])) r (.dK [])) p (townD 0 r)) ∧ Ex H F M (upd (upd (upd H p (.dK [])) r (.dK [])) p (townD 0 r)) F (upd (upd M r (.dK [])) p (townD 0 r)) := by
  have rp : r ≠ p := fun z => by rw [z, upd_same] at nr; cases nr
  have nr' : H r = none := by rwa [upd_ne rp] at nr
  have Fp : F p = none := by
    cases e : F p with
    | none => rfl
    | some o => rw [hw.fh _ _ e] at np; cases np
  have Fr : F r = none := by
    cases e : F r with
    | none => rfl
    | some o => rw [hw.fh _ _ e] at nr'; cases nr'
  have Mp : M p = none := by
    cases e : M p with
    | none => rfl
    | some o => rw [hw.mh _ _ e] at np; cases np
  have Mr : M r = none := by
    cases e : M r with
    | none => rfl
    | some o => rw [hw.mh _ _ e] at nr'; cases nr'
  have mm : ∀ a o, M a = some o → upd (upd M r (.dK [])) p (townD 0 r) a = some o := fun a o h => by
    rw [upd_ne (fun z => by rw [z, Mp] at h; cases h), upd_ne (fun z => by rw [z, Mr] at h; cases h)]; exact h
  have hh : ∀ a o, H a = some o → upd (upd (upd H p (.dK [])) r (.dK [])) p (townD 0 r) a = some o := fun a o h => by
    rw [upd_ne (fun z => by rw [z, np] at h; cases h), upd_ne (fun z => by rw [z, nr'] at h; cases h), upd_ne (fun z => by rw [z, np] at h; cases h)]; exact h
  refine ⟨⟨fun a o h => hh a o (hw.fh a o h), fun a o h => ?_, fun a o h => ?_, hw.fp, base_mono mm hw.w, r, 0, [], upd_same, ?_, rp, ⟨List.nodup_nil, fun kv h => by cases h⟩⟩, ⟨fun a o h _ _ => hh a o h, fun _ _ h => h, fun _ _ h => .inl h, fun a o h => ?_, fun a h => ?_, fun a h => .inl (((h.upd plain_dK).upd plain_dK).upd plain_dK)⟩⟩
  · rcases upd_eq h with ⟨rfl, e⟩ | ⟨z, e⟩
    · exact upd_same.trans e.symm
    · rcases upd_eq e with ⟨rfl, e⟩ | ⟨z2, e⟩
      · rw [upd_ne z, upd_same]; exact (by assumption : some o = some (HO.dK [])).symm
      · rw [upd_ne z, upd_ne z2, upd_ne z]; exact hw.mh _ _ e
  · have a1 : a ≠ p := fun z => by rw [z, Fp] at h; cases h
    have a2 : a ≠ r := fun z => by rw [z, Fr] at h; cases h
    rw [upd_ne a1, upd_ne a2]; exact hw.fm _ _ h
  · rw [upd_ne rp, upd_same]
  · rcases upd_eq h with ⟨rfl, e⟩ | ⟨z, e⟩
    · exact .inr (.inl (Q.Fr.none np))
    · rcases upd_eq e with ⟨rfl, e⟩ | ⟨z2, e⟩
      · exact .inr (.inl (Q.Fr.none nr'))
      · exact .inl (by rw [e]; simp)
  · exact (((h.upd plain_dK).1).upd plain_dK).1.upd plain_dK |>.1
end Q
namespace Q
open PySem PySem.Spec PyProof.Rows L2
/-! ### how a reading is unrolled -/
section
variable {Ω : Type} {δ : Den Ω} {E : XD Ω} {env : List S} {ω : Ω} {Q : QD Ω} {Dc : DEnds Ω}
def boolK (x : D) (p q : Prop) : Prop := match x with
  | .d (.bool true) => p
  | .d (.bool false) => q
  | _ => False
@[simp] theorem boolK_b (b : Bool) (p q : Prop) : boolK (.d (.bool b)) p q ↔ if b = true then p else q := by cases b <;> simp [boolK]
def ifK (b : Bool) (p q : Prop) : Prop := match b with
  | true => p
  | false => q
@[simp] theorem ifK_b (b : Bool) (p q : Prop) : ifK b p q ↔ if b = true then p else q := by cases b <;> simp [ifK]
def slotK (s : Option S) (Q : D → Prop) : Prop := match s with
  | some (.d x) => Q (.d x)
  | some (.r v) => Q (.r v)
  | some (.fd x) => Q (.fd x)
  | _ => False
@[simp] theorem slotK_d (x : PyData) (Q : D → Prop) : slotK (some (.d x)) Q = Q (.d x) := rfl
@[simp] theorem slotK_fd (x : List PyData) (Q : D → Prop) : slotK (some (.fd x)) Q = Q (.fd x) := rfl
@[simp] theorem slotK_r (x : V) (Q : D → Prop) : slotK (some (.r x)) Q = Q (.r x) := rfl
@[simp] theorem dVar_k (i : Nat) : dVar i E env ω Q = slotK env[i]? fun d => Q d ω := by
  unfold dVar slotK
  cases env[i]? with
  | none => rfl
  | some s => cases s <;> rfl
@[simp] theorem dCon_k (x : PyData) : dCon x E env ω Q = Q (.d x) ω := rfl
@[simp] theorem dBin_k (o : Op2) (a b : TD Ω) : dBin o a b E env ω Q = a E env ω fun x ω1 => b E env ω1 fun y ω2 => p2 o x y fun d => Q d ω2 := rfl
@[simp] theorem dUn_k (o : Op1) (a : TD Ω) : dUn o a E env ω Q = a E env ω fun x ω1 => p1 o x fun d => Q d ω1 := rfl
@[simp] theorem dChain_k (o o' : Op2) (a b c : TD Ω) : dChain o o' a b c E env ω Q = a E env ω fun x ω1 => b E env ω1 fun y ω2 => p2 o x y fun d => boolK d (c E env ω2 fun z ω3 => p2 o' y z fun d => Q d ω3) (Q (.d (.bool false)) ω2) := rfl
def nonK (x : D) (neg : Bool) (Q : D → Prop) : Prop := match x with
  | .d .none => Q (.d (.bool (!neg)))
  | .d _ => Q (.d (.bool neg))
  | _ => False
def isNo : PyData → Bool
  | .none => true
  | _ => false
@[simp] theorem nonK_d (x : PyData) (neg : Bool) (Q : D → Prop) : nonK (.d x) neg Q = Q (.d (.bool (if isNo x = true then !neg else neg))) := by cases x <;> rfl
@[simp] theorem dIsN_k (neg : Bool) (a : TD Ω) : dIsN neg a E env ω Q = a E env ω fun x ω1 => nonK x neg fun d => Q d ω1 := rfl
@[simp] theorem dNil_k (Q : List D → Ω → Prop) : dNil E env ω Q = Q [] ω := rfl
@[simp] theorem dCons_k (a : TD Ω) (r : TDa Ω) (Q : List D → Ω → Prop) : dCons a r E env ω Q = a E env ω fun x ω1 => r E env ω1 fun xs ω2 => Q (x :: xs) ω2 := rfl
def datsK (ds : List D) (Q : List PyData → Prop) : Prop := match dats ds with
  | some xs => xs.length ≤ 1000000 ∧ Q xs
  | none => False
@[simp] theorem dTup_k (a : TDa Ω) : dTup a E env ω Q = a E env ω fun ds ω1 => datsK ds fun xs => Q (.d (.tuple xs)) ω1 := rfl
@[simp] theorem dLst_k (own : Bool) (a : TDa Ω) : dLst own a E env ω Q = a E env ω fun ds ω1 => datsK ds fun xs => Q (if own = true then .own false xs else .d (.list xs)) ω1 := rfl
@[simp] theorem datsK_0 (Q : List PyData → Prop) : datsK [] Q ↔ Q [] := by simp [datsK, dats]
@[simp] theorem datsK_1 (a : PyData) (Q : List PyData → Prop) : datsK [.d a] Q ↔ Q [a] := by simp [datsK, dats]
@[simp] theorem datsK_2 (a b : PyData) (Q : List PyData → Prop) : datsK [.d a, .d b] Q ↔ Q [a, b] := by simp [datsK, dats]
@[simp] theorem datsK_3 (a b c : PyData) (Q : List PyData → Prop) : datsK [.d a, .d b, .d c] Q ↔ Q [a, b, c] := by simp [datsK, dats]
@[simp] theorem datsK_4 (a b c d : PyData) (Q : List PyData → Prop) : datsK [.d a, .d b, .d c, .d d] Q ↔ Q [a, b, c, d] := by simp [datsK, dats]
@[simp] theorem datsK_5 (a b c d e : PyData) (Q : List PyData → Prop) : datsK [.d a, .d b, .d c, .d d, .d e] Q ↔ Q [a, b, c, d, e] := by simp [datsK, dats]
@[simp] theorem datsK_6 (a b c d e f : PyData) (Q : List PyData → Prop) : datsK [.d a, .d b, .d c, .d d, .d e, .d f] Q ↔ Q [a, b, c, d, e, f] := by simp [datsK, dats]
@[simp] theorem datsK_7 (a b c d e f g : PyData) (Q : List PyData → Prop) : datsK [.d a, .d b, .d c, .d d, .d e, .d f, .d g] Q ↔ Q [a, b, c, d, e, f, g] := by simp [datsK, dats]
@[simp] theorem dBlt_k (b : Blt) (a : TDa Ω) : dBlt b a E env ω Q = a E env ω fun ds ω1 => pB b ds fun d => Q d ω1 := rfl
def isaK (T : Ty) (x : D) (Q : D → Prop) : Prop := match x with
  | .d y => Q (.d (.bool (isaT T y)))
  | _ => False
@[simp] theorem isaK_d (T : Ty) (x : PyData) (Q : D → Prop) : isaK T (.d x) Q = Q (.d (.bool (isaT T x))) := rfl
@[simp] theorem dIsa_k (T : Ty) (a : TD Ω) : dIsa T a E env ω Q = a E env ω fun x ω1 => isaK T x fun d => Q d ω1 := rfl
@[simp] theorem dAndV_k (a b : TD Ω) : dAndV a b E env ω Q = a E env ω fun x ω1 => boolK x (b E env ω1 Q) (Q (.d (.bool false)) ω1) := rfl
@[simp] theorem dOrV_k (a b : TD Ω) : dOrV a b E env ω Q = a E env ω fun x ω1 => boolK x (Q (.d (.bool true)) ω1) (b E env ω1 Q) := rfl
def notK (x : D) (Q : D → Prop) : Prop := match x with
  | .d (.bool c) => Q (.d (.bool (!c)))
  | _ => False
@[simp] theorem notK_d (x : Bool) (Q : D → Prop) : notK (.d (.bool x)) Q = Q (.d (.bool (!x))) := rfl
@[simp] theorem dNotV_k (a : TD Ω) : dNotV a E env ω Q = a E env ω fun x ω1 => notK x fun d => Q d ω1 := rfl
@[simp] theorem dTru_k (a : TD Ω) (Q : Bool → Ω → Prop) : dTru a E env ω Q = a E env ω fun x ω1 => pTru x fun b => Q b ω1 := rfl
@[simp] theorem dAnd_k (a b : TDb Ω) (Q : Bool → Ω → Prop) : dAnd a b E env ω Q = a E env ω fun c ω1 => ifK c (b E env ω1 Q) (Q false ω1) := rfl
@[simp] theorem dOr_k (a b : TDb Ω) (Q : Bool → Ω → Prop) : dOr a b E env ω Q = a E env ω fun c ω1 => ifK c (Q true ω1) (b E env ω1 Q) := rfl
@[simp] theorem dNot_k (a : TDb Ω) (Q : Bool → Ω → Prop) : dNot a E env ω Q = a E env ω fun c ω1 => Q (!c) ω1 := rfl
@[simp] theorem dIf_k (t : TDb Ω) (a b : TD Ω) : dIf t a b E env ω Q = t E env ω fun c ω1 => ifK c (a E env ω1 Q) (b E env ω1 Q) := rfl
@[simp] theorem dNo_k (Q : Option Int → Ω → Prop) : dNo E env ω Q = Q none ω := rfl
def intK (x : D) (Q : Int → Prop) : Prop := match x with
  | .d (.int i) => Q i
  | _ => False
@[simp] theorem intK_d (x : Int) (Q : Int → Prop) : intK (.d (.int x)) Q = Q x := rfl
@[simp] theorem dSome_k (a : TD Ω) (Q : Option Int → Ω → Prop) : dSome a E env ω Q = a E env ω fun x ω1 => intK x fun i => Q (some i) ω1 := rfl
@[simp] theorem dSl_k (a : TD Ω) (lo hi : TDo Ω) : dSl a lo hi E env ω Q = a E env ω fun x ω1 => lo E env ω1 fun l ω2 => hi E env ω2 fun u ω3 => pSl x l u fun d => Q d ω3 := rfl
def seqK (x : D) (Q : List PyData → Prop) : Prop := match x with
  | .d (.list xs) => Q xs
  | .d (.tuple xs) => Q xs
  | .fd x => Q x
  | _ => False
@[simp] theorem seqK_l (x : List PyData) (Q : List PyData → Prop) : seqK (.d (.list x)) Q = Q x := rfl
@[simp] theorem seqK_fd (x : List PyData) (Q : List PyData → Prop) : seqK (.fd x) Q = Q x := rfl
@[simp] theorem seqK_t (x : List PyData) (Q : List PyData → Prop) : seqK (.d (.tuple x)) Q = Q x := rfl
@[simp] theorem dSeqI_k (t : TD Ω) (Q : List PyData → Ω → Prop) : dSeqI t E env ω Q = t E env ω fun x ω1 => seqK x fun xs => Q xs ω1 := rfl
def rngK (ds : List D) (Q : List PyData → Prop) : Prop := match ds with
  | [.d (.int n)] => (n ≤ 1000000 ∧ -1000000 ≤ n) ∧ Q (rngD 0 n.toNat)
  | _ => False
@[simp] theorem rngK_d (n : Int) (Q : List PyData → Prop) : rngK [.d (.int n)] Q = ((n ≤ 1000000 ∧ -1000000 ≤ n) ∧ Q (rngD 0 n.toNat)) := rfl
@[simp] theorem dRngA_k (ts : TDa Ω) (Q : List PyData → Ω → Prop) : dRngA ts E env ω Q = ts E env ω fun ds ω1 => rngK ds fun xs => Q xs ω1 := rfl
def rngK2 (ds : List D) (Q : List PyData → Prop) : Prop := match ds with
  | [.d (.int m), .d (.int n)] => (n ≤ 1000000 ∧ -1000000 ≤ n ∧ m ≤ 1000000 ∧ 0 ≤ m) ∧ Q (rngD m (n - m).toNat)
  | _ => False
@[simp] theorem rngK2_d (m n : Int) (Q : List PyData → Prop) : rngK2 [.d (.int m), .d (.int n)] Q = ((n ≤ 1000000 ∧ -1000000 ≤ n ∧ m ≤ 1000000 ∧ 0 ≤ m) ∧ Q (rngD m (n - m).toNat)) := rfl
@[simp] theorem dRngB_k (ts : TDa Ω) (Q : List PyData → Ω → Prop) : dRngB ts E env ω Q = ts E env ω fun ds ω1 => rngK2 ds fun xs => Q xs ω1 := rfl
def zipK (ds : List D) (Q : List PyData → Prop) : Prop := match ds with
  | [.d (.list xs), .d (.list ys)] => Q (zipD xs ys)
  | [.d (.tuple xs), .d (.tuple ys)] => Q (zipD xs ys)
  | _ => False
@[simp] theorem zipK_l (xs ys : List PyData) (Q : List PyData → Prop) : zipK [.d (.list xs), .d (.list ys)] Q = Q (zipD xs ys) := rfl
@[simp] theorem zipK_t (xs ys : List PyData) (Q : List PyData → Prop) : zipK [.d (.tuple xs), .d (.tuple ys)] Q = Q (zipD xs ys) := rfl
@[simp] theorem dZip_k (ts : TDa Ω) (Q : List PyData → Ω → Prop) : dZip ts E env ω Q = ts E env ω fun ds ω1 => zipK ds fun xs => Q xs ω1 := rfl
@[simp] theorem dYes_k (Q : Bool → Ω → Prop) : dYes E env ω Q = Q true ω := rfl
@[simp] theorem dComp_k (own : Bool) (it : TDi Ω) (p : Pat) (t : TDb Ω) (e : TD Ω) : dComp own it p t e E env ω Q = it E env ω fun ds ω1 => compL p t e (wipeE env p.slots) ds [] ω1 fun zs ω2 => Q (if own = true then .own false zs else .d (.list zs)) ω2 := rfl
@[simp] theorem noOwn_nil : noOwn [] = true := rfl
@[simp] theorem noOwn_d (x : PyData) (r : List D) : noOwn (.d x :: r) = noOwn r := rfl
@[simp] theorem noOwn_r (x : V) (r : List D) : noOwn (.r x :: r) = noOwn r := rfl
@[simp] theorem noOwn_o (k : Bool) (x : List PyData) (r : List D) : noOwn (.own k x :: r) = false := rfl
@[simp] theorem noOwn_fd (x : List PyData) (r : List D) : noOwn (.fd x :: r) = noOwn r := rfl
@[simp] theorem dCallN_k (n : Nat) (sp : FSpec Ω) (a : TDa Ω) : dCallN n sp a E env ω Q = a E env ω fun ds ω1 => noOwn ds = true ∧ ds.length = n ∧ sp ds ω1 Q E := rfl
@[simp] theorem dCallK_k (n m : Nat) (sp : FSpec Ω) (a b : TDa Ω) : dCallK n m sp a b E env ω Q = a E env ω fun ds ω1 => ds.length = n ∧ b E env ω1 fun es ω2 => noOwn (ds ++ es) = true ∧ (ds ++ es).length = m ∧ sp (ds ++ es) ω2 Q E := rfl
/-! statements -/
@[simp] theorem s_d (x : PyData) : D.s (.d x) = .d x := rfl
@[simp] theorem s_r (x : V) : D.s (.r x) = .r x := rfl
@[simp] theorem s_o (k : Bool) (x : List PyData) : D.s (.own k x) = .own k x := rfl
@[simp] theorem s_fd (x : List PyData) : D.s (.fd x) = .fd x := rfl
@[simp] theorem sNext_k : sNext E Dc env ω = Dc.nx env ω := rfl
@[simp] theorem sSeq_k (t u : TDs Ω) : sSeq t u E Dc env ω = t E { Dc with nx := u E Dc } env ω := rfl
@[simp] theorem sDrop_k (t : TD Ω) : sDrop t E Dc env ω = t E env ω fun _ ω' => Dc.nx env ω' := rfl
@[simp] theorem sRet_k (t : TD Ω) : sRet t E Dc env ω = t E env ω fun d ω' => Dc.rt d ω' := rfl
@[simp] theorem sIf_k (t : TDb Ω) (a b : TDs Ω) : sIf t a b E Dc env ω = t E env ω fun c ω' => ifK c (a E Dc env ω') (b E Dc env ω') := rfl
@[simp] theorem sSet_k (i : Nat) (t : TD Ω) : sSet i t E Dc env ω = t E env ω fun d ω' => Dc.nx (env.set i d.s) ω' := rfl
def parK (ds : List D) (Q : D → D → Prop) : Prop := match ds with
  | [x, y] => (noOwn [x] || noOwn [y]) = true ∧ Q x y
  | _ => False
@[simp] theorem parK_2 (x y : D) (Q : D → D → Prop) : parK [x, y] Q = ((noOwn [x] || noOwn [y]) = true ∧ Q x y) := rfl
@[simp] theorem sPar1_k (i k : Nat) (t : TDa Ω) : sPar1 i k t E Dc env ω = t E env ω fun ds ω' => parK ds fun x y => Dc.nx ((env.set i x.s).set k y.s) ω' := rfl
def someK {α : Type} (o : Option α) (Q : α → Prop) : Prop := match o with
  | some x => Q x
  | none => False
@[simp] theorem someK_s {α : Type} (x : α) (Q : α → Prop) : someK (some x) Q = Q x := rfl
def datK (x : D) (Q : PyData → Prop) : Prop := match x with
  | .d y => Q y
  | _ => False
@[simp] theorem datK_d (x : PyData) (Q : PyData → Prop) : datK (.d x) Q = Q x := rfl
@[simp] theorem sPat_k (p : Pat) (t : TD Ω) : sPat p t E Dc env ω = t E env ω fun d ω' => datK d fun x => someK (bindP p x env) fun env' => Dc.nx env' ω' := by
  unfold sPat
  congr
  funext d ω'
  cases d with
  | d x => simp only [datK]; cases bindP p x env <;> rfl
  | _ => rfl
def ownK (x : Option S) (Q : List PyData → Prop) : Prop := match x with
  | some (.own false y) => Q y
  | _ => False
@[simp] theorem ownK_d (x : List PyData) (Q : List PyData → Prop) : ownK (some (.own false x)) Q = Q x := rfl
def frzK (x : Option S) (Q : S → Prop) : Prop := match x with
  | some (.own false y) => Q (.d (.list y))
  | some (.own true y) => Q (.fd y)
  | _ => False
@[simp] theorem frzK_f (x : List PyData) (Q : S → Prop) : frzK (some (.own false x)) Q = Q (.d (.list x)) := rfl
@[simp] theorem frzK_t (x : List PyData) (Q : S → Prop) : frzK (some (.own true x)) Q = Q (.fd x) := rfl
theorem own_cases (P : Option S → Prop) (x : Option S) (h1 : ∀ y, P (some (.own false y))) (h2 : ∀ y, P (some (.own true y))) (h3 : ∀ y, P (some (.d y))) (h4 : ∀ y, P (some (.r y))) (h5 : ∀ y, P (some (.fd y))) (h6 : P none) (h7 : P (some .no)) : P x := by
  cases x with
  | none => exact h6
  | some s =>
    cases s with
    | own k y => cases k; exact h1 y; exact h2 y
    | d y => exact h3 y
    | r y => exact h4 y
    | fd y => exact h5 y
    | no => exact h7
@[simp] theorem sFrz_k (i : Nat) (t : TDs Ω) : sFrz i t E Dc env ω = frzK env[i]? fun s => t E Dc (env.set i s) ω := by
  unfold sFrz frzK
  generalize env[i]? = x
  refine own_cases (fun x => (match x with | some (.own false xs) => t E Dc (env.set i (.d (.list xs))) ω | some (.own true xs) => t E Dc (env.set i (.fd xs)) ω | _ => False) = (match x with | some (.own false y) => t E Dc (env.set i (.d (.list y))) ω | some (.own true y) => t E Dc (env.set i (.fd y)) ω | _ => False)) x ?_ ?_ ?_ ?_ ?_ ?_ ?_ <;> intros <;> rfl
def ownT (x : Option S) (Q : List PyData → Prop) : Prop := match x with
  | some (.own true y) => Q y
  | _ => False
@[simp] theorem ownT_d (x : List PyData) (Q : List PyData → Prop) : ownT (some (.own true x)) Q = Q x := rfl
def fdK (x : D) (Q : List PyData → Prop) : Prop := match x with
  | .fd y => Q y
  | _ => False
@[simp] theorem fdK_d (x : List PyData) (Q : List PyData → Prop) : fdK (.fd x) Q = Q x := rfl
theorem sPutD_k (i : Nat) (t : TD Ω) : sPutD i t E Dc env ω = ownT env[i]? fun xs => t E env ω fun d ω' => keyK d fun y => xs.length < 1000000 ∧ Dc.nx (env.set i (.own true (putD xs y))) ω' := rfl
theorem sUpdD_k (i : Nat) (t : TD Ω) : sUpdD i t E Dc env ω = ownT env[i]? fun xs => t E env ω fun d ω' => fdK d fun ys => xs.length + ys.length ≤ 1000000 ∧ (xs ≠ [] ∨ (ys.map hashD).Nodup) ∧ Dc.nx (env.set i (.own true (putsD xs ys))) ω' := rfl
@[simp] theorem sApp_k (i : Nat) (t : TD Ω) : sApp i t E Dc env ω = ownK env[i]? fun xs => t E env ω fun d ω' => datK d fun x => xs.length < 1000000 ∧ Dc.nx (env.set i (.own false (xs ++ [x]))) ω' := by
  unfold sApp ownK
  rfl
def lstK (x : D) (Q : List PyData → Prop) : Prop := match x with
  | .d (.list y) => Q y
  | .d (.tuple y) => Q y
  | _ => False
@[simp] theorem lstK_t (x : List PyData) (Q : List PyData → Prop) : lstK (.d (.tuple x)) Q = Q x := rfl
@[simp] theorem lstK_d (x : List PyData) (Q : List PyData → Prop) : lstK (.d (.list x)) Q = Q x := rfl
@[simp] theorem sExt_k (i : Nat) (t : TD Ω) : sExt i t E Dc env ω = ownK env[i]? fun xs => t E env ω fun d ω' => lstK d fun ys => xs.length + ys.length ≤ 1000000 ∧ Dc.nx (env.set i (.own false (xs ++ ys))) ω' := by
  unfold sExt ownK
  rfl
@[simp] theorem sRaise_k (c : Nat) : sRaise c E Dc env ω = E c ω := rfl
@[simp] theorem sFor_k (it : TDi Ω) (p : Pat) (b : TDs Ω) : sFor it p b E Dc env ω = it E env ω fun ds ω' => forL p b E Dc ds env ω' := rfl
def intS (x : Option S) (Q : Int → Prop) : Prop := match x with
  | some (.d (.int y)) => Q y
  | _ => False
@[simp] theorem intS_d (x : Int) (Q : Int → Prop) : intS (some (.d (.int x))) Q = Q x := rfl
@[simp] theorem sAug_k (o : Aug) (i : Nat) (t : TD Ω) : sAug o i t E Dc env ω = intS env[i]? fun a => t E env ω fun d ω' => intK d fun b => pAug o a b fun z => Dc.nx (env.set i (.d (.int z))) ω' := by
  unfold sAug intS
  cases env[i]? with
  | none => rfl
  | some s => cases s <;> rfl
@[simp] theorem forL_nil (p : Pat) (b : TDs Ω) : forL p b E Dc [] env ω = Dc.nx env ω := rfl
theorem forL_cons (p : Pat) (b : TDs Ω) (x : PyData) (xs : List PyData) : forL p b E Dc (x :: xs) env ω = someK (bindP p x env) fun env1 => b E { Dc with nx := fun env' ω' => forL p b E Dc xs env' ω', ct := fun env' ω' => forL p b E Dc xs env' ω', bk := Dc.nx } env1 ω := by
  rw [forL]
  cases bindP p x env <;> rfl
@[simp] theorem compL_nil (p : Pat) (t : TDb Ω) (e : TD Ω) (acc : List PyData) (Q : List PyData → Ω → Prop) : compL p t e env [] acc ω Q = Q acc ω := rfl
theorem compL_cons (p : Pat) (t : TDb Ω) (e : TD Ω) (x : PyData) (xs acc : List PyData) (Q : List PyData → Ω → Prop) : compL p t e env (x :: xs) acc ω Q = someK (bindP p x env) fun env1 => t (fun _ _ => False) env1 ω fun b ω1 => ifK b (e (fun _ _ => False) env1 ω1 fun y ω2 => datK y fun z => compL p t e env xs (acc ++ [z]) ω2 Q) (compL p t e env xs acc ω1 Q) := by
  rw [compL]
  cases bindP p x env <;> rfl
/-! operators -/
@[simp] theorem p2_addI (i j : Int) (Q : D → Prop) : p2 .add (.d (.int i)) (.d (.int j)) Q = Q (.d (.int (i + j))) := rfl
@[simp] theorem p2_addT (i j : List PyData) (Q : D → Prop) : p2 .add (.d (.tuple i)) (.d (.tuple j)) Q = (i.length + j.length ≤ 1000000 ∧ Q (.d (.tuple (i ++ j)))) := rfl
@[simp] theorem p2_addL (i j : List PyData) (Q : D → Prop) : p2 .add (.d (.list i)) (.d (.list j)) Q = (i.length + j.length ≤ 1000000 ∧ Q (.d (.list (i ++ j)))) := rfl
@[simp] theorem p2_addS (i j : Str) (Q : D → Prop) : p2 .add (.d (.str i)) (.d (.str j)) Q = (i.length + j.length ≤ 1000000 ∧ Q (.d (.str (i ++ j)))) := rfl
@[simp] theorem p2_addO (i j : List PyData) (Q : D → Prop) : p2 .addO (.d (.list i)) (.d (.list j)) Q = (i.length + j.length ≤ 1000000 ∧ Q (.own false (i ++ j))) := rfl
@[simp] theorem p2_sub (i j : Int) (Q : D → Prop) : p2 .sub (.d (.int i)) (.d (.int j)) Q = Q (.d (.int (i - j))) := rfl
@[simp] theorem p2_mulI (i j : Int) (Q : D → Prop) : p2 .mul (.d (.int i)) (.d (.int j)) Q = (CMul i j ∧ Q (.d (.int (i * j)))) := rfl
@[simp] theorem p2_mulT (xs : List PyData) (k : Int) (Q : D → Prop) : p2 .mul (.d (.tuple xs)) (.d (.int k)) Q = (xs ≠ [] ∧ 2 ≤ k ∧ k ≤ 1000 ∧ xs.length ≤ 1000 ∧ Q (.d (.tuple (List.replicate k.toNat xs).flatten))) := rfl
@[simp] theorem p2_mulL (xs : List PyData) (k : Int) (Q : D → Prop) : p2 .mul (.d (.list xs)) (.d (.int k)) Q = (0 ≤ k ∧ k ≤ 1000 ∧ xs.length ≤ 1000 ∧ Q (.d (.list (List.replicate k.toNat xs).flatten))) := rfl
@[simp] theorem p2_mod (i j : Int) (Q : D → Prop) : p2 .mod (.d (.int i)) (.d (.int j)) Q = (0 < j ∧ Q (.d (.int (i % j)))) := rfl
@[simp] theorem p2_fdiv (i j : Int) (Q : D → Prop) : p2 .fdiv (.d (.int i)) (.d (.int j)) Q = ((0 < j ∧ j < 1073741824) ∧ Q (.d (.int (i / j)))) := rfl
@[simp] theorem p2_band (i j : Int) (Q : D → Prop) : p2 .band (.d (.int i)) (.d (.int j)) Q = Q (.d (.int (Builtin.bitAnd i j))) := rfl
@[simp] theorem p2_bxor (i j : Int) (Q : D → Prop) : p2 .bxor (.d (.int i)) (.d (.int j)) Q = Q (.d (.int (Builtin.bitXor i j))) := rfl
@[simp] theorem p2_eq (i j : PyData) (Q : D → Prop) : p2 .eq (.d i) (.d j) Q = (cEq i j ∧ Q (.d (.bool (PyData.eqv i j)))) := by simp [p2]
@[simp] theorem p2_ne (i j : PyData) (Q : D → Prop) : p2 .ne (.d i) (.d j) Q = (cEq i j ∧ Q (.d (.bool (!PyData.eqv i j)))) := by simp [p2]
@[simp] theorem p2_lt (i j : Int) (Q : D → Prop) : p2 .lt (.d (.int i)) (.d (.int j)) Q = Q (.d (.bool (decide (i < j)))) := rfl
@[simp] theorem p2_le (i j : Int) (Q : D → Prop) : p2 .le (.d (.int i)) (.d (.int j)) Q = Q (.d (.bool (decide (i ≤ j)))) := rfl
@[simp] theorem p2_gt (i j : Int) (Q : D → Prop) : p2 .gt (.d (.int i)) (.d (.int j)) Q = Q (.d (.bool (decide (j < i)))) := rfl
@[simp] theorem p2_ge (i j : Int) (Q : D → Prop) : p2 .ge (.d (.int i)) (.d (.int j)) Q = Q (.d (.bool (decide (j ≤ i)))) := rfl
theorem p2_ltD (i j : PyData) (Q : D → Prop) (h : (∀ a, i = .int a → ∀ b, j = .int b → False)) : p2 .lt (.d i) (.d j) Q = (cLt i j ∧ Q (.d (.bool (PySem.W.dataLt i j)))) := by
  cases i <;> cases j <;> first | rfl | exact (h _ rfl _ rfl).elim
@[simp] theorem p2_ltT (i j : List PyData) (Q : D → Prop) : p2 .lt (.d (.tuple i)) (.d (.tuple j)) Q = (cLt (.tuple i) (.tuple j) ∧ Q (.d (.bool (PySem.W.dataLt (.tuple i) (.tuple j))))) := rfl
@[simp] theorem p2_inL (i : PyData) (j : List PyData) (Q : D → Prop) : p2 .isin (.d i) (.d (.list j)) Q = (min (PyData.depthAll j) i.depth ≤ 60 ∧ Q (.d (.bool (memD i j)))) := by simp [p2]
@[simp] theorem p2_inT (i : PyData) (j : List PyData) (Q : D → Prop) : p2 .isin (.d i) (.d (.tuple j)) Q = (min (PyData.depthAll j) i.depth ≤ 60 ∧ Q (.d (.bool (memD i j)))) := by simp [p2]
@[simp] theorem p2_ninL (i : PyData) (j : List PyData) (Q : D → Prop) : p2 .notin (.d i) (.d (.list j)) Q = (min (PyData.depthAll j) i.depth ≤ 60 ∧ Q (.d (.bool (!memD i j)))) := by simp [p2]
@[simp] theorem p2_ninT (i : PyData) (j : List PyData) (Q : D → Prop) : p2 .notin (.d i) (.d (.tuple j)) Q = (min (PyData.depthAll j) i.depth ≤ 60 ∧ Q (.d (.bool (!memD i j)))) := by simp [p2]
@[simp] theorem p2_ixL (j : List PyData) (i : Int) (Q : D → Prop) : p2 .ix (.d (.list j)) (.d (.int i)) Q = ∃ x, atI j i = some x ∧ Q (.d x) := rfl
@[simp] theorem p2_ixT (j : List PyData) (i : Int) (Q : D → Prop) : p2 .ix (.d (.tuple j)) (.d (.int i)) Q = ∃ x, atI j i = some x ∧ Q (.d x) := rfl
@[simp] theorem p1_neg (i : Int) (Q : D → Prop) : p1 .neg (.d (.int i)) Q = Q (.d (.int (-i))) := rfl
@[simp] theorem p1_inv (i : Int) (Q : D → Prop) : p1 .inv (.d (.int i)) Q = Q (.d (.int (Builtin.bitNot i))) := rfl
@[simp] theorem pTru_n (Q : Bool → Prop) : pTru (.d .none) Q = Q false := rfl
@[simp] theorem pTru_b (b : Bool) (Q : Bool → Prop) : pTru (.d (.bool b)) Q = Q b := rfl
@[simp] theorem pTru_i (b : Int) (Q : Bool → Prop) : pTru (.d (.int b)) Q = Q (b != 0) := rfl
@[simp] theorem pTru_l (b : List PyData) (Q : Bool → Prop) : pTru (.d (.list b)) Q = Q (!b.isEmpty) := rfl
@[simp] theorem pTru_t (b : List PyData) (Q : Bool → Prop) : pTru (.d (.tuple b)) Q = Q (!b.isEmpty) := rfl
@[simp] theorem pB_lenL (xs : List PyData) (Q : D → Prop) : pB .len [.d (.list xs)] Q = Q (.d (.int xs.length)) := rfl
@[simp] theorem pB_lenT (xs : List PyData) (Q : D → Prop) : pB .len [.d (.tuple xs)] Q = Q (.d (.int xs.length)) := rfl
@[simp] theorem pB_lenS (z : Str) (Q : D → Prop) : pB .len [.d (.str z)] Q = (z.length ≤ 1000000 ∧ Q (.d (.int z.length))) := rfl
@[simp] theorem pB_tupL (xs : List PyData) (Q : D → Prop) : pB .tup [.d (.list xs)] Q = Q (.d (.tuple xs)) := rfl
@[simp] theorem pB_tupT (xs : List PyData) (Q : D → Prop) : pB .tup [.d (.tuple xs)] Q = Q (.d (.tuple xs)) := rfl
@[simp] theorem pB_lstL (xs : List PyData) (Q : D → Prop) : pB .lst [.d (.list xs)] Q = Q (.d (.list xs)) := rfl
@[simp] theorem pB_lstT (xs : List PyData) (Q : D → Prop) : pB .lst [.d (.tuple xs)] Q = Q (.d (.list xs)) := rfl
def allT (xs : List PyData) : Bool := xs.all tru
def AllB (xs : List PyData) : Prop := xs.all isB = true
@[simp] theorem pB_all (xs : List PyData) (Q : D → Prop) : pB .all [.d (.list xs)] Q = (AllB xs ∧ Q (.d (.bool (allT xs)))) := rfl
@[simp] theorem allT_map {α : Type} (g : α → Bool) (xs : List α) : allT (xs.map fun x => .bool (g x)) = xs.all g := by
  unfold allT; rw [List.all_map]; rfl
@[simp] theorem AllB_map {α : Type} (g : α → Bool) (xs : List α) : AllB (xs.map fun x => .bool (g x)) := by
  unfold AllB; rw [List.all_map]; simp [isB]
@[simp] theorem pB_srt (xs : List PyData) (Q : D → Prop) : pB .srt [.d (.list xs)] Q = (PySem.W.AllAlike xs ∧ PySem.W.SortableX xs ∧ (∀ x, x ∈ xs → x.depth ≤ 50) ∧ Q (.d (.list (xs.mergeSort dle)))) := rfl
@[simp] theorem pB_min (x : PyData) (xs : List PyData) (Q : D → Prop) : pB .min [.d (.list (x :: xs))] Q = (PySem.W.AlikeAll (x :: xs) ∧ PyData.depthAll (x :: xs) ≤ 50 ∧ Q (.d (PySem.W.minD x xs))) := rfl
@[simp] theorem pB_min2 (i j : Int) (Q : D → Prop) : pB .min2 [.d (.int i), .d (.int j)] Q = Q (.d (.int (if j < i then j else i))) := rfl
@[simp] theorem pB_max2 (i j : Int) (Q : D → Prop) : pB .max2 [.d (.int i), .d (.int j)] Q = Q (.d (.int (if j > i then j else i))) := rfl
@[simp] theorem pSl_l (xs : List PyData) (lo hi : Option Int) (Q : D → Prop) : pSl (.d (.list xs)) lo hi Q = Q (.d (.list (cutD xs lo hi))) := rfl
@[simp] theorem pSl_t (xs : List PyData) (lo hi : Option Int) (Q : D → Prop) : pSl (.d (.tuple xs)) lo hi Q = Q (.d (.tuple (cutD xs lo hi))) := rfl
@[simp] theorem pSl_s (z : Str) (lo hi : Option Int) (Q : D → Prop) : pSl (.d (.str z)) lo hi Q = (z.length ≤ 1000000 ∧ Q (.d (.str (cutS z lo hi)))) := rfl
@[simp] theorem pAug_a (i j : Int) (Q : Int → Prop) : pAug .add i j Q = Q (i + j) := rfl
@[simp] theorem pAug_m (i j : Int) (Q : Int → Prop) : pAug .mul i j Q = (CMul i j ∧ Q (i * j)) := rfl
@[simp] theorem pAug_x (i j : Int) (Q : Int → Prop) : pAug .xor i j Q = Q (Builtin.bitXor i j) := rfl
@[simp] theorem bind_nm (i : Nat) (x : PyData) : bindP (.nm i) x env = some (env.set i (.d x)) := by simp [bindP]
@[simp] theorem bind_tn (xs : List PyData) : bindP .nil (.tuple xs) env = bindPs .nil xs env := by simp [bindP]
@[simp] theorem bind_tc (p r : Pat) (xs : List PyData) : bindP (.cons p r) (.tuple xs) env = bindPs (.cons p r) xs env := by simp [bindP]
@[simp] theorem binds_n : bindPs .nil [] env = some env := by simp [bindPs]
@[simp] theorem binds_c (p r : Pat) (x : PyData) (xs : List PyData) {env1 : List S} (h : bindP p x env = some env1) : bindPs (.cons p r) (x :: xs) env = bindPs r xs env1 := by simp [bindPs, h]
@[simp] theorem slots_nm (i : Nat) : Pat.slots (.nm i) = [i] := rfl
@[simp] theorem slots_nil : Pat.slots .nil = [] := rfl
@[simp] theorem slots_cons (p r : Pat) : Pat.slots (.cons p r) = p.slots ++ r.slots := rfl
@[simp] theorem wipeE_nil : wipeE env [] = env := rfl
@[simp] theorem wipeE_cons (v : Nat) (vs : List Nat) : wipeE env (v :: vs) = (wipeE env vs).set v .no := rfl
/-! ### comprehensions and loops -/
/-- a comprehension without effects -/
theorem compL_pure {p : Pat} {tt : TDb Ω} {e : TD Ω} (t : PyData → Bool) (f : PyData → PyData) {Q : List PyData → Ω → Prop} : ∀ {xs acc : List PyData},
    (∀ x ∈ xs, ∃ env1, bindP p x env = some env1 ∧ (∀ R : Bool → Ω → Prop, R (t x) ω → tt (fun _ _ => False) env1 ω R) ∧ (t x = true → ∀ R : QD Ω, R (.d (f x)) ω → e (fun _ _ => False) env1 ω R)) →
    Q (acc ++ (xs.filter t).map f) ω → compL p tt e env xs acc ω Q
  | [], acc, _, q => by simpa using q
  | x :: xs, acc, h, q => by
    rw [compL_cons]
    obtain ⟨env1, e1, e2, e3⟩ := h x List.mem_cons_self
    rw [e1, someK_s]
    refine e2 _ ?_
    have h' := fun y hy => h y (List.mem_cons_of_mem _ hy)
    cases ht : t x with
    | true => exact e3 ht _ (compL_pure t f h' (by simpa [List.filter_cons, ht] using q))
    | false => exact compL_pure t f h' (by simpa [List.filter_cons, ht] using q)
theorem compL_map {p : Pat} {e : TD Ω} (f : PyData → PyData) {Q : List PyData → Ω → Prop} {xs acc : List PyData}
    (h : ∀ x ∈ xs, ∃ env1, bindP p x env = some env1 ∧ (∀ R : QD Ω, R (.d (f x)) ω → e (fun _ _ => False) env1 ω R)) (q : Q (acc ++ xs.map f) ω) : compL p dYes e env xs acc ω Q :=
  compL_pure (fun _ => true) f (fun x hx => by obtain ⟨e1, a, b⟩ := h x hx; exact ⟨e1, a, fun R r => r, fun _ => b⟩) (by rw [List.filter_eq_self.mpr (fun _ _ => rfl)]; exact q)
/-- a comprehension, by an invariant -/
theorem compL_ind {p : Pat} {t : TDb Ω} {e : TD Ω} {Q : List PyData → Ω → Prop} (I : List PyData → List PyData → Ω → Prop) (hn : ∀ acc ω, I [] acc ω → Q acc ω)
    (hs : ∀ x rest acc ω, (∀ acc' ω', I rest acc' ω' → compL p t e env rest acc' ω' Q) → I (x :: rest) acc ω → compL p t e env (x :: rest) acc ω Q) : ∀ xs acc ω, I xs acc ω → compL p t e env xs acc ω Q
  | [], acc, ω, h => hn acc ω h
  | x :: xs, acc, ω, h => hs x xs acc ω (fun acc' ω' => compL_ind I hn hs xs acc' ω') h
/-- a loop, by an invariant -/
theorem forL_ind {p : Pat} {b : TDs Ω} (I : List PyData → List S → Ω → Prop) (hn : ∀ env ω, I [] env ω → Dc.nx env ω)
    (hs : ∀ x rest env ω, (∀ env' ω', I rest env' ω' → forL p b E Dc rest env' ω') → I (x :: rest) env ω → forL p b E Dc (x :: rest) env ω) : ∀ xs env ω, I xs env ω → forL p b E Dc xs env ω
  | [], env, ω, h => hn env ω h
  | x :: xs, env, ω, h => hs x xs env ω (fun env' ω' => forL_ind I hn hs xs env' ω') h
/-- a def without effects -/
def spF (f : List D → Option PyData) : FSpec Ω := fun ds ω Q _ => ∃ r, f ds = some r ∧ Q (.d r) ω
end
end Q
namespace Q
open PySem PySem.Spec PyProof.Rows L2
/-! ### the core language, run -/
inductive Rs (α : Type) where
  | ok (a : α)
  | ex (c : Nat)
  | no
namespace Rs
def bind {α β : Type} : Rs α → (α → Rs β) → Rs β
  | .ok a, f => f a
  | .ex c, _ => .ex c
  | .no, _ => .no
/-- nothing is raised -/
def nx {α : Type} : Rs α → Rs α
  | .ok a => .ok a
  | _ => .no
def wp {α : Type} (r : Rs α) (E : Nat → Prop) (Q : α → Prop) : Prop := match r with
  | .ok a => Q a
  | .ex c => E c
  | .no => False
@[simp] theorem bind_ok {α β : Type} (a : α) (f : α → Rs β) : (Rs.ok a).bind f = f a := rfl
@[simp] theorem bind_ex {α β : Type} (c : Nat) (f : α → Rs β) : (Rs.ex c).bind f = .ex c := rfl
@[simp] theorem bind_no {α β : Type} (f : α → Rs β) : (Rs.no).bind f = .no := rfl
@[simp] theorem nx_ok {α : Type} (a : α) : (Rs.ok a).nx = .ok a := rfl
@[simp] theorem nx_ex {α : Type} (c : Nat) : (Rs.ex c : Rs α).nx = .no := rfl
@[simp] theorem nx_no {α : Type} : (Rs.no : Rs α).nx = .no := rfl
@[simp] theorem wp_ok {α : Type} (a : α) (E : Nat → Prop) (Q : α → Prop) : (Rs.ok a).wp E Q = Q a := rfl
@[simp] theorem wp_ex {α : Type} (c : Nat) (E : Nat → Prop) (Q : α → Prop) : (Rs.ex c : Rs α).wp E Q = E c := rfl
@[simp] theorem wp_no {α : Type} (E : Nat → Prop) (Q : α → Prop) : (Rs.no : Rs α).wp E Q = False := rfl
theorem wp_bind {α β : Type} {r : Rs α} {f : α → Rs β} {E : Nat → Prop} {Q : β → Prop} : (r.bind f).wp E Q = r.wp E fun a => (f a).wp E Q := by cases r <;> rfl
theorem wp_mono {α : Type} {r : Rs α} {E E' : Nat → Prop} {Q Q' : α → Prop} (h : r.wp E Q) (e : ∀ c, E c → E' c) (q : ∀ a, Q a → Q' a) : r.wp E' Q' := by
  cases r with
  | ok a => exact q _ h
  | ex c => exact e _ h
  | no => exact h
theorem wp_nx {α : Type} {r : Rs α} {E : Nat → Prop} {Q : α → Prop} (h : r.nx.wp E Q) : ∃ a, r = .ok a ∧ Q a := by
  cases r with
  | ok a => exact ⟨a, rfl, h⟩
  | ex c => exact h.elim
  | no => exact h.elim
@[simp] theorem bind_if {α β : Type} (p : Prop) [Decidable p] (a b : Rs α) (f : α → Rs β) : (if p then a else b).bind f = if p then a.bind f else b.bind f := by split <;> rfl
end Rs
def gd {α : Type} (b : Bool) (a : α) : Rs α := match b with
  | true => .ok a
  | false => .no
@[simp] theorem gd_t {α : Type} (a : α) : gd true a = .ok a := rfl
@[simp] theorem gd_f {α : Type} (a : α) : gd false a = .no := rfl
theorem gd_wp {α : Type} {b : Bool} {a : α} {E : Nat → Prop} {Q : α → Prop} (h : (gd b a).wp E Q) : b = true ∧ Q a := by
  cases b with
  | true => exact ⟨rfl, h⟩
  | false => exact h.elim
/-- not deeper than n -/
def sh (n : Nat) (x : PyData) : Bool := decide (x.depth ≤ n)
theorem depthAll_le {n : Nat} : ∀ {xs : List PyData}, PyData.depthAll xs ≤ n ↔ xs.all (sh n) = true
  | [] => by simp [PyData.depthAll]
  | x :: xs => by
    have ih := @depthAll_le n xs
    rw [PyData.depthAll, List.all_cons, Bool.and_eq_true, ← ih]
    simp only [sh, decide_eq_true_eq]
    omega
@[simp] theorem sh_int (n : Nat) (i : Int) : sh n (.int i) = true := by simp [sh, PyData.depth]
@[simp] theorem sh_bool (n : Nat) (i : Bool) : sh n (.bool i) = true := by simp [sh, PyData.depth]
@[simp] theorem sh_none (n : Nat) : sh n .none = true := by simp [sh, PyData.depth]
@[simp] theorem sh_str (n : Nat) (i : Str) : sh n (.str i) = true := by simp [sh, PyData.depth]
@[simp] theorem sh_tuple (n : Nat) (xs : List PyData) : sh (n + 1) (.tuple xs) = xs.all (sh n) := by
  have := @depthAll_le n xs
  rw [Bool.eq_iff_iff, ← this]
  simp [sh, PyData.depth]
@[simp] theorem sh_list (n : Nat) (xs : List PyData) : sh (n + 1) (.list xs) = xs.all (sh n) := by
  have := @depthAll_le n xs
  rw [Bool.eq_iff_iff, ← this]
  simp [sh, PyData.depth]
def lenOk (n : Nat) : Bool := decide (n ≤ 1000000)
def cmulB (i j : Int) : Bool := decide ((-(2 ^ 64) < i ∧ i < 2 ^ 64) ∨ (-(2 ^ 64) < j ∧ j < 2 ^ 64))
def ltOk (x y : PyData) : Bool := PySem.W.alike x y && !isNo x && (sh 60 x || sh 60 y)
def optR {α : Type} : Option α → (α → D) → Rs D
  | some a, f => .ok (f a)
  | none, _ => .no
@[simp] theorem optR_s {α : Type} (a : α) (f : α → D) : optR (some a) f = .ok (f a) := rfl
@[simp] theorem optR_n {α : Type} (f : α → D) : optR none f = .no := rfl
def f2 : Op2 → D → D → Rs D
  | .add, .d (.int i), .d (.int j) => .ok (.d (.int (i + j)))
  | .add, .d (.tuple xs), .d (.tuple ys) => gd (lenOk (xs.length + ys.length)) (.d (.tuple (xs ++ ys)))
  | .add, .d (.list xs), .d (.list ys) => gd (lenOk (xs.length + ys.length)) (.d (.list (xs ++ ys)))
  | .add, .d (.str s), .d (.str t) => gd (lenOk (s.length + t.length)) (.d (.str (s ++ t)))
  | .addO, .d (.list xs), .d (.list ys) => gd (lenOk (xs.length + ys.length)) (.own false (xs ++ ys))
  | .sub, .d (.int i), .d (.int j) => .ok (.d (.int (i - j)))
  | .mul, .d (.int i), .d (.int j) => gd (cmulB i j) (.d (.int (i * j)))
  | .mul, .d (.tuple xs), .d (.int k) => gd (!xs.isEmpty && decide (2 ≤ k) && decide (k ≤ 1000) && decide (xs.length ≤ 1000)) (.d (.tuple (List.replicate k.toNat xs).flatten))
  | .mul, .d (.list xs), .d (.int k) => gd (decide (0 ≤ k) && decide (k ≤ 1000) && decide (xs.length ≤ 1000)) (.d (.list (List.replicate k.toNat xs).flatten))
  | .mod, .d (.int i), .d (.int j) => gd (decide (0 < j)) (.d (.int (i % j)))
  | .fdiv, .d (.int i), .d (.int j) => gd (decide (0 < j) && decide (j < 1073741824)) (.d (.int (i / j)))
  | .band, .d (.int i), .d (.int j) => .ok (.d (.int (Builtin.bitAnd i j)))
  | .bxor, .d (.int i), .d (.int j) => .ok (.d (.int (Builtin.bitXor i j)))
  | .eq, .d x, .d y => gd (sh 60 x || sh 60 y) (.d (.bool (PyData.eqv x y)))
  | .ne, .d x, .d y => gd (sh 60 x || sh 60 y) (.d (.bool (!PyData.eqv x y)))
  | .eq, .fd xs, .own true [] => .ok (.d (.bool xs.isEmpty))
  | .ne, .fd xs, .own true [] => .ok (.d (.bool (!xs.isEmpty)))
  | .lt, .d (.int i), .d (.int j) => .ok (.d (.bool (decide (i < j))))
  | .le, .d (.int i), .d (.int j) => .ok (.d (.bool (decide (i ≤ j))))
  | .gt, .d (.int i), .d (.int j) => .ok (.d (.bool (decide (j < i))))
  | .ge, .d (.int i), .d (.int j) => .ok (.d (.bool (decide (j ≤ i))))
  | .lt, .d (.tuple x), .d (.tuple y) => gd (ltOk (.tuple x) (.tuple y)) (.d (.bool (PySem.W.dataLt (.tuple x) (.tuple y))))
  | .isin, .d x, .d (.list xs) => gd (sh 60 x || xs.all (sh 60)) (.d (.bool (memD x xs)))
  | .isin, .d x, .d (.tuple xs) => gd (sh 60 x || xs.all (sh 60)) (.d (.bool (memD x xs)))
  | .notin, .d x, .d (.list xs) => gd (sh 60 x || xs.all (sh 60)) (.d (.bool (!memD x xs)))
  | .notin, .d x, .d (.tuple xs) => gd (sh 60 x || xs.all (sh 60)) (.d (.bool (!memD x xs)))
  | .ix, .d (.list xs), .d (.int i) => optR (atI xs i) .d
  | .ix, .d (.tuple xs), .d (.int i) => optR (atI xs i) .d
  | _, _, _ => .no
theorem or_sh {x y : PyData} (h : (sh 60 x || sh 60 y) = true) : cEq x y := by
  simp only [sh, Bool.or_eq_true, decide_eq_true_eq] at h
  simp only [cEq]; omega
theorem or_shA {x : PyData} {xs : List PyData} (h : (sh 60 x || xs.all (sh 60)) = true) : min (PyData.depthAll xs) x.depth ≤ 60 := by
  rw [Bool.or_eq_true, ← depthAll_le] at h
  simp only [sh, decide_eq_true_eq] at h
  omega
theorem optR_wp {α : Type} {o : Option α} {f : α → D} {E : Nat → Prop} {Q : D → Prop} (h : (optR o f).wp E Q) : ∃ a, o = some a ∧ Q (f a) := by
  cases o with
  | some a => exact ⟨a, rfl, h⟩
  | none => exact h.elim
theorem f2_ok {o : Op2} {x y : D} {E : Nat → Prop} {Q : D → Prop} (h : (f2 o x y).wp E Q) : p2 o x y Q := by
  unfold f2 at h
  split at h
  all_goals first
    | exact h.elim
    | exact h
    | exact optR_wp h
    | (obtain ⟨h1, h2⟩ := gd_wp h; exact ⟨or_sh h1, h2⟩)
    | (obtain ⟨h1, h2⟩ := gd_wp h; exact ⟨or_shA h1, h2⟩)
    | (obtain ⟨h1, h2⟩ := gd_wp h; exact ⟨of_decide_eq_true h1, h2⟩)
    | (obtain ⟨h1, h2⟩ := gd_wp h; simp only [Bool.and_eq_true, decide_eq_true_eq] at h1; exact ⟨h1, h2⟩)
    | (obtain ⟨h1, h2⟩ := gd_wp h; simp only [Bool.and_eq_true, decide_eq_true_eq] at h1; exact ⟨h1.1.1, h1.1.2, h1.2, h2⟩)
    | (obtain ⟨h1, h2⟩ := gd_wp h; simp only [Bool.and_eq_true, decide_eq_true_eq] at h1; exact ⟨by simpa using h1.1.1.1, h1.1.1.2, h1.1.2, h1.2, h2⟩)
    | (obtain ⟨h1, h2⟩ := gd_wp h; simp only [cmulB, decide_eq_true_eq] at h1; exact ⟨h1, h2⟩)
    | (obtain ⟨h1, h2⟩ := gd_wp h; simp only [lenOk, decide_eq_true_eq] at h1; exact ⟨h1, h2⟩)
    | (obtain ⟨h1, h2⟩ := gd_wp h; simp only [ltOk, Bool.and_eq_true] at h1; exact ⟨⟨h1.1.1, by simp, or_sh h1.2⟩, h2⟩)
def f1 : Op1 → D → Rs D
  | .neg, .d (.int i) => .ok (.d (.int (-i)))
  | .inv, .d (.int i) => .ok (.d (.int (Builtin.bitNot i)))
  | _, _ => .no
theorem f1_ok {o : Op1} {x : D} {E : Nat → Prop} {Q : D → Prop} (h : (f1 o x).wp E Q) : p1 o x Q := by
  unfold f1 at h
  split at h <;> first | exact h | exact h.elim
def fTru : D → Rs Bool
  | .d .none => .ok false
  | .d (.bool b) => .ok b
  | .d (.int i) => .ok (i != 0)
  | .d (.list xs) => .ok (!xs.isEmpty)
  | .d (.tuple xs) => .ok (!xs.isEmpty)
  | _ => .no
theorem fTru_ok {x : D} {E : Nat → Prop} {Q : Bool → Prop} (h : (fTru x).wp E Q) : pTru x Q := by
  unfold fTru at h
  split at h <;> first | exact h | exact h.elim
def isTup : PyData → Bool
  | .tuple _ => true
  | _ => false
def alB (xs : List PyData) : Bool := xs.all fun x => xs.all fun y => PySem.W.alike x y
def srtB (xs : List PyData) : Bool := alB xs && (xs.all isTup || xs.all fun d => !isNo d && !isTup d) && xs.all (sh 50)
def minB (xs : List PyData) : Bool := alB xs && (xs.all fun d => !isNo d) && xs.all (sh 50)
theorem isNo_ne {d : PyData} (h : isNo d = false) : d ≠ .none := fun e => by rw [e] at h; cases h
theorem alB_ok {xs : List PyData} (h : alB xs = true) : PySem.W.AllAlike xs := fun d hd d' hd' => List.all_eq_true.mp (List.all_eq_true.mp h d hd) d' hd'
theorem srtB_ok {xs : List PyData} (h : srtB xs = true) : PySem.W.AllAlike xs ∧ PySem.W.SortableX xs ∧ ∀ x, x ∈ xs → x.depth ≤ 50 := by
  simp only [srtB, Bool.and_eq_true] at h
  refine ⟨alB_ok h.1.1, ?_, fun x hx => of_decide_eq_true (List.all_eq_true.mp h.2 x hx)⟩
  rcases Bool.or_eq_true_iff.mp h.1.2 with z | z
  · refine .inl fun d hd => ?_
    have := List.all_eq_true.mp z d hd
    cases d <;> first | exact ⟨_, rfl⟩ | cases this
  · refine .inr fun d hd => ?_
    have q := List.all_eq_true.mp z d hd
    simp only [Bool.and_eq_true, Bool.not_eq_true'] at q
    exact ⟨isNo_ne q.1, fun xs e => by rw [e] at q; cases q.2⟩
theorem minB_ok {xs : List PyData} (h : minB xs = true) : PySem.W.AlikeAll xs ∧ PyData.depthAll xs ≤ 50 := by
  simp only [minB, Bool.and_eq_true] at h
  refine ⟨⟨fun x hx y hy => alB_ok h.1.1 x hx y hy, fun x hx => ?_⟩, depthAll_le.mpr h.2⟩
  have q := List.all_eq_true.mp h.1.2 x hx
  exact isNo_ne (by simpa using q)
def fBl : Blt → List D → Rs D
  | .len, [.d (.list xs)] => .ok (.d (.int xs.length))
  | .len, [.d (.tuple xs)] => .ok (.d (.int xs.length))
  | .len, [.d (.str z)] => gd (lenOk z.length) (.d (.int z.length))
  | .tup, [.d (.list xs)] => .ok (.d (.tuple xs))
  | .tup, [.d (.tuple xs)] => .ok (.d (.tuple xs))
  | .lst, [.d (.list xs)] => .ok (.d (.list xs))
  | .lst, [.d (.tuple xs)] => .ok (.d (.list xs))
  | .lst, [.fd xs] => .ok (.d (.list xs))
  | .all, [.d (.list xs)] => gd (xs.all isB) (.d (.bool (xs.all tru)))
  | .srt, [.d (.list xs)] => gd (srtB xs) (.d (.list (xs.mergeSort dle)))
  | .srt, [.d (.tuple xs)] => gd (srtB xs) (.d (.list (xs.mergeSort dle)))
  | .min, [.d (.list (x :: xs))] => gd (minB (x :: xs)) (.d (PySem.W.minD x xs))
  | .min2, [.d (.int i), .d (.int j)] => .ok (.d (.int (if j < i then j else i)))
  | .max2, [.d (.int i), .d (.int j)] => .ok (.d (.int (if j > i then j else i)))
  | _, _ => .no
theorem fBl_ok {b : Blt} {ds : List D} {E : Nat → Prop} {Q : D → Prop} (h : (fBl b ds).wp E Q) : pB b ds Q := by
  unfold fBl at h
  split at h
  all_goals first
    | exact h.elim
    | exact h
    | (obtain ⟨h1, h2⟩ := gd_wp h; exact ⟨of_decide_eq_true h1, h2⟩)
    | (obtain ⟨h1, h2⟩ := gd_wp h; exact ⟨h1, h2⟩)
    | (obtain ⟨h1, h2⟩ := gd_wp h; have q := srtB_ok h1; exact ⟨q.1, q.2.1, q.2.2, h2⟩)
    | (obtain ⟨h1, h2⟩ := gd_wp h; have q := minB_ok h1; exact ⟨q.1, q.2, h2⟩)
def fSl : D → Option Int → Option Int → Rs D
  | .d (.list xs), lo, hi => .ok (.d (.list (cutD xs lo hi)))
  | .d (.tuple xs), lo, hi => .ok (.d (.tuple (cutD xs lo hi)))
  | .d (.str z), lo, hi => gd (lenOk z.length) (.d (.str (cutS z lo hi)))
  | _, _, _ => .no
theorem fSl_ok {x : D} {lo hi : Option Int} {E : Nat → Prop} {Q : D → Prop} (h : (fSl x lo hi).wp E Q) : pSl x lo hi Q := by
  unfold fSl at h
  split at h
  all_goals first
    | exact h.elim
    | exact h
    | (obtain ⟨h1, h2⟩ := gd_wp h; exact ⟨of_decide_eq_true h1, h2⟩)
def fSrtSet : Option (List Int) → Rs D
  | some ns => gd (decide (ns.length ≤ 4000) && decide ((QSe.srtI ns).length < 64)) (.d (.list ((QSe.srtI ns).map .int)))
  | none => .no
def fLenSet : Option (List Int) → Rs D
  | some ns => gd (decide (ns.length ≤ 4000)) (.d (.int (QSe.srtI ns).length))
  | none => .no
theorem fSrtSet_ok {o : Option (List Int)} {E : Nat → Prop} {Q : D → Prop} (h : (fSrtSet o).wp E Q) : ∃ ns, o = some ns ∧ ns.length ≤ 4000 ∧ (QSe.srtI ns).length < 64 ∧ Q (.d (.list ((QSe.srtI ns).map .int))) := by
  cases o with
  | none => exact h.elim
  | some ns =>
    obtain ⟨h1, h2⟩ := gd_wp h
    simp only [Bool.and_eq_true, decide_eq_true_eq] at h1
    exact ⟨ns, rfl, h1.1, h1.2, h2⟩
theorem fLenSet_ok {o : Option (List Int)} {E : Nat → Prop} {Q : D → Prop} (h : (fLenSet o).wp E Q) : ∃ ns, o = some ns ∧ ns.length ≤ 4000 ∧ Q (.d (.int (QSe.srtI ns).length)) := by
  cases o with
  | none => exact h.elim
  | some ns =>
    obtain ⟨h1, h2⟩ := gd_wp h
    simp only [decide_eq_true_eq] at h1
    exact ⟨ns, rfl, h1, h2⟩
def fRev : D → Rs D
  | .d (.list xs) => .ok (.d (.list xs.reverse))
  | .d (.tuple xs) => .ok (.d (.tuple xs.reverse))
  | _ => .no
theorem fRev_ok {x : D} {E : Nat → Prop} {Q : D → Prop} (h : (fRev x).wp E Q) : pRev x Q := by
  unfold fRev at h
  split at h
  · exact h
  · exact h
  · exact h.elim
def fBB : BB → D → Rs D
  | .lstEnum, .d (.tuple xs) => .ok (.d (.list (enumD xs)))
  | .lstRng, .d (.int n) => gd (decide (n ≤ 100000) && decide (-100000 ≤ n)) (.d (.list (rngD 0 n.toNat)))
  | .tupRng, .d (.int n) => gd (decide (n ≤ 100000) && decide (-100000 ≤ n)) (.d (.tuple (rngD 0 n.toNat)))
  | .srtSet, .d (.list xs) => fSrtSet (intsOf xs)
  | .srtSet, .d (.tuple xs) => fSrtSet (intsOf xs)
  | .lenSet, .d (.list xs) => fLenSet (intsOf xs)
  | .lenSet, .d (.tuple xs) => fLenSet (intsOf xs)
  | _, _ => .no
theorem fBB_ok {b : BB} {x : D} {E : Nat → Prop} {Q : D → Prop} (h : (fBB b x).wp E Q) : pBB b x Q := by
  unfold fBB at h
  split at h
  all_goals first
    | exact h.elim
    | exact h
    | exact fSrtSet_ok h
    | exact fLenSet_ok h
    | (obtain ⟨h1, h2⟩ := gd_wp h; simp only [Bool.and_eq_true, decide_eq_true_eq] at h1; exact ⟨h1, h2⟩)
abbrev Fn := List D → Rs D
abbrev Tab := List (Nat × Nat × Fn)
structure Ev where
  e : List S → Rs D
  b : List S → Rs Bool
  a : List S → Rs (List D)
  i : List S → Rs (List PyData)
  o : List S → Rs (Option Int)
def fSeq : D → Rs (List PyData)
  | .d (.list xs) => .ok xs
  | .d (.tuple xs) => .ok xs
  | .fd xs => .ok xs
  | _ => .no
def fOne : D → Rs D
  | .d x => gd (keyD x).isSome (.own true [x])
  | _ => .no
def fKs : Option (List PyData) → Rs D
  | some ks => .ok (.fd (putsD [] ks))
  | none => .no
def fDof : D → Rs D
  | .d (.list xs) => fKs (pairKs xs)
  | _ => .no
def fEnum : D → Rs (List PyData)
  | .d (.list xs) => .ok (enumD xs)
  | .d (.tuple xs) => .ok (enumD xs)
  | _ => .no
def fInt : D → Rs Int
  | .d (.int i) => .ok i
  | _ => .no
def fDat : D → Rs PyData
  | .d x => .ok x
  | _ => .no
def fBool : D → Rs Bool
  | .d (.bool b) => .ok b
  | _ => .no
def fSlot : Option S → Rs D
  | some (.d x) => .ok (.d x)
  | some (.r v) => .ok (.r v)
  | some (.fd xs) => .ok (.fd xs)
  | _ => .no
def fDats (ds : List D) : Rs (List PyData) := match dats ds with
  | some xs => gd (lenOk xs.length) xs
  | none => .no
def fRng : D → Rs (List PyData)
  | .d (.int n) => gd (decide (n ≤ 1000000) && decide (-1000000 ≤ n)) (rngD 0 n.toNat)
  | _ => .no
def fRng2 : D → D → Rs (List PyData)
  | .d (.int m), .d (.int n) => gd (decide (n ≤ 1000000) && decide (-1000000 ≤ n) && decide (m ≤ 1000000) && decide (0 ≤ m)) (rngD m (n - m).toNat)
  | _, _ => .no
def fZip : D → D → Rs (List PyData)
  | .d (.list xs), .d (.list ys) => .ok (zipD xs ys)
  | .d (.tuple xs), .d (.tuple ys) => .ok (zipD xs ys)
  | _, _ => .no
def fNone (neg : Bool) : D → Rs D
  | .d x => .ok (.d (.bool (if isNo x = true then !neg else neg)))
  | _ => .no
def fIsa (T : Ty) : D → Rs D
  | .d y => .ok (.d (.bool (isaT T y)))
  | _ => .no
@[reducible] def evE (f : List S → Rs D) : Ev := ⟨f, fun env => (f env).bind fTru, fun _ => .no, fun env => (f env).bind fSeq, fun env => (f env).bind fun x => (fInt x).bind fun i => .ok (some i)⟩
/-- a comprehension -/
def cmpL (p : Pat) (t : List S → Rs Bool) (e : List S → Rs D) (env : List S) : List PyData → Rs (List PyData)
  | [] => .ok []
  | x :: xs => match bindP p x env with
    | some env1 => (t env1).nx.bind fun b => match b with
      | true => (e env1).nx.bind fun y => (fDat y).bind fun z => (cmpL p t e env xs).bind fun zs => .ok (z :: zs)
      | false => cmpL p t e env xs
    | none => .no
/-- the numbers of the program, the names of its errors -/
def uC : List Int := [6, 8]
def uN (c : Nat) : Option Str := match c with
  | 1 => some "task" | 2 => some "messages" | 3 => some "code" | 4 => some "known" | 5 => some "receiver" | 6 => some "division" | 7 => some "number" | 8 => some "sum" | 9 => some "text" | 10 => some "many" | 11 => some "undo"
  | _ => none
def fLam : Rs D → Rs D
  | .ok (.d x) => .ok (.d (.tuple [.str "returns", x]))
  | .ex c => match uN c with
    | some z => .ok (.d (.tuple [.str z]))
    | none => .no
  | _ => .no
def fApp (m : Nat) (F : Fn) (ds : List D) : Rs D := if noOwn ds = true ∧ ds.length = m then F ds else .no
def fCall (T : Tab) (k : Nat) (r : Rs (List D)) : Rs D := match T.lookup k with
  | some mF => r.bind (fApp mF.1 mF.2)
  | none => .no
def fCallK (T : Tab) (k n : Nat) (r r' : Rs (List D)) : Rs D := match T.lookup k with
  | some mF => r.bind fun ds => if ds.length = n then r'.bind fun es => fApp mF.1 mF.2 (ds ++ es) else .no
  | none => .no
def ev (T : Tab) : CE → Ev
  | .var i => evE fun env => fSlot env[i]?
  | .con x => evE fun _ => .ok (.d x)
  | .glo k => evE fun _ => match uC[k]? with
    | some i => .ok (.d (.int i))
    | none => .no
  | .tup a => evE fun env => ((ev T a).a env).bind fun ds => (fDats ds).bind fun xs => .ok (.d (.tuple xs))
  | .lst o a => evE fun env => ((ev T a).a env).bind fun ds => (fDats ds).bind fun xs => .ok (if o = true then .own false xs else .d (.list xs))
  | .bin o a b => evE fun env => ((ev T a).e env).bind fun x => ((ev T b).e env).bind fun y => f2 o x y
  | .un o a => evE fun env => ((ev T a).e env).bind (f1 o)
  | .chain o o' a b c => evE fun env => ((ev T a).e env).bind fun x => ((ev T b).e env).bind fun y => (f2 o x y).bind fun d => (fBool d).bind fun q => match q with
    | true => ((ev T c).e env).bind fun z => f2 o' y z
    | false => .ok (.d (.bool false))
  | .isN n a => evE fun env => ((ev T a).e env).bind (fNone n)
  | .and a b => ⟨fun env => ((ev T a).e env).bind fun x => (fBool x).bind fun q => match q with | true => (ev T b).e env | false => .ok (.d (.bool false)), fun env => ((ev T a).b env).bind fun q => match q with | true => (ev T b).b env | false => .ok false, fun _ => .no, fun _ => .no, fun _ => .no⟩
  | .or a b => ⟨fun env => ((ev T a).e env).bind fun x => (fBool x).bind fun q => match q with | true => .ok (.d (.bool true)) | false => (ev T b).e env, fun env => ((ev T a).b env).bind fun q => match q with | true => .ok true | false => (ev T b).b env, fun _ => .no, fun _ => .no, fun _ => .no⟩
  | .not a => ⟨fun env => ((ev T a).e env).bind fun x => (fBool x).bind fun q => .ok (.d (.bool (!q))), fun env => ((ev T a).b env).bind fun q => .ok (!q), fun _ => .no, fun _ => .no, fun _ => .no⟩
  | .ite t a b => evE fun env => ((ev T t).b env).bind fun q => match q with | true => (ev T a).e env | false => (ev T b).e env
  | .sl a lo hi => evE fun env => ((ev T a).e env).bind fun x => ((ev T lo).o env).bind fun l => ((ev T hi).o env).bind fun u => fSl x l u
  | .no => ⟨fun _ => .no, fun _ => .no, fun _ => .no, fun _ => .no, fun _ => .ok none⟩
  | .blt b a => evE fun env => ((ev T a).a env).bind (fBl b)
  | .isa t a => evE fun env => ((ev T a).e env).bind (fIsa t)
  | .call k a => evE fun env => fCall T k ((ev T a).a env)
  | .callK k n a b => evE fun env => fCallK T k n ((ev T a).a env) ((ev T b).a env)
  | .comp o it p t e => evE fun env => ((ev T it).i env).bind fun xs => (cmpL p (ev T t).b (ev T e).e (wipeE env p.slots) xs).bind fun zs => .ok (if o = true then .own false zs else .d (.list zs))
  | .yes => ⟨fun _ => .no, fun _ => .ok true, fun _ => .no, fun _ => .no, fun _ => .no⟩
  | .nil => ⟨fun _ => .no, fun _ => .no, fun _ => .ok [], fun _ => .no, fun _ => .no⟩
  | .cons a r => ⟨fun _ => .no, fun _ => .no, fun env => ((ev T a).e env).bind fun x => ((ev T r).a env).bind fun xs => .ok (x :: xs), fun _ => .no, fun _ => .no⟩
  | .rng1 a => ⟨fun _ => .no, fun _ => .no, fun _ => .no, fun env => ((ev T a).e env).bind fRng, fun _ => .no⟩
  | .rng2 a b => ⟨fun _ => .no, fun _ => .no, fun _ => .no, fun env => ((ev T a).e env).bind fun x => ((ev T b).e env).bind fun y => fRng2 x y, fun _ => .no⟩
  | .zip a b => ⟨fun _ => .no, fun _ => .no, fun _ => .no, fun env => ((ev T a).e env).bind fun x => ((ev T b).e env).bind fun y => fZip x y, fun _ => .no⟩
  | .lam e => evE fun env => fLam ((ev T e).e env)
  | .bb b a => evE fun env => ((ev T a).e env).bind (fBB b)
  | .rev a => evE fun env => ((ev T a).e env).bind fRev
  | .dnew => evE fun env => .ok (.own true [])
  | .done a => evE fun env => ((ev T a).e env).bind fOne
  | .dof a => evE fun env => ((ev T a).e env).bind fDof
  | .enum a => ⟨fun _ => .no, fun _ => .no, fun _ => .no, fun env => ((ev T a).e env).bind fEnum, fun _ => .no⟩
/-! ### what is run is a reading -/
section
variable {Ω : Type} {δ : Den Ω} {T : Tab}
/-- a def by what it computes -/
def spR (F : Fn) : FSpec Ω := fun ds ω Q E => (F ds).wp (fun c => E c ω) fun d => Q d ω
structure TabOk (δ : Den Ω) (T : Tab) : Prop where
  fns : ∀ k m F, T.lookup k = some (m, F) → ∃ sp, δ.fns k = some (m, sp) ∧ ∀ ds ω Q E, spR F ds ω Q E → sp ds ω Q E
  cns : δ.cns = uC
  nm : ∀ c, δ.nm c = uN c
structure EvOk (δ : Den Ω) (T : Tab) (c : CE) : Prop where
  e : ∀ E env ω Q, ((ev T c).e env).wp (fun x => E x ω) (fun d => Q d ω) → (den δ c).e E env ω Q
  b : ∀ E env ω Q, ((ev T c).b env).wp (fun x => E x ω) (fun d => Q d ω) → (den δ c).b E env ω Q
  a : ∀ E env ω Q, ((ev T c).a env).wp (fun x => E x ω) (fun d => Q d ω) → (den δ c).a E env ω Q
  i : ∀ E env ω Q, ((ev T c).i env).wp (fun x => E x ω) (fun d => Q d ω) → (den δ c).i E env ω Q
  o : ∀ E env ω Q, ((ev T c).o env).wp (fun x => E x ω) (fun d => Q d ω) → (den δ c).o E env ω Q
theorem wpb {α β : Type} {r : Rs α} {f : α → Rs β} {E : Nat → Prop} {Q : β → Prop} (h : (r.bind f).wp E Q) : r.wp E fun a => (f a).wp E Q := by rw [← Rs.wp_bind]; exact h
theorem wm {α β : Type} {r : Rs α} {f : α → Rs β} {E : Nat → Prop} {Q : β → Prop} {Q' : α → Prop} (h : (r.bind f).wp E Q) (q : ∀ a, (f a).wp E Q → Q' a) : r.wp E Q' := Rs.wp_mono (wpb h) (fun _ z => z) q
theorem no_e {p : Prop} {α : Type} {E : Nat → Prop} {Q : α → Prop} (h : (Rs.no : Rs α).wp E Q) : p := h.elim
theorem fSeq_ok {x : D} {E : Nat → Prop} {Q : List PyData → Prop} (h : (fSeq x).wp E Q) : seqK x Q := by
  unfold fSeq at h
  split at h <;> first | exact h | exact h.elim
theorem fInt_ok {x : D} {E : Nat → Prop} {Q : Int → Prop} (h : (fInt x).wp E Q) : intK x Q := by
  unfold fInt at h
  split at h <;> first | exact h | exact h.elim
theorem fDat_ok {x : D} {E : Nat → Prop} {Q : PyData → Prop} (h : (fDat x).wp E Q) : datK x Q := by
  unfold fDat at h
  split at h <;> first | exact h | exact h.elim
theorem fBool_ok {x : D} {E : Nat → Prop} {Q : Bool → Prop} (h : (fBool x).wp E Q) : boolK x (Q true) (Q false) := by
  unfold fBool at h
  split at h
  · rw [boolK_b]
    next b => cases b <;> exact h
  · exact h.elim
theorem fSlot_ok {s : Option S} {E : Nat → Prop} {Q : D → Prop} (h : (fSlot s).wp E Q) : slotK s Q := by
  unfold fSlot at h
  split at h <;> first | exact h | exact h.elim
theorem fDats_ok {ds : List D} {E : Nat → Prop} {Q : List PyData → Prop} (h : (fDats ds).wp E Q) : datsK ds Q := by
  unfold fDats at h
  unfold datsK
  cases e : dats ds with
  | none => rw [e] at h; exact h.elim
  | some xs =>
    rw [e] at h
    obtain ⟨h1, h2⟩ := gd_wp h
    exact ⟨of_decide_eq_true h1, h2⟩
/-- a plain expression -/
theorem ev_plain {c : CE} {f : List S → Rs D} {t : TD Ω} (hc : ev T c = evE f) (hd : den δ c = mkE t) (h : ∀ E env ω Q, (f env).wp (fun x => E x ω) (fun d => Q d ω) → t E env ω Q) : EvOk δ T c := by
  refine ⟨?_, ?_, ?_, ?_, ?_⟩ <;> rw [hc, hd]
  · exact h
  · exact fun E env ω Q q => h E env ω _ (wm q fun a z => fTru_ok z)
  · exact fun E env ω Q q => no_e q
  · exact fun E env ω Q q => h E env ω _ (wm q fun a z => fSeq_ok z)
  · exact fun E env ω Q q => h E env ω _ (wm q fun a z => fInt_ok (wm z fun a z => z))
theorem cmpL_ok {p : Pat} {t : List S → Rs Bool} {e : List S → Rs D} {tt : TDb Ω} {te : TD Ω} {env : List S} {ω : Ω} (ht : ∀ E env Q, (t env).wp (fun x => E x ω) (fun d => Q d ω) → tt E env ω Q) (he : ∀ E env Q, (e env).wp (fun x => E x ω) (fun d => Q d ω) → te E env ω Q) {Q : List PyData → Ω → Prop} {X : Nat → Prop} :
    ∀ (xs acc : List PyData), (cmpL p t e env xs).wp X (fun zs => Q (acc ++ zs) ω) → compL p tt te env xs acc ω Q
  | [], acc, h => by
    simp only [cmpL, Rs.wp_ok, List.append_nil] at h
    exact h
  | x :: xs, acc, h => by
    rw [compL_cons]
    simp only [cmpL] at h
    cases e0 : bindP p x env with
    | none => rw [e0] at h; exact h.elim
    | some env1 =>
      rw [e0] at h
      simp only at h
      obtain ⟨b, eb, h⟩ := Rs.wp_nx (wpb h)
      rw [someK_s]
      refine ht _ _ _ ?_
      rw [eb, Rs.wp_ok, ifK_b]
      cases b with
      | false => exact cmpL_ok ht he xs acc h
      | true =>
        rw [if_pos rfl]
        obtain ⟨y, ey, h⟩ := Rs.wp_nx (wpb h)
        refine he _ _ _ ?_
        rw [ey, Rs.wp_ok]
        refine fDat_ok (wm h fun z hz => ?_)
        refine cmpL_ok ht he xs (acc ++ [z]) (wm hz fun zs q => ?_)
        rw [List.append_assoc]
        exact q
theorem fApp_ok {m : Nat} {F : Fn} {ds : List D} {E : Nat → Prop} {Q : D → Prop} (h : (fApp m F ds).wp E Q) : noOwn ds = true ∧ ds.length = m ∧ (F ds).wp E Q := by
  unfold fApp at h
  split at h
  · next c => exact ⟨c.1, c.2, h⟩
  · exact h.elim
theorem fLam_ok {r : Rs D} {Q : D → Prop} {E : Nat → Prop} (h : (fLam r).wp E Q) : r.wp (fun c => ∃ z, uN c = some z ∧ Q (.d (.tuple [.str z]))) fun d => ∃ x, d = .d x ∧ Q (.d (.tuple [.str "returns", x])) := by
  unfold fLam at h
  split at h
  · exact ⟨_, rfl, h⟩
  · split at h
    · next z e => exact ⟨z, e, h⟩
    · exact h.elim
  · exact h.elim
theorem fOne_ok {x : D} {E : Nat → Prop} {Q : D → Prop} (h : (fOne x).wp E Q) : keyK x fun y => Q (.own true [y]) := by
  unfold fOne at h
  split at h
  · exact gd_wp h
  · exact h.elim
theorem fDof_ok {x : D} {E : Nat → Prop} {Q : D → Prop} (h : (fDof x).wp E Q) : dOfK x Q := by
  unfold fDof at h
  split at h
  · rename_i xs
    show ∃ ks, pairKs xs = some ks ∧ Q (.fd (putsD [] ks))
    cases e : pairKs xs with
    | none => rw [e] at h; exact h.elim
    | some ks => rw [e] at h; exact ⟨ks, rfl, h⟩
  · exact h.elim
theorem ev_ok (hT : TabOk δ T) : ∀ c : CE, EvOk δ T c
  | .var i => ev_plain rfl rfl fun E env ω Q h => by rw [dVar_k]; exact fSlot_ok h
  | .con x => ev_plain rfl rfl fun E env ω Q h => h
  | .glo k => ev_plain rfl rfl fun E env ω Q h => by
    unfold dGlo
    rw [hT.cns]
    cases e : uC[k]? with
    | none => rw [e] at h; exact h.elim
    | some i => rw [e] at h; exact h
  | .tup a => ev_plain rfl rfl fun E env ω Q h => by
    rw [dTup_k]
    exact (ev_ok hT a).a _ _ _ _ (wm h fun ds z => fDats_ok (wm z fun _ z => z))
  | .lst o a => ev_plain rfl rfl fun E env ω Q h => by
    rw [dLst_k]
    exact (ev_ok hT a).a _ _ _ _ (wm h fun ds z => fDats_ok (wm z fun _ z => z))
  | .bin o a b => ev_plain rfl rfl fun E env ω Q h => (ev_ok hT a).e _ _ _ _ (wm h fun x z => (ev_ok hT b).e _ _ _ _ (wm z fun y z => f2_ok z))
  | .un o a => ev_plain rfl rfl fun E env ω Q h => (ev_ok hT a).e _ _ _ _ (wm h fun x z => f1_ok z)
  | .chain o o' a b c => ev_plain rfl rfl fun E env ω Q h => by
    rw [dChain_k]
    refine (ev_ok hT a).e _ _ _ _ (wm h fun x z => (ev_ok hT b).e _ _ _ _ (wm z fun y z => f2_ok (E := fun x => E x ω) (wm z fun d z => ?_)))
    have q := fBool_ok (wpb z)
    unfold boolK at q ⊢
    split
    · exact (ev_ok hT c).e _ _ _ _ (wm q fun y z => f2_ok z)
    · exact q
    · split at q <;> simp_all
  | .isN n a => ev_plain rfl rfl fun E env ω Q h => by
    rw [dIsN_k]
    refine (ev_ok hT a).e _ _ _ _ (wm h fun x z => ?_)
    cases x with
    | d x => rw [nonK_d]; exact z
    | _ => exact no_e z
  | .and a b => by
    refine ⟨fun E env ω Q h => ?_, fun E env ω Q h => ?_, fun _ _ _ _ h => no_e h, fun _ _ _ _ h => no_e h, fun _ _ _ _ h => no_e h⟩
    · show dAndV _ _ E env ω Q
      rw [dAndV_k]
      refine (ev_ok hT a).e _ _ _ _ (wm h fun x z => ?_)
      have q := fBool_ok (wpb z)
      unfold boolK at q ⊢
      split
      · exact (ev_ok hT b).e _ _ _ _ q
      · exact q
      · split at q <;> simp_all
    · show dAnd _ _ E env ω Q
      rw [dAnd_k]
      refine (ev_ok hT a).b _ _ _ _ (wm h fun x z => ?_)
      cases x with
      | true => exact (ev_ok hT b).b _ _ _ _ z
      | false => exact z
  | .or a b => by
    refine ⟨fun E env ω Q h => ?_, fun E env ω Q h => ?_, fun _ _ _ _ h => no_e h, fun _ _ _ _ h => no_e h, fun _ _ _ _ h => no_e h⟩
    · show dOrV _ _ E env ω Q
      rw [dOrV_k]
      refine (ev_ok hT a).e _ _ _ _ (wm h fun x z => ?_)
      have q := fBool_ok (wpb z)
      unfold boolK at q ⊢
      split
      · exact q
      · exact (ev_ok hT b).e _ _ _ _ q
      · split at q <;> simp_all
    · show dOr _ _ E env ω Q
      rw [dOr_k]
      refine (ev_ok hT a).b _ _ _ _ (wm h fun x z => ?_)
      cases x with
      | true => exact z
      | false => exact (ev_ok hT b).b _ _ _ _ z
  | .not a => by
    refine ⟨fun E env ω Q h => ?_, fun E env ω Q h => ?_, fun _ _ _ _ h => no_e h, fun _ _ _ _ h => no_e h, fun _ _ _ _ h => no_e h⟩
    · show dNotV _ E env ω Q
      rw [dNotV_k]
      refine (ev_ok hT a).e _ _ _ _ (wm h fun x z => ?_)
      have q := fBool_ok (wpb z)
      unfold boolK at q
      unfold notK
      split at q
      · exact q
      · exact q
      · exact q.elim
    · show dNot _ E env ω Q
      exact (ev_ok hT a).b _ _ _ _ (wm h fun x z => z)
  | .ite t a b => ev_plain rfl rfl fun E env ω Q h => by
    rw [dIf_k]
    refine (ev_ok hT t).b _ _ _ _ (wm h fun x z => ?_)
    cases x with
    | true => exact (ev_ok hT a).e _ _ _ _ z
    | false => exact (ev_ok hT b).e _ _ _ _ z
  | .sl a lo hi => ev_plain rfl rfl fun E env ω Q h => (ev_ok hT a).e _ _ _ _ (wm h fun x z => (ev_ok hT lo).o _ _ _ _ (wm z fun l z => (ev_ok hT hi).o _ _ _ _ (wm z fun u z => fSl_ok z)))
  | .no => ⟨fun _ _ _ _ h => no_e h, fun _ _ _ _ h => no_e h, fun _ _ _ _ h => no_e h, fun _ _ _ _ h => no_e h, fun _ _ _ _ h => h⟩
  | .blt b a => ev_plain rfl rfl fun E env ω Q h => (ev_ok hT a).a _ _ _ _ (wm h fun x z => fBl_ok z)
  | .isa t a => ev_plain rfl rfl fun E env ω Q h => by
    rw [dIsa_k]
    refine (ev_ok hT a).e _ _ _ _ (wm h fun x z => ?_)
    cases x with
    | d x => exact z
    | _ => exact no_e z
  | .call k a => ev_plain rfl rfl fun E env ω Q h => by
    unfold fCall at h
    cases e : T.lookup k with
    | none => rw [e] at h; exact h.elim
    | some mF =>
      rw [e] at h
      obtain ⟨sp, e1, e2⟩ := hT.fns k mF.1 mF.2 e
      unfold dFn
      rw [e1]
      show dCallN mF.1 sp _ E env ω Q
      rw [dCallN_k]
      refine (ev_ok hT a).a _ _ _ _ (wm h fun ds z => ?_)
      obtain ⟨h1, h2, h3⟩ := fApp_ok z
      exact ⟨h1, h2, e2 _ _ _ _ h3⟩
  | .callK k n a b => ev_plain rfl rfl fun E env ω Q h => by
    unfold fCallK at h
    cases e : T.lookup k with
    | none => rw [e] at h; exact h.elim
    | some mF =>
      rw [e] at h
      obtain ⟨sp, e1, e2⟩ := hT.fns k mF.1 mF.2 e
      unfold dFnK
      rw [e1]
      show dCallK n mF.1 sp _ _ E env ω Q
      rw [dCallK_k]
      refine (ev_ok hT a).a _ _ _ _ (wm h fun ds z => ?_)
      split at z
      · next hn =>
        refine ⟨hn, (ev_ok hT b).a _ _ _ _ (wm z fun es z => ?_)⟩
        obtain ⟨h1, h2, h3⟩ := fApp_ok z
        exact ⟨h1, h2, e2 _ _ _ _ h3⟩
      · exact no_e z
  | .comp o it p t e => ev_plain rfl rfl fun E env ω Q h => by
    rw [dComp_k]
    refine (ev_ok hT it).i _ _ _ _ (wm h fun xs z => ?_)
    exact cmpL_ok (X := fun x => E x ω) (fun E env Q => (ev_ok hT t).b E env ω Q) (fun E env Q => (ev_ok hT e).e E env ω Q) xs [] (wm z fun _ z => z)
  | .yes => ⟨fun _ _ _ _ h => no_e h, fun _ _ _ _ h => h, fun _ _ _ _ h => no_e h, fun _ _ _ _ h => no_e h, fun _ _ _ _ h => no_e h⟩
  | .nil => ⟨fun _ _ _ _ h => no_e h, fun _ _ _ _ h => no_e h, fun _ _ _ _ h => h, fun _ _ _ _ h => no_e h, fun _ _ _ _ h => no_e h⟩
  | .cons a r => ⟨fun _ _ _ _ h => no_e h, fun _ _ _ _ h => no_e h, fun E env ω Q h => (ev_ok hT a).e _ _ _ _ (wm h fun x z => (ev_ok hT r).a _ _ _ _ (wm z fun _ z => z)), fun _ _ _ _ h => no_e h, fun _ _ _ _ h => no_e h⟩
  | .rng1 a => ⟨fun _ _ _ _ h => no_e h, fun _ _ _ _ h => no_e h, fun _ _ _ _ h => no_e h, fun E env ω Q h => by
      show dRngA (dCons (den δ a).e dNil) E env ω Q
      rw [dRngA_k, dCons_k]
      refine (ev_ok hT a).e _ _ _ _ (wm h fun x z => ?_)
      rw [dNil_k]
      unfold fRng at z
      split at z
      · obtain ⟨h1, h2⟩ := gd_wp z
        simp only [Bool.and_eq_true, decide_eq_true_eq] at h1
        exact ⟨h1, h2⟩
      · exact no_e z, fun _ _ _ _ h => no_e h⟩
  | .rng2 a b => ⟨fun _ _ _ _ h => no_e h, fun _ _ _ _ h => no_e h, fun _ _ _ _ h => no_e h, fun E env ω Q h => by
      show dRngB (dCons (den δ a).e (dCons (den δ b).e dNil)) E env ω Q
      rw [dRngB_k, dCons_k]
      refine (ev_ok hT a).e _ _ _ _ (wm h fun x z => ?_)
      rw [dCons_k]
      refine (ev_ok hT b).e _ _ _ _ (wm z fun y z => ?_)
      rw [dNil_k]
      unfold fRng2 at z
      split at z
      · obtain ⟨h1, h2⟩ := gd_wp z
        simp only [Bool.and_eq_true, decide_eq_true_eq] at h1
        exact ⟨⟨h1.1.1.1, h1.1.1.2, h1.1.2, h1.2⟩, h2⟩
      · exact no_e z, fun _ _ _ _ h => no_e h⟩
  | .zip a b => ⟨fun _ _ _ _ h => no_e h, fun _ _ _ _ h => no_e h, fun _ _ _ _ h => no_e h, fun E env ω Q h => by
      show dZip (dCons (den δ a).e (dCons (den δ b).e dNil)) E env ω Q
      rw [dZip_k, dCons_k]
      refine (ev_ok hT a).e _ _ _ _ (wm h fun x z => ?_)
      rw [dCons_k]
      refine (ev_ok hT b).e _ _ _ _ (wm z fun y z => ?_)
      rw [dNil_k]
      unfold fZip at z
      split at z
      · exact z
      · exact z
      · exact no_e z, fun _ _ _ _ h => no_e h⟩
  | .lam e => ev_plain rfl rfl fun E env ω Q h => by
    unfold dLam
    refine (ev_ok hT e).e _ _ _ _ (Rs.wp_mono (fLam_ok h) (fun c z => ?_) fun d z => z)
    obtain ⟨y, e1, q⟩ := z
    exact ⟨y, by rw [hT.nm]; exact e1, q⟩
  | .bb b a => ev_plain rfl rfl fun E env ω Q h => (ev_ok hT a).e _ _ _ _ (wm h fun x z => fBB_ok z)
  | .rev a => ev_plain rfl rfl fun E env ω Q h => (ev_ok hT a).e _ _ _ _ (wm h fun x z => fRev_ok z)
  | .dnew => ev_plain rfl rfl fun E env ω Q h => h
  | .done a => ev_plain rfl rfl fun E env ω Q h => (ev_ok hT a).e _ _ _ _ (wm h fun x z => fOne_ok z)
  | .dof a => ev_plain rfl rfl fun E env ω Q h => (ev_ok hT a).e _ _ _ _ (wm h fun x z => fDof_ok z)
  | .enum a => ⟨fun _ _ _ _ h => no_e h, fun _ _ _ _ h => no_e h, fun _ _ _ _ h => no_e h, fun E env ω Q h => by
      show dEnum (den δ a).e E env ω Q
      refine (ev_ok hT a).e _ _ _ _ (wm h fun x z => ?_)
      unfold fEnum at z
      split at z
      · exact z
      · exact z
      · exact no_e z, fun _ _ _ _ h => no_e h⟩
/-! statements -/
end
inductive Out where
  | nx (env : List S)
  | rt (d : D)
  | ex (c : Nat)
  | no
namespace Out
def seq : Out → (List S → Out) → Out
  | .nx env, k => k env
  | o, _ => o
@[simp] theorem seq_nx (env : List S) (k : List S → Out) : (Out.nx env).seq k = k env := rfl
@[simp] theorem seq_rt (d : D) (k : List S → Out) : (Out.rt d).seq k = .rt d := rfl
@[simp] theorem seq_ex (c : Nat) (k : List S → Out) : (Out.ex c).seq k = .ex c := rfl
@[simp] theorem seq_no (k : List S → Out) : (Out.no).seq k = .no := rfl
@[simp] theorem seq_if (p : Prop) [Decidable p] (a b : Out) (k : List S → Out) : (if p then a else b).seq k = if p then a.seq k else b.seq k := by split <;> rfl
end Out
/-- from a value to a statement's end -/
def Rs.th {α : Type} : Rs α → (α → Out) → Out
  | .ok a, f => f a
  | .ex c, _ => .ex c
  | .no, _ => .no
@[simp] theorem Rs.th_ok {α : Type} (a : α) (f : α → Out) : (Rs.ok a).th f = f a := rfl
@[simp] theorem Rs.th_ex {α : Type} (c : Nat) (f : α → Out) : (Rs.ex c : Rs α).th f = .ex c := rfl
@[simp] theorem Rs.th_no {α : Type} (f : α → Out) : (Rs.no : Rs α).th f = .no := rfl
@[simp] theorem Rs.th_if {α : Type} (p : Prop) [Decidable p] (a b : Rs α) (f : α → Out) : (if p then a else b).th f = if p then a.th f else b.th f := by split <;> rfl
@[simp] theorem Rs.th_bind {α β : Type} (r : Rs α) (f : α → Rs β) (g : β → Out) : (r.bind f).th g = r.th fun a => (f a).th g := by cases r <;> rfl
def fAug : Aug → Int → Int → Rs Int
  | .add, i, j => .ok (i + j)
  | .mul, i, j => gd (cmulB i j) (i * j)
  | .xor, i, j => .ok (Builtin.bitXor i j)
def evFor (p : Pat) (b : List S → Out) : List PyData → List S → Out
  | [], env => .nx env
  | x :: xs, env => match bindP p x env with
    | some env1 => (b env1).seq (evFor p b xs)
    | none => .no
def evWh (t : List S → Rs Bool) (b : List S → Out) : Nat → List S → Out
  | 0, _ => .no
  | n + 1, env => (t env).th fun c => match c with
    | true => (b env).seq (evWh t b n)
    | false => .nx env
def fuel : Nat := 100
def fOwn : Option S → Rs (List PyData)
  | some (.own false xs) => .ok xs
  | _ => .no
def fOwnT : Option S → Rs (List PyData)
  | some (.own true xs) => .ok xs
  | _ => .no
def fFrz : Option S → Rs S
  | some (.own false xs) => .ok (.d (.list xs))
  | some (.own true xs) => .ok (.fd xs)
  | _ => .no
def fFd : D → Rs (List PyData)
  | .fd xs => .ok xs
  | _ => .no
def fKey : D → Rs PyData
  | .d x => gd (keyD x).isSome x
  | _ => .no
def updB (xs ys : List PyData) : Bool := decide (xs.length + ys.length ≤ 1000000) && (!xs.isEmpty || decide ((ys.map hashD).Nodup))
def fIntS : Option S → Rs Int
  | some (.d (.int i)) => .ok i
  | _ => .no
def fLst : D → Rs (List PyData)
  | .d (.list ys) => .ok ys
  | .d (.tuple ys) => .ok ys
  | _ => .no
def evS (T : Tab) : CS → List S → Out
  | .nil, env => .nx env
  | .cons s r, env => (evS T s env).seq (evS T r)
  | .frz i r, env => (fFrz env[i]?).th fun s => evS T r (env.set i s)
  | .drop e, env => ((ev T e).e env).th fun _ => .nx env
  | .ret e, env => ((ev T e).e env).th fun d => .rt d
  | .ifS t a b, env => ((ev T t).b env).th fun c => match c with | true => evS T a env | false => evS T b env
  | .set i e, env => ((ev T e).e env).th fun d => .nx (env.set i d.s)
  | .par i k a b, env => ((ev T a).e env).th fun x => ((ev T b).e env).th fun y => if (noOwn [x] || noOwn [y]) = true then .nx ((env.set i x.s).set k y.s) else .no
  | .pat p e, env => ((ev T e).e env).th fun d => (fDat d).th fun x => match bindP p x env with
    | some env' => .nx env'
    | none => .no
  | .app i e, env => (fOwn env[i]?).th fun xs => ((ev T e).e env).th fun d => (fDat d).th fun x => if xs.length < 1000000 then .nx (env.set i (.own false (xs ++ [x]))) else .no
  | .ext i e, env => (fOwn env[i]?).th fun xs => ((ev T e).e env).th fun d => (fLst d).th fun ys => if xs.length + ys.length ≤ 1000000 then .nx (env.set i (.own false (xs ++ ys))) else .no
  | .dput i e, env => (fOwnT env[i]?).th fun xs => ((ev T e).e env).th fun d => (fKey d).th fun y => if xs.length < 1000000 then .nx (env.set i (.own true (putD xs y))) else .no
  | .dupd i e, env => (fOwnT env[i]?).th fun xs => ((ev T e).e env).th fun d => (fFd d).th fun ys => if updB xs ys = true then .nx (env.set i (.own true (putsD xs ys))) else .no
  | .par3 i j k a b c, env => ((ev T a).e env).th fun x => ((ev T b).e env).th fun y => ((ev T c).e env).th fun z => if noOwn [x, y, z] = true then .nx (((env.set i x.s).set j y.s).set k z.s) else .no
  | .aug o i e, env => (fIntS env[i]?).th fun a => ((ev T e).e env).th fun d => (fInt d).th fun b => (fAug o a b).th fun z => .nx (env.set i (.d (.int z)))
  | .raise c, _ => .ex c
  | .forS it p b, env => ((ev T it).i env).th fun xs => evFor p (evS T b) xs env
  | .whileS t b, env => evWh (ev T t).b (evS T b) fuel env
section
variable {Ω : Type} {δ : Den Ω} {T : Tab}
def Out.wp (o : Out) (E : XD Ω) (D : DEnds Ω) (ω : Ω) : Prop := match o with
  | .nx env => D.nx env ω
  | .rt d => D.rt d ω
  | .ex c => E c ω
  | .no => False
theorem Out.wp_th {α : Type} {r : Rs α} {f : α → Out} {E : XD Ω} {Dc : DEnds Ω} {ω : Ω} (h : (r.th f).wp E Dc ω) : r.wp (fun c => E c ω) fun a => (f a).wp E Dc ω := by cases r <;> exact h
theorem Out.wp_seq {o : Out} {k : List S → Out} {E : XD Ω} {Dc : DEnds Ω} {ω : Ω} (h : (o.seq k).wp E Dc ω) : o.wp E { Dc with nx := fun env ω' => (k env).wp E Dc ω' } ω := by cases o <;> exact h
theorem Out.wp_mono {o : Out} {E : XD Ω} {D1 D2 : DEnds Ω} {ω : Ω} (h : o.wp E D1 ω) (n : ∀ env, D1.nx env ω → D2.nx env ω) (r : ∀ d, D1.rt d ω → D2.rt d ω) : o.wp E D2 ω := by
  cases o with
  | nx env => exact n _ h
  | rt d => exact r _ h
  | ex c => exact h
  | no => exact h
theorem fOwn_ok {s : Option S} {E : Nat → Prop} {Q : List PyData → Prop} (h : (fOwn s).wp E Q) : ownK s Q := by
  unfold fOwn at h
  split at h <;> first | exact h | exact h.elim
theorem fOwnT_ok {s : Option S} {E : Nat → Prop} {Q : List PyData → Prop} (h : (fOwnT s).wp E Q) : ownT s Q := by
  unfold fOwnT at h
  split at h <;> first | exact h | exact h.elim
theorem fFrz_ok {s : Option S} {E : Nat → Prop} {Q : S → Prop} (h : (fFrz s).wp E Q) : frzK s Q := by
  unfold fFrz at h
  split at h <;> first | exact h | exact h.elim
theorem fFd_ok {s : D} {E : Nat → Prop} {Q : List PyData → Prop} (h : (fFd s).wp E Q) : fdK s Q := by
  unfold fFd at h
  split at h <;> first | exact h | exact h.elim
theorem fKey_ok {s : D} {E : Nat → Prop} {Q : PyData → Prop} (h : (fKey s).wp E Q) : keyK s Q := by
  unfold fKey at h
  split at h
  · exact gd_wp h
  · exact h.elim
theorem updB_ok {xs ys : List PyData} (h : updB xs ys = true) : xs.length + ys.length ≤ 1000000 ∧ (xs ≠ [] ∨ (ys.map hashD).Nodup) := by
  simp only [updB, Bool.and_eq_true, decide_eq_true_eq, Bool.or_eq_true] at h
  refine ⟨h.1, h.2.imp (fun z => ?_) fun z => z⟩
  intro e
  rw [e] at z
  cases z
theorem fIntS_ok {s : Option S} {E : Nat → Prop} {Q : Int → Prop} (h : (fIntS s).wp E Q) : intS s Q := by
  unfold fIntS at h
  split at h <;> first | exact h | exact h.elim
theorem fLst_ok {s : D} {E : Nat → Prop} {Q : List PyData → Prop} (h : (fLst s).wp E Q) : lstK s Q := by
  unfold fLst at h
  split at h <;> first | exact h | exact h.elim
theorem fAug_ok {o : Aug} {i j : Int} {E : Nat → Prop} {Q : Int → Prop} (h : (fAug o i j).wp E Q) : pAug o i j Q := by
  cases o with
  | mul =>
    obtain ⟨h1, h2⟩ := gd_wp h
    simp only [cmulB, decide_eq_true_eq] at h1
    exact ⟨h1, h2⟩
  | _ => exact h
theorem rmono {α : Type} {r : Rs α} {E : Nat → Prop} {Q Q' : α → Prop} (h : r.wp E Q) (q : ∀ a, Q a → Q' a) : r.wp E Q' := Rs.wp_mono h (fun _ z => z) q
theorem evFor_ok {p : Pat} {b : List S → Out} {t : TDs Ω} {E : XD Ω} {Dc : DEnds Ω} (hb : ∀ E Dc env ω, (b env).wp E Dc ω → t E Dc env ω) : ∀ (xs : List PyData) (env : List S) (ω : Ω), (evFor p b xs env).wp E Dc ω → forL p t E Dc xs env ω
  | [], env, ω, h => h
  | x :: xs, env, ω, h => by
    rw [forL_cons]
    simp only [evFor] at h
    cases e : bindP p x env with
    | none => rw [e] at h; exact h.elim
    | some env1 =>
      rw [e] at h
      rw [someK_s]
      refine hb _ _ _ _ (Out.wp_mono (Out.wp_seq h) (fun env' z => ?_) fun d z => z)
      exact evFor_ok hb xs env' ω z
theorem evWh_ok {tt : List S → Rs Bool} {b : List S → Out} {tb : TDb Ω} {t : TDs Ω} {E : XD Ω} {Dc : DEnds Ω} (ht : ∀ E env ω Q, (tt env).wp (fun x => E x ω) (fun d => Q d ω) → tb E env ω Q) (hb : ∀ E Dc env ω, (b env).wp E Dc ω → t E Dc env ω) {n : Nat} {env : List S} {ω : Ω} (h : (evWh tt b n env).wp E Dc ω) : sWhile tb t E Dc env ω := by
  refine ⟨fun m env ω' => (evWh tt b m env).wp E Dc ω', ⟨n, h⟩, fun m env ω h => ?_⟩
  cases m with
  | zero => exact h.elim
  | succ m =>
    refine ht _ _ _ _ (rmono (Out.wp_th h) fun c z => ?_)
    cases c with
    | false => exact z
    | true => exact hb _ _ _ _ (Out.wp_mono (Out.wp_seq z) (fun env' q => ⟨m, Nat.lt_succ_self m, q⟩) fun d q => q)
theorem evS_ok (hT : TabOk δ T) : ∀ (c : CS) (E : XD Ω) (Dc : DEnds Ω) (env : List S) (ω : Ω), (evS T c env).wp E Dc ω → denS δ c E Dc env ω
  | .nil, E, Dc, env, ω, h => h
  | .cons s r, E, Dc, env, ω, h => evS_ok hT s _ _ _ _ (Out.wp_mono (Out.wp_seq h) (fun env' z => evS_ok hT r _ _ _ _ z) fun d z => z)
  | .frz i r, E, Dc, env, ω, h => by
    show sFrz i (denS δ r) E Dc env ω
    rw [sFrz_k]
    exact fFrz_ok (rmono (Out.wp_th h) fun xs z => evS_ok hT r _ _ _ _ z)
  | .drop e, E, Dc, env, ω, h => (ev_ok hT e).e _ _ _ _ (rmono (Out.wp_th h) fun d z => z)
  | .ret e, E, Dc, env, ω, h => (ev_ok hT e).e _ _ _ _ (rmono (Out.wp_th h) fun d z => z)
  | .ifS t a b, E, Dc, env, ω, h => (ev_ok hT t).b _ _ _ _ (rmono (Out.wp_th h) fun c z => by
      cases c with
      | true => exact evS_ok hT a _ _ _ _ z
      | false => exact evS_ok hT b _ _ _ _ z)
  | .set i e, E, Dc, env, ω, h => (ev_ok hT e).e _ _ _ _ (rmono (Out.wp_th h) fun d z => z)
  | .par i k a b, E, Dc, env, ω, h => by
    show sPar1 i k (dCons (den δ a).e (dCons (den δ b).e dNil)) E Dc env ω
    rw [sPar1_k, dCons_k]
    refine (ev_ok hT a).e _ _ _ _ (rmono (Out.wp_th h) fun x z => ?_)
    rw [dCons_k]
    refine (ev_ok hT b).e _ _ _ _ (rmono (Out.wp_th z) fun y z => ?_)
    rw [dNil_k, parK_2]
    split at z
    · next q => exact ⟨q, z⟩
    · exact z.elim
  | .pat p e, E, Dc, env, ω, h => by
    show sPat p (den δ e).e E Dc env ω
    rw [sPat_k]
    refine (ev_ok hT e).e _ _ _ _ (rmono (Out.wp_th h) fun x z => fDat_ok (rmono (Out.wp_th z) fun y z => ?_))
    cases e0 : bindP p y env with
    | none => rw [e0] at z; exact z.elim
    | some env' => rw [e0] at z; exact z
  | .app i e, E, Dc, env, ω, h => by
    show sApp i (den δ e).e E Dc env ω
    rw [sApp_k]
    refine fOwn_ok (rmono (Out.wp_th h) fun xs z => (ev_ok hT e).e _ _ _ _ (rmono (Out.wp_th z) fun x z => fDat_ok (rmono (Out.wp_th z) fun y z => ?_)))
    split at z
    · next q => exact ⟨q, z⟩
    · exact z.elim
  | .ext i e, E, Dc, env, ω, h => by
    show sExt i (den δ e).e E Dc env ω
    rw [sExt_k]
    refine fOwn_ok (rmono (Out.wp_th h) fun xs z => (ev_ok hT e).e _ _ _ _ (rmono (Out.wp_th z) fun x z => fLst_ok (rmono (Out.wp_th z) fun y z => ?_)))
    split at z
    · next q => exact ⟨q, z⟩
    · exact z.elim
  | .aug o i e, E, Dc, env, ω, h => by
    show sAug o i (den δ e).e E Dc env ω
    rw [sAug_k]
    exact fIntS_ok (rmono (Out.wp_th h) fun xs z => (ev_ok hT e).e _ _ _ _ (rmono (Out.wp_th z) fun x z => fInt_ok (rmono (Out.wp_th z) fun y z => fAug_ok (rmono (Out.wp_th z) fun w z => z))))
  | .dput i e, E, Dc, env, ω, h => by
    show sPutD i (den δ e).e E Dc env ω
    rw [sPutD_k]
    refine fOwnT_ok (rmono (Out.wp_th h) fun xs z => (ev_ok hT e).e _ _ _ _ (rmono (Out.wp_th z) fun x z => fKey_ok (rmono (Out.wp_th z) fun y z => ?_)))
    split at z
    · next q => exact ⟨q, z⟩
    · exact z.elim
  | .dupd i e, E, Dc, env, ω, h => by
    show sUpdD i (den δ e).e E Dc env ω
    rw [sUpdD_k]
    refine fOwnT_ok (rmono (Out.wp_th h) fun xs z => (ev_ok hT e).e _ _ _ _ (rmono (Out.wp_th z) fun x z => fFd_ok (rmono (Out.wp_th z) fun y z => ?_)))
    split at z
    · next q => exact ⟨(updB_ok q).1, (updB_ok q).2, z⟩
    · exact z.elim
  | .par3 i j k a b c, E, Dc, env, ω, h => by
    show sPar3 i j k (dCons (den δ a).e (dCons (den δ b).e (dCons (den δ c).e dNil))) E Dc env ω
    unfold sPar3
    rw [dCons_k]
    refine (ev_ok hT a).e _ _ _ _ (rmono (Out.wp_th h) fun x z => ?_)
    rw [dCons_k]
    refine (ev_ok hT b).e _ _ _ _ (rmono (Out.wp_th z) fun y z => ?_)
    rw [dCons_k]
    refine (ev_ok hT c).e _ _ _ _ (rmono (Out.wp_th z) fun w z => ?_)
    rw [dNil_k]
    split at z
    · next q => exact ⟨q, z⟩
    · exact z.elim
  | .raise c, E, Dc, env, ω, h => h
  | .forS it p b, E, Dc, env, ω, h => (ev_ok hT it).i _ _ _ _ (rmono (Out.wp_th h) fun xs z => evFor_ok (fun E Dc env ω => evS_ok hT b E Dc env ω) xs env ω z)
  | .whileS t b, E, Dc, env, ω, h => evWh_ok (fun E env ω Q => (ev_ok hT t).b E env ω Q) (fun E Dc env ω => evS_ok hT b E Dc env ω) h
/-- a def, run: N slots -/
def outR : Out → Rs D
  | .rt d => .ok d
  | .nx _ => .ok (.d .none)
  | .ex c => .ex c
  | .no => .no
@[simp] theorem outR_rt (d : D) : outR (.rt d) = .ok d := rfl
@[simp] theorem outR_nx (env : List S) : outR (.nx env) = .ok (.d .none) := rfl
@[simp] theorem outR_ex (c : Nat) : outR (.ex c) = .ex c := rfl
@[simp] theorem outR_no : outR .no = .no := rfl
@[simp] theorem outR_if (p : Prop) [Decidable p] (a b : Out) : outR (if p then a else b) = if p then outR a else outR b := by split <;> rfl
def run (T : Tab) (n : Nat) (c : CS) : Fn := fun ds => outR (evS T c (ds.map D.s ++ List.replicate (n - ds.length) .no))
theorem rd_run (hT : TabOk δ T) {c : CS} {N : List Str} : ∀ ds (ω : Ω) Qc Ec, spR (run T N.length c) ds ω Qc Ec → denS δ c Ec ⟨fun _ ω' => Qc (.d .none) ω', Qc, fun _ _ => False, fun _ _ => False⟩ (startE N ds) ω := by
  intro ds ω Qc Ec h
  refine evS_ok hT c _ _ _ _ ?_
  unfold spR run at h
  unfold startE
  cases e : evS T c (ds.map D.s ++ List.replicate (N.length - ds.length) .no) <;> rw [e] at h <;> exact h
end
end Q
namespace Q
open PySem PySem.Spec PyProof.Rows L2
/-! ### how what is run is unrolled (printed by mkqj.py) -/
def sl (d : D) : S := d.s
@[simp] theorem sl_d (x : PyData) : sl (.d x) = .d x := rfl
@[simp] theorem sl_r (x : V) : sl (.r x) = .r x := rfl
@[simp] theorem sl_o (k : Bool) (x : List PyData) : sl (.own k x) = .own k x := rfl
@[simp] theorem sl_fd (x : List PyData) : sl (.fd x) = .fd x := rfl
def bR {α : Type} (c : Bool) (a b : Rs α) : Rs α := match c with | true => a | false => b
@[simp] theorem bR_k {α : Type} (c : Bool) (a b : Rs α) : bR c a b = if c = true then a else b := by cases c <;> rfl
section
variable {T : Tab} {env : List S}
@[simp] theorem ev_var_e (i : Nat) : (ev T (.var i)).e env = (fSlot env[i]?) := rfl
@[simp] theorem ev_var_b (i : Nat) : (ev T (.var i)).b env = ((ev T (.var i)).e env).bind fTru := rfl
@[simp] theorem ev_var_i (i : Nat) : (ev T (.var i)).i env = ((ev T (.var i)).e env).bind fSeq := rfl
@[simp] theorem ev_var_o (i : Nat) : (ev T (.var i)).o env = ((ev T (.var i)).e env).bind fun x => (fInt x).bind fun i => .ok (some i) := rfl
@[simp] theorem ev_con_e (x : PyData) : (ev T (.con x)).e env = (.ok (.d x)) := rfl
@[simp] theorem ev_con_b (x : PyData) : (ev T (.con x)).b env = ((ev T (.con x)).e env).bind fTru := rfl
@[simp] theorem ev_con_i (x : PyData) : (ev T (.con x)).i env = ((ev T (.con x)).e env).bind fSeq := rfl
@[simp] theorem ev_con_o (x : PyData) : (ev T (.con x)).o env = ((ev T (.con x)).e env).bind fun x => (fInt x).bind fun i => .ok (some i) := rfl
@[simp] theorem ev_glo_e (k : Nat) : (ev T (.glo k)).e env = (match uC[k]? with
    | some i => .ok (.d (.int i))
    | none => .no) := rfl
@[simp] theorem ev_glo_b (k : Nat) : (ev T (.glo k)).b env = ((ev T (.glo k)).e env).bind fTru := rfl
@[simp] theorem ev_glo_i (k : Nat) : (ev T (.glo k)).i env = ((ev T (.glo k)).e env).bind fSeq := rfl
@[simp] theorem ev_glo_o (k : Nat) : (ev T (.glo k)).o env = ((ev T (.glo k)).e env).bind fun x => (fInt x).bind fun i => .ok (some i) := rfl
@[simp] theorem ev_tup_e (a : CE) : (ev T (.tup a)).e env = (((ev T a).a env).bind fun ds => (fDats ds).bind fun xs => .ok (.d (.tuple xs))) := rfl
@[simp] theorem ev_tup_b (a : CE) : (ev T (.tup a)).b env = ((ev T (.tup a)).e env).bind fTru := rfl
@[simp] theorem ev_tup_i (a : CE) : (ev T (.tup a)).i env = ((ev T (.tup a)).e env).bind fSeq := rfl
@[simp] theorem ev_tup_o (a : CE) : (ev T (.tup a)).o env = ((ev T (.tup a)).e env).bind fun x => (fInt x).bind fun i => .ok (some i) := rfl
@[simp] theorem ev_lst_e (o : Bool) (a : CE) : (ev T (.lst o a)).e env = (((ev T a).a env).bind fun ds => (fDats ds).bind fun xs => .ok (if o = true then .own false xs else .d (.list xs))) := rfl
@[simp] theorem ev_lst_b (o : Bool) (a : CE) : (ev T (.lst o a)).b env = ((ev T (.lst o a)).e env).bind fTru := rfl
@[simp] theorem ev_lst_i (o : Bool) (a : CE) : (ev T (.lst o a)).i env = ((ev T (.lst o a)).e env).bind fSeq := rfl
@[simp] theorem ev_lst_o (o : Bool) (a : CE) : (ev T (.lst o a)).o env = ((ev T (.lst o a)).e env).bind fun x => (fInt x).bind fun i => .ok (some i) := rfl
@[simp] theorem ev_bin_e (o : Op2) (a b : CE) : (ev T (.bin o a b)).e env = (((ev T a).e env).bind fun x => ((ev T b).e env).bind fun y => f2 o x y) := rfl
@[simp] theorem ev_bin_b (o : Op2) (a b : CE) : (ev T (.bin o a b)).b env = ((ev T (.bin o a b)).e env).bind fTru := rfl
@[simp] theorem ev_bin_i (o : Op2) (a b : CE) : (ev T (.bin o a b)).i env = ((ev T (.bin o a b)).e env).bind fSeq := rfl
@[simp] theorem ev_bin_o (o : Op2) (a b : CE) : (ev T (.bin o a b)).o env = ((ev T (.bin o a b)).e env).bind fun x => (fInt x).bind fun i => .ok (some i) := rfl
@[simp] theorem ev_un_e (o : Op1) (a : CE) : (ev T (.un o a)).e env = (((ev T a).e env).bind (f1 o)) := rfl
@[simp] theorem ev_un_b (o : Op1) (a : CE) : (ev T (.un o a)).b env = ((ev T (.un o a)).e env).bind fTru := rfl
@[simp] theorem ev_un_i (o : Op1) (a : CE) : (ev T (.un o a)).i env = ((ev T (.un o a)).e env).bind fSeq := rfl
@[simp] theorem ev_un_o (o : Op1) (a : CE) : (ev T (.un o a)).o env = ((ev T (.un o a)).e env).bind fun x => (fInt x).bind fun i => .ok (some i) := rfl
@[simp] theorem ev_chain_e (o o' : Op2) (a b c : CE) : (ev T (.chain o o' a b c)).e env = (((ev T a).e env).bind fun x => ((ev T b).e env).bind fun y => (f2 o x y).bind fun d => (fBool d).bind fun q => bR q (((ev T c).e env).bind fun z => f2 o' y z) (.ok (.d (.bool false)))) := rfl
@[simp] theorem ev_chain_b (o o' : Op2) (a b c : CE) : (ev T (.chain o o' a b c)).b env = ((ev T (.chain o o' a b c)).e env).bind fTru := rfl
@[simp] theorem ev_chain_i (o o' : Op2) (a b c : CE) : (ev T (.chain o o' a b c)).i env = ((ev T (.chain o o' a b c)).e env).bind fSeq := rfl
@[simp] theorem ev_chain_o (o o' : Op2) (a b c : CE) : (ev T (.chain o o' a b c)).o env = ((ev T (.chain o o' a b c)).e env).bind fun x => (fInt x).bind fun i => .ok (some i) := rfl
@[simp] theorem ev_isN_e (n : Bool) (a : CE) : (ev T (.isN n a)).e env = (((ev T a).e env).bind (fNone n)) := rfl
@[simp] theorem ev_isN_b (n : Bool) (a : CE) : (ev T (.isN n a)).b env = ((ev T (.isN n a)).e env).bind fTru := rfl
@[simp] theorem ev_isN_i (n : Bool) (a : CE) : (ev T (.isN n a)).i env = ((ev T (.isN n a)).e env).bind fSeq := rfl
@[simp] theorem ev_isN_o (n : Bool) (a : CE) : (ev T (.isN n a)).o env = ((ev T (.isN n a)).e env).bind fun x => (fInt x).bind fun i => .ok (some i) := rfl
@[simp] theorem ev_and_e (a b : CE) : (ev T (.and a b)).e env = (((ev T a).e env).bind fun x => (fBool x).bind fun q => bR q ((ev T b).e env) (.ok (.d (.bool false)))) := rfl
@[simp] theorem ev_and_b (a b : CE) : (ev T (.and a b)).b env = (((ev T a).b env).bind fun q => bR q ((ev T b).b env) (.ok false)) := rfl
@[simp] theorem ev_or_e (a b : CE) : (ev T (.or a b)).e env = (((ev T a).e env).bind fun x => (fBool x).bind fun q => bR q (.ok (.d (.bool true))) ((ev T b).e env)) := rfl
@[simp] theorem ev_or_b (a b : CE) : (ev T (.or a b)).b env = (((ev T a).b env).bind fun q => bR q (.ok true) ((ev T b).b env)) := rfl
@[simp] theorem ev_not_e (a : CE) : (ev T (.not a)).e env = (((ev T a).e env).bind fun x => (fBool x).bind fun q => .ok (.d (.bool (!q)))) := rfl
@[simp] theorem ev_not_b (a : CE) : (ev T (.not a)).b env = (((ev T a).b env).bind fun q => .ok (!q)) := rfl
@[simp] theorem ev_ite_e (t a b : CE) : (ev T (.ite t a b)).e env = (((ev T t).b env).bind fun q => bR q ((ev T a).e env) ((ev T b).e env)) := rfl
@[simp] theorem ev_ite_b (t a b : CE) : (ev T (.ite t a b)).b env = ((ev T (.ite t a b)).e env).bind fTru := rfl
@[simp] theorem ev_ite_i (t a b : CE) : (ev T (.ite t a b)).i env = ((ev T (.ite t a b)).e env).bind fSeq := rfl
@[simp] theorem ev_ite_o (t a b : CE) : (ev T (.ite t a b)).o env = ((ev T (.ite t a b)).e env).bind fun x => (fInt x).bind fun i => .ok (some i) := rfl
@[simp] theorem ev_sl_e (a lo hi : CE) : (ev T (.sl a lo hi)).e env = (((ev T a).e env).bind fun x => ((ev T lo).o env).bind fun l => ((ev T hi).o env).bind fun u => fSl x l u) := rfl
@[simp] theorem ev_sl_b (a lo hi : CE) : (ev T (.sl a lo hi)).b env = ((ev T (.sl a lo hi)).e env).bind fTru := rfl
@[simp] theorem ev_sl_i (a lo hi : CE) : (ev T (.sl a lo hi)).i env = ((ev T (.sl a lo hi)).e env).bind fSeq := rfl
@[simp] theorem ev_sl_o (a lo hi : CE) : (ev T (.sl a lo hi)).o env = ((ev T (.sl a lo hi)).e env).bind fun x => (fInt x).bind fun i => .ok (some i) := rfl
@[simp] theorem ev_no_o  : (ev T (.no)).o env = (.ok none) := rfl
@[simp] theorem ev_blt_e (b : Blt) (a : CE) : (ev T (.blt b a)).e env = (((ev T a).a env).bind (fBl b)) := rfl
@[simp] theorem ev_blt_b (b : Blt) (a : CE) : (ev T (.blt b a)).b env = ((ev T (.blt b a)).e env).bind fTru := rfl
@[simp] theorem ev_blt_i (b : Blt) (a : CE) : (ev T (.blt b a)).i env = ((ev T (.blt b a)).e env).bind fSeq := rfl
@[simp] theorem ev_blt_o (b : Blt) (a : CE) : (ev T (.blt b a)).o env = ((ev T (.blt b a)).e env).bind fun x => (fInt x).bind fun i => .ok (some i) := rfl
@[simp] theorem ev_isa_e (t : Ty) (a : CE) : (ev T (.isa t a)).e env = (((ev T a).e env).bind (fIsa t)) := rfl
@[simp] theorem ev_isa_b (t : Ty) (a : CE) : (ev T (.isa t a)).b env = ((ev T (.isa t a)).e env).bind fTru := rfl
@[simp] theorem ev_isa_i (t : Ty) (a : CE) : (ev T (.isa t a)).i env = ((ev T (.isa t a)).e env).bind fSeq := rfl
@[simp] theorem ev_isa_o (t : Ty) (a : CE) : (ev T (.isa t a)).o env = ((ev T (.isa t a)).e env).bind fun x => (fInt x).bind fun i => .ok (some i) := rfl
@[simp] theorem ev_call_e (k : Nat) (a : CE) : (ev T (.call k a)).e env = (fCall T k ((ev T a).a env)) := rfl
@[simp] theorem ev_call_b (k : Nat) (a : CE) : (ev T (.call k a)).b env = ((ev T (.call k a)).e env).bind fTru := rfl
@[simp] theorem ev_call_i (k : Nat) (a : CE) : (ev T (.call k a)).i env = ((ev T (.call k a)).e env).bind fSeq := rfl
@[simp] theorem ev_call_o (k : Nat) (a : CE) : (ev T (.call k a)).o env = ((ev T (.call k a)).e env).bind fun x => (fInt x).bind fun i => .ok (some i) := rfl
@[simp] theorem ev_callK_e (k n : Nat) (a b : CE) : (ev T (.callK k n a b)).e env = (fCallK T k n ((ev T a).a env) ((ev T b).a env)) := rfl
@[simp] theorem ev_callK_b (k n : Nat) (a b : CE) : (ev T (.callK k n a b)).b env = ((ev T (.callK k n a b)).e env).bind fTru := rfl
@[simp] theorem ev_callK_i (k n : Nat) (a b : CE) : (ev T (.callK k n a b)).i env = ((ev T (.callK k n a b)).e env).bind fSeq := rfl
@[simp] theorem ev_callK_o (k n : Nat) (a b : CE) : (ev T (.callK k n a b)).o env = ((ev T (.callK k n a b)).e env).bind fun x => (fInt x).bind fun i => .ok (some i) := rfl
@[simp] theorem ev_comp_e (o : Bool) (it : CE) (p : Pat) (t e : CE) : (ev T (.comp o it p t e)).e env = (((ev T it).i env).bind fun xs => (cmpL p (ev T t).b (ev T e).e (wipeE env p.slots) xs).bind fun zs => .ok (if o = true then .own false zs else .d (.list zs))) := rfl
@[simp] theorem ev_comp_b (o : Bool) (it : CE) (p : Pat) (t e : CE) : (ev T (.comp o it p t e)).b env = ((ev T (.comp o it p t e)).e env).bind fTru := rfl
@[simp] theorem ev_comp_i (o : Bool) (it : CE) (p : Pat) (t e : CE) : (ev T (.comp o it p t e)).i env = ((ev T (.comp o it p t e)).e env).bind fSeq := rfl
@[simp] theorem ev_comp_o (o : Bool) (it : CE) (p : Pat) (t e : CE) : (ev T (.comp o it p t e)).o env = ((ev T (.comp o it p t e)).e env).bind fun x => (fInt x).bind fun i => .ok (some i) := rfl
@[simp] theorem ev_yes_b  : (ev T (.yes)).b env = (.ok true) := rfl
@[simp] theorem ev_nil_a  : (ev T (.nil)).a env = (.ok []) := rfl
@[simp] theorem ev_cons_a (a r : CE) : (ev T (.cons a r)).a env = (((ev T a).e env).bind fun x => ((ev T r).a env).bind fun xs => .ok (x :: xs)) := rfl
@[simp] theorem ev_rng1_i (a : CE) : (ev T (.rng1 a)).i env = (((ev T a).e env).bind fRng) := rfl
@[simp] theorem ev_rng2_i (a b : CE) : (ev T (.rng2 a b)).i env = (((ev T a).e env).bind fun x => ((ev T b).e env).bind fun y => fRng2 x y) := rfl
@[simp] theorem ev_zip_i (a b : CE) : (ev T (.zip a b)).i env = (((ev T a).e env).bind fun x => ((ev T b).e env).bind fun y => fZip x y) := rfl
@[simp] theorem ev_lam_e (e : CE) : (ev T (.lam e)).e env = (fLam ((ev T e).e env)) := rfl
@[simp] theorem ev_lam_b (e : CE) : (ev T (.lam e)).b env = ((ev T (.lam e)).e env).bind fTru := rfl
@[simp] theorem ev_lam_i (e : CE) : (ev T (.lam e)).i env = ((ev T (.lam e)).e env).bind fSeq := rfl
@[simp] theorem ev_lam_o (e : CE) : (ev T (.lam e)).o env = ((ev T (.lam e)).e env).bind fun x => (fInt x).bind fun i => .ok (some i) := rfl
@[simp] theorem ev_bb_e (b : BB) (a : CE) : (ev T (.bb b a)).e env = (((ev T a).e env).bind (fBB b)) := rfl
@[simp] theorem ev_bb_b (b : BB) (a : CE) : (ev T (.bb b a)).b env = ((ev T (.bb b a)).e env).bind fTru := rfl
@[simp] theorem ev_bb_i (b : BB) (a : CE) : (ev T (.bb b a)).i env = ((ev T (.bb b a)).e env).bind fSeq := rfl
@[simp] theorem ev_bb_o (b : BB) (a : CE) : (ev T (.bb b a)).o env = ((ev T (.bb b a)).e env).bind fun x => (fInt x).bind fun i => .ok (some i) := rfl
@[simp] theorem ev_rev_e (a : CE) : (ev T (.rev a)).e env = (((ev T a).e env).bind fRev) := rfl
@[simp] theorem ev_rev_b (a : CE) : (ev T (.rev a)).b env = ((ev T (.rev a)).e env).bind fTru := rfl
@[simp] theorem ev_rev_i (a : CE) : (ev T (.rev a)).i env = ((ev T (.rev a)).e env).bind fSeq := rfl
@[simp] theorem ev_rev_o (a : CE) : (ev T (.rev a)).o env = ((ev T (.rev a)).e env).bind fun x => (fInt x).bind fun i => .ok (some i) := rfl
@[simp] theorem ev_dnew_e  : (ev T (.dnew)).e env = (.ok (.own true [])) := rfl
@[simp] theorem ev_dnew_b  : (ev T (.dnew)).b env = ((ev T (.dnew)).e env).bind fTru := rfl
@[simp] theorem ev_dnew_i  : (ev T (.dnew)).i env = ((ev T (.dnew)).e env).bind fSeq := rfl
@[simp] theorem ev_dnew_o  : (ev T (.dnew)).o env = ((ev T (.dnew)).e env).bind fun x => (fInt x).bind fun i => .ok (some i) := rfl
@[simp] theorem ev_done_e (a : CE) : (ev T (.done a)).e env = (((ev T a).e env).bind fOne) := rfl
@[simp] theorem ev_done_b (a : CE) : (ev T (.done a)).b env = ((ev T (.done a)).e env).bind fTru := rfl
@[simp] theorem ev_done_i (a : CE) : (ev T (.done a)).i env = ((ev T (.done a)).e env).bind fSeq := rfl
@[simp] theorem ev_done_o (a : CE) : (ev T (.done a)).o env = ((ev T (.done a)).e env).bind fun x => (fInt x).bind fun i => .ok (some i) := rfl
@[simp] theorem ev_dof_e (a : CE) : (ev T (.dof a)).e env = (((ev T a).e env).bind fDof) := rfl
@[simp] theorem ev_dof_b (a : CE) : (ev T (.dof a)).b env = ((ev T (.dof a)).e env).bind fTru := rfl
@[simp] theorem ev_dof_i (a : CE) : (ev T (.dof a)).i env = ((ev T (.dof a)).e env).bind fSeq := rfl
@[simp] theorem ev_dof_o (a : CE) : (ev T (.dof a)).o env = ((ev T (.dof a)).e env).bind fun x => (fInt x).bind fun i => .ok (some i) := rfl
@[simp] theorem ev_enum_i (a : CE) : (ev T (.enum a)).i env = (((ev T a).e env).bind fEnum) := rfl
end
@[simp] theorem f2_1 (i : Int) (j : Int) : f2 .add (.d (.int i)) (.d (.int j)) = .ok (.d (.int (i + j))) := rfl
@[simp] theorem f2_2 (xs : List PyData) (ys : List PyData) : f2 .add (.d (.tuple xs)) (.d (.tuple ys)) = gd (lenOk (xs.length + ys.length)) (.d (.tuple (xs ++ ys))) := rfl
@[simp] theorem f2_3 (xs : List PyData) (ys : List PyData) : f2 .add (.d (.list xs)) (.d (.list ys)) = gd (lenOk (xs.length + ys.length)) (.d (.list (xs ++ ys))) := rfl
@[simp] theorem f2_4 (s : Str) (t : Str) : f2 .add (.d (.str s)) (.d (.str t)) = gd (lenOk (s.length + t.length)) (.d (.str (s ++ t))) := rfl
@[simp] theorem f2_5 (xs : List PyData) (ys : List PyData) : f2 .addO (.d (.list xs)) (.d (.list ys)) = gd (lenOk (xs.length + ys.length)) (.own false (xs ++ ys)) := rfl
@[simp] theorem f2_6 (i : Int) (j : Int) : f2 .sub (.d (.int i)) (.d (.int j)) = .ok (.d (.int (i - j))) := rfl
@[simp] theorem f2_7 (i : Int) (j : Int) : f2 .mul (.d (.int i)) (.d (.int j)) = gd (cmulB i j) (.d (.int (i * j))) := rfl
@[simp] theorem f2_8 (k : Int) (xs : List PyData) : f2 .mul (.d (.tuple xs)) (.d (.int k)) = gd (!xs.isEmpty && decide (2 ≤ k) && decide (k ≤ 1000) && decide (xs.length ≤ 1000)) (.d (.tuple (List.replicate k.toNat xs).flatten)) := rfl
@[simp] theorem f2_9 (k : Int) (xs : List PyData) : f2 .mul (.d (.list xs)) (.d (.int k)) = gd (decide (0 ≤ k) && decide (k ≤ 1000) && decide (xs.length ≤ 1000)) (.d (.list (List.replicate k.toNat xs).flatten)) := rfl
@[simp] theorem f2_10 (i : Int) (j : Int) : f2 .mod (.d (.int i)) (.d (.int j)) = gd (decide (0 < j)) (.d (.int (i % j))) := rfl
@[simp] theorem f2_11 (i : Int) (j : Int) : f2 .fdiv (.d (.int i)) (.d (.int j)) = gd (decide (0 < j) && decide (j < 1073741824)) (.d (.int (i / j))) := rfl
@[simp] theorem f2_12 (i : Int) (j : Int) : f2 .band (.d (.int i)) (.d (.int j)) = .ok (.d (.int (Builtin.bitAnd i j))) := rfl
@[simp] theorem f2_13 (i : Int) (j : Int) : f2 .bxor (.d (.int i)) (.d (.int j)) = .ok (.d (.int (Builtin.bitXor i j))) := rfl
@[simp] theorem f2_14 (x : PyData) (y : PyData) : f2 .eq (.d x) (.d y) = gd (sh 60 x || sh 60 y) (.d (.bool (PyData.eqv x y))) := rfl
@[simp] theorem f2_15 (x : PyData) (y : PyData) : f2 .ne (.d x) (.d y) = gd (sh 60 x || sh 60 y) (.d (.bool (!PyData.eqv x y))) := rfl
@[simp] theorem f2_16 (xs : List PyData) : f2 .eq (.fd xs) (.own true []) = .ok (.d (.bool xs.isEmpty)) := rfl
@[simp] theorem f2_17 (xs : List PyData) : f2 .ne (.fd xs) (.own true []) = .ok (.d (.bool (!xs.isEmpty))) := rfl
@[simp] theorem f2_18 (i : Int) (j : Int) : f2 .lt (.d (.int i)) (.d (.int j)) = .ok (.d (.bool (decide (i < j)))) := rfl
@[simp] theorem f2_19 (i : Int) (j : Int) : f2 .le (.d (.int i)) (.d (.int j)) = .ok (.d (.bool (decide (i ≤ j)))) := rfl
@[simp] theorem f2_20 (i : Int) (j : Int) : f2 .gt (.d (.int i)) (.d (.int j)) = .ok (.d (.bool (decide (j < i)))) := rfl
@[simp] theorem f2_21 (i : Int) (j : Int) : f2 .ge (.d (.int i)) (.d (.int j)) = .ok (.d (.bool (decide (j ≤ i)))) := rfl
@[simp] theorem f2_22 (x : List PyData) (y : List PyData) : f2 .lt (.d (.tuple x)) (.d (.tuple y)) = gd (ltOk (.tuple x) (.tuple y)) (.d (.bool (PySem.W.dataLt (.tuple x) (.tuple y)))) := rfl
@[simp] theorem f2_23 (x : PyData) (xs : List PyData) : f2 .isin (.d x) (.d (.list xs)) = gd (sh 60 x || xs.all (sh 60)) (.d (.bool (memD x xs))) := rfl
@[simp] theorem f2_24 (x : PyData) (xs : List PyData) : f2 .isin (.d x) (.d (.tuple xs)) = gd (sh 60 x || xs.all (sh 60)) (.d (.bool (memD x xs))) := rfl
@[simp] theorem f2_25 (x : PyData) (xs : List PyData) : f2 .notin (.d x) (.d (.list xs)) = gd (sh 60 x || xs.all (sh 60)) (.d (.bool (!memD x xs))) := rfl
@[simp] theorem f2_26 (x : PyData) (xs : List PyData) : f2 .notin (.d x) (.d (.tuple xs)) = gd (sh 60 x || xs.all (sh 60)) (.d (.bool (!memD x xs))) := rfl
@[simp] theorem f2_27 (i : Int) (xs : List PyData) : f2 .ix (.d (.list xs)) (.d (.int i)) = optR (atI xs i) .d := rfl
@[simp] theorem f2_28 (i : Int) (xs : List PyData) : f2 .ix (.d (.tuple xs)) (.d (.int i)) = optR (atI xs i) .d := rfl
@[simp] theorem f1_1 (i : Int) : f1 .neg (.d (.int i)) = .ok (.d (.int (-i))) := rfl
@[simp] theorem f1_2 (i : Int) : f1 .inv (.d (.int i)) = .ok (.d (.int (Builtin.bitNot i))) := rfl
@[simp] theorem fTru_1  : fTru (.d .none) = .ok false := rfl
@[simp] theorem fTru_2 (b : Bool) : fTru (.d (.bool b)) = .ok b := rfl
@[simp] theorem fTru_3 (i : Int) : fTru (.d (.int i)) = .ok (i != 0) := rfl
@[simp] theorem fTru_4 (xs : List PyData) : fTru (.d (.list xs)) = .ok (!xs.isEmpty) := rfl
@[simp] theorem fTru_5 (xs : List PyData) : fTru (.d (.tuple xs)) = .ok (!xs.isEmpty) := rfl
@[simp] theorem fBl_1 (xs : List PyData) : fBl .len [.d (.list xs)] = .ok (.d (.int xs.length)) := rfl
@[simp] theorem fBl_2 (xs : List PyData) : fBl .len [.d (.tuple xs)] = .ok (.d (.int xs.length)) := rfl
@[simp] theorem fBl_3 (z : Str) : fBl .len [.d (.str z)] = gd (lenOk z.length) (.d (.int z.length)) := rfl
@[simp] theorem fBl_4 (xs : List PyData) : fBl .tup [.d (.list xs)] = .ok (.d (.tuple xs)) := rfl
@[simp] theorem fBl_5 (xs : List PyData) : fBl .tup [.d (.tuple xs)] = .ok (.d (.tuple xs)) := rfl
@[simp] theorem fBl_6 (xs : List PyData) : fBl .lst [.d (.list xs)] = .ok (.d (.list xs)) := rfl
@[simp] theorem fBl_7 (xs : List PyData) : fBl .lst [.d (.tuple xs)] = .ok (.d (.list xs)) := rfl
@[simp] theorem fBl_8 (xs : List PyData) : fBl .lst [.fd xs] = .ok (.d (.list xs)) := rfl
@[simp] theorem fBl_9 (xs : List PyData) : fBl .all [.d (.list xs)] = gd (xs.all isB) (.d (.bool (xs.all tru))) := rfl
@[simp] theorem fBl_10 (xs : List PyData) : fBl .srt [.d (.list xs)] = gd (srtB xs) (.d (.list (xs.mergeSort dle))) := rfl
@[simp] theorem fBl_11 (xs : List PyData) : fBl .srt [.d (.tuple xs)] = gd (srtB xs) (.d (.list (xs.mergeSort dle))) := rfl
@[simp] theorem fBl_12 (x : PyData) (xs : List PyData) : fBl .min [.d (.list (x :: xs))] = gd (minB (x :: xs)) (.d (PySem.W.minD x xs)) := rfl
@[simp] theorem fBl_13 (i : Int) (j : Int) : fBl .min2 [.d (.int i), .d (.int j)] = .ok (.d (.int (if j < i then j else i))) := rfl
@[simp] theorem fBl_14 (i : Int) (j : Int) : fBl .max2 [.d (.int i), .d (.int j)] = .ok (.d (.int (if j > i then j else i))) := rfl
@[simp] theorem fSl_1 (hi : Option Int) (lo : Option Int) (xs : List PyData) : fSl (.d (.list xs)) lo hi = .ok (.d (.list (cutD xs lo hi))) := rfl
@[simp] theorem fSl_2 (hi : Option Int) (lo : Option Int) (xs : List PyData) : fSl (.d (.tuple xs)) lo hi = .ok (.d (.tuple (cutD xs lo hi))) := rfl
@[simp] theorem fSl_3 (hi : Option Int) (lo : Option Int) (z : Str) : fSl (.d (.str z)) lo hi = gd (lenOk z.length) (.d (.str (cutS z lo hi))) := rfl
@[simp] theorem fBB_1 (xs : List PyData) : fBB .lstEnum (.d (.tuple xs)) = .ok (.d (.list (enumD xs))) := rfl
@[simp] theorem fBB_2 (n : Int) : fBB .lstRng (.d (.int n)) = gd (decide (n ≤ 100000) && decide (-100000 ≤ n)) (.d (.list (rngD 0 n.toNat))) := rfl
@[simp] theorem fBB_3 (n : Int) : fBB .tupRng (.d (.int n)) = gd (decide (n ≤ 100000) && decide (-100000 ≤ n)) (.d (.tuple (rngD 0 n.toNat))) := rfl
@[simp] theorem fBB_4 (xs : List PyData) : fBB .srtSet (.d (.list xs)) = fSrtSet (intsOf xs) := rfl
@[simp] theorem fBB_5 (xs : List PyData) : fBB .srtSet (.d (.tuple xs)) = fSrtSet (intsOf xs) := rfl
@[simp] theorem fBB_6 (xs : List PyData) : fBB .lenSet (.d (.list xs)) = fLenSet (intsOf xs) := rfl
@[simp] theorem fBB_7 (xs : List PyData) : fBB .lenSet (.d (.tuple xs)) = fLenSet (intsOf xs) := rfl
@[simp] theorem fRev_1 (xs : List PyData) : fRev (.d (.list xs)) = .ok (.d (.list xs.reverse)) := rfl
@[simp] theorem fRev_2 (xs : List PyData) : fRev (.d (.tuple xs)) = .ok (.d (.tuple xs.reverse)) := rfl
@[simp] theorem fSeq_1 (xs : List PyData) : fSeq (.d (.list xs)) = .ok xs := rfl
@[simp] theorem fSeq_2 (xs : List PyData) : fSeq (.d (.tuple xs)) = .ok xs := rfl
@[simp] theorem fSeq_3 (xs : List PyData) : fSeq (.fd xs) = .ok xs := rfl
@[simp] theorem fEnum_1 (xs : List PyData) : fEnum (.d (.list xs)) = .ok (enumD xs) := rfl
@[simp] theorem fEnum_2 (xs : List PyData) : fEnum (.d (.tuple xs)) = .ok (enumD xs) := rfl
@[simp] theorem fInt_1 (i : Int) : fInt (.d (.int i)) = .ok i := rfl
@[simp] theorem fDat_1 (x : PyData) : fDat (.d x) = .ok x := rfl
@[simp] theorem fBool_1 (b : Bool) : fBool (.d (.bool b)) = .ok b := rfl
@[simp] theorem fSlot_1 (x : PyData) : fSlot (some (.d x)) = .ok (.d x) := rfl
@[simp] theorem fSlot_2 (v : V) : fSlot (some (.r v)) = .ok (.r v) := rfl
@[simp] theorem fSlot_3 (xs : List PyData) : fSlot (some (.fd xs)) = .ok (.fd xs) := rfl
@[simp] theorem fRng_1 (n : Int) : fRng (.d (.int n)) = gd (decide (n ≤ 1000000) && decide (-1000000 ≤ n)) (rngD 0 n.toNat) := rfl
@[simp] theorem fRng2_1 (m : Int) (n : Int) : fRng2 (.d (.int m)) (.d (.int n)) = gd (decide (n ≤ 1000000) && decide (-1000000 ≤ n) && decide (m ≤ 1000000) && decide (0 ≤ m)) (rngD m (n - m).toNat) := rfl
@[simp] theorem fZip_1 (xs : List PyData) (ys : List PyData) : fZip (.d (.list xs)) (.d (.list ys)) = .ok (zipD xs ys) := rfl
@[simp] theorem fZip_2 (xs : List PyData) (ys : List PyData) : fZip (.d (.tuple xs)) (.d (.tuple ys)) = .ok (zipD xs ys) := rfl
@[simp] theorem fAug_1 (i : Int) (j : Int) : fAug .add i j = .ok (i + j) := rfl
@[simp] theorem fAug_2 (i : Int) (j : Int) : fAug .mul i j = gd (cmulB i j) (i * j) := rfl
@[simp] theorem fAug_3 (i : Int) (j : Int) : fAug .xor i j = .ok (Builtin.bitXor i j) := rfl
@[simp] theorem fOwn_1 (xs : List PyData) : fOwn (some (.own false xs)) = .ok xs := rfl
@[simp] theorem fIntS_1 (i : Int) : fIntS (some (.d (.int i))) = .ok i := rfl
@[simp] theorem fLst_1 (ys : List PyData) : fLst (.d (.list ys)) = .ok ys := rfl
@[simp] theorem fLst_2 (ys : List PyData) : fLst (.d (.tuple ys)) = .ok ys := rfl
@[simp] theorem fOne_1 (x : PyData) : fOne (.d x) = gd (keyD x).isSome (.own true [x]) := rfl
@[simp] theorem fDof_1 (xs : List PyData) : fDof (.d (.list xs)) = fKs (pairKs xs) := rfl
@[simp] theorem fOwnT_1 (xs : List PyData) : fOwnT (some (.own true xs)) = .ok xs := rfl
@[simp] theorem fFrz_1 (xs : List PyData) : fFrz (some (.own false xs)) = .ok (.d (.list xs)) := rfl
@[simp] theorem fFrz_2 (xs : List PyData) : fFrz (some (.own true xs)) = .ok (.fd xs) := rfl
@[simp] theorem fFd_1 (xs : List PyData) : fFd (.fd xs) = .ok xs := rfl
@[simp] theorem fKey_1 (x : PyData) : fKey (.d x) = gd (keyD x).isSome x := rfl
@[simp] theorem fNone_d (n : Bool) (x : PyData) : fNone n (.d x) = .ok (.d (.bool (if isNo x = true then !n else n))) := rfl
@[simp] theorem fIsa_d (t : Ty) (x : PyData) : fIsa t (.d x) = .ok (.d (.bool (isaT t x))) := rfl
@[simp] theorem fDats_0 : fDats [] = .ok [] := rfl
@[simp] theorem fDats_1 (a : PyData) : fDats [.d a] = .ok [a] := rfl
@[simp] theorem fDats_2 (a b : PyData) : fDats [.d a, .d b] = .ok [a, b] := rfl
@[simp] theorem fDats_3 (a b c : PyData) : fDats [.d a, .d b, .d c] = .ok [a, b, c] := rfl
@[simp] theorem fDats_4 (a b c d : PyData) : fDats [.d a, .d b, .d c, .d d] = .ok [a, b, c, d] := rfl
@[simp] theorem fDats_5 (a b c d e : PyData) : fDats [.d a, .d b, .d c, .d d, .d e] = .ok [a, b, c, d, e] := rfl
@[simp] theorem fDats_6 (a b c d e f : PyData) : fDats [.d a, .d b, .d c, .d d, .d e, .d f] = .ok [a, b, c, d, e, f] := rfl
@[simp] theorem fDats_7 (a b c d e f g : PyData) : fDats [.d a, .d b, .d c, .d d, .d e, .d f, .d g] = .ok [a, b, c, d, e, f, g] := rfl
@[simp] theorem fKs_1 (ks : List PyData) : fKs (some ks) = .ok (.fd (putsD [] ks)) := rfl
@[simp] theorem fApp_1 (F : Fn) (a : PyData) : fApp 1 F [.d a] = F [.d a] := rfl
@[simp] theorem fApp_0 (F : Fn) : fApp 0 F [] = F [] := rfl
@[simp] theorem fApp_2 (F : Fn) (a b : PyData) : fApp 2 F [.d a, .d b] = F [.d a, .d b] := rfl
@[simp] theorem fApp_3 (F : Fn) (a b c : PyData) : fApp 3 F [.d a, .d b, .d c] = F [.d a, .d b, .d c] := rfl
@[simp] theorem fApp_4 (F : Fn) (a b c d : PyData) : fApp 4 F [.d a, .d b, .d c, .d d] = F [.d a, .d b, .d c, .d d] := rfl
@[simp] theorem fCall_hd (k m : Nat) (F : Fn) (T : Tab) (r : Rs (List D)) : fCall ((k, m, F) :: T) k r = r.bind (fApp m F) := by simp [fCall]
@[simp] theorem fCall_tl {k j : Nat} (h : (k == j) = false) (m : Nat) (F : Fn) (T : Tab) (r : Rs (List D)) : fCall ((j, m, F) :: T) k r = fCall T k r := by simp [fCall, List.lookup_cons, h]
@[simp] theorem fCallK_hd (k m n : Nat) (F : Fn) (T : Tab) (r r' : Rs (List D)) : fCallK ((k, m, F) :: T) k n r r' = r.bind fun ds => if ds.length = n then r'.bind fun es => fApp m F (ds ++ es) else .no := by simp [fCallK]
@[simp] theorem fCallK_tl {k j : Nat} (h : (k == j) = false) (m n : Nat) (F : Fn) (T : Tab) (r r' : Rs (List D)) : fCallK ((j, m, F) :: T) k n r r' = fCallK T k n r r' := by simp [fCallK, List.lookup_cons, h]
@[simp] theorem fLam_ok1 (x : PyData) : fLam (.ok (.d x)) = .ok (.d (.tuple [.str "returns", x])) := rfl
@[simp] theorem cmpL_nil (p : Pat) (t : List S → Rs Bool) (e : List S → Rs D) (env : List S) : cmpL p t e env [] = .ok [] := rfl
@[simp] theorem evFor_nil (p : Pat) (b : List S → Out) (env : List S) : evFor p b [] env = .nx env := rfl
@[simp] theorem evFor_nm (i : Nat) (b : List S → Out) (x : PyData) (xs : List PyData) (env : List S) : evFor (.nm i) b (x :: xs) env = (b (env.set i (.d x))).seq (evFor (.nm i) b xs) := by simp [evFor]
@[simp] theorem run_1 (T : Tab) (n : Nat) (c : CS) (ds : List D) : run T n c ds = outR (evS T c (ds.map sl ++ List.replicate (n - ds.length) .no)) := rfl
section
variable {T : Tab} {env : List S}
@[simp] theorem evS_nil : evS T .nil env = .nx env := rfl
@[simp] theorem evS_cons (s r : CS) : evS T (.cons s r) env = (evS T s env).seq (evS T r) := rfl
@[simp] theorem evS_frz (i : Nat) (r : CS) : evS T (.frz i r) env = (fFrz env[i]?).th fun s => evS T r (env.set i s) := rfl
@[simp] theorem evS_drop (e : CE) : evS T (.drop e) env = ((ev T e).e env).th fun _ => .nx env := rfl
@[simp] theorem evS_ret (e : CE) : evS T (.ret e) env = ((ev T e).e env).th fun d => .rt d := rfl
def bO (c : Bool) (a b : Out) : Out := match c with | true => a | false => b
@[simp] theorem bO_k (c : Bool) (a b : Out) : bO c a b = if c = true then a else b := by cases c <;> rfl
@[simp] theorem evS_if (t : CE) (a b : CS) : evS T (.ifS t a b) env = ((ev T t).b env).th fun c => bO c (evS T a env) (evS T b env) := rfl
@[simp] theorem evS_set (i : Nat) (e : CE) : evS T (.set i e) env = ((ev T e).e env).th fun d => .nx (env.set i (sl d)) := rfl
@[simp] theorem evS_par (i k : Nat) (a b : CE) : evS T (.par i k a b) env = ((ev T a).e env).th fun x => ((ev T b).e env).th fun y => if (noOwn [x] || noOwn [y]) = true then .nx ((env.set i (sl x)).set k (sl y)) else .no := rfl
def oO (o : Option (List S)) : Out := match o with | some env' => .nx env' | none => .no
@[simp] theorem oO_s (e : List S) : oO (some e) = .nx e := rfl
@[simp] theorem evS_pat (p : Pat) (e : CE) : evS T (.pat p e) env = ((ev T e).e env).th fun d => (fDat d).th fun x => oO (bindP p x env) := rfl
@[simp] theorem evS_app (i : Nat) (e : CE) : evS T (.app i e) env = (fOwn env[i]?).th fun xs => ((ev T e).e env).th fun d => (fDat d).th fun x => if xs.length < 1000000 then .nx (env.set i (.own false (xs ++ [x]))) else .no := rfl
@[simp] theorem evS_ext (i : Nat) (e : CE) : evS T (.ext i e) env = (fOwn env[i]?).th fun xs => ((ev T e).e env).th fun d => (fLst d).th fun ys => if xs.length + ys.length ≤ 1000000 then .nx (env.set i (.own false (xs ++ ys))) else .no := rfl
@[simp] theorem evS_dput (i : Nat) (e : CE) : evS T (.dput i e) env = (fOwnT env[i]?).th fun xs => ((ev T e).e env).th fun d => (fKey d).th fun y => if xs.length < 1000000 then .nx (env.set i (.own true (putD xs y))) else .no := rfl
@[simp] theorem evS_dupd (i : Nat) (e : CE) : evS T (.dupd i e) env = (fOwnT env[i]?).th fun xs => ((ev T e).e env).th fun d => (fFd d).th fun ys => if updB xs ys = true then .nx (env.set i (.own true (putsD xs ys))) else .no := rfl
@[simp] theorem evS_par3 (i j k : Nat) (a b c : CE) : evS T (.par3 i j k a b c) env = ((ev T a).e env).th fun x => ((ev T b).e env).th fun y => ((ev T c).e env).th fun z => if noOwn [x, y, z] = true then .nx (((env.set i (sl x)).set j (sl y)).set k (sl z)) else .no := rfl
@[simp] theorem evS_aug (o : Aug) (i : Nat) (e : CE) : evS T (.aug o i e) env = (fIntS env[i]?).th fun a => ((ev T e).e env).th fun d => (fInt d).th fun b => (fAug o a b).th fun z => .nx (env.set i (.d (.int z))) := rfl
@[simp] theorem evS_raise (c : Nat) : evS T (.raise c) env = .ex c := rfl
@[simp] theorem evS_for (it : CE) (p : Pat) (b : CS) : evS T (.forS it p b) env = ((ev T it).i env).th fun xs => evFor p (evS T b) xs env := rfl
@[simp] theorem evS_wh (t : CE) (b : CS) : evS T (.whileS t b) env = evWh (ev T t).b (evS T b) fuel env := rfl
end
end Q
namespace Q
open PySem PySem.Spec PyProof.Rows L2
def c__law_task : CS := (.cons (.par 4 5 (.bin .add (.con (.int 1)) (.call 0 (.cons (.var 0) (.cons (.var 1) (.cons (.var 2) .nil))))) (.lst true .nil)) (.cons (.forS (.rng1 (.bin .add (.con (.int 1)) (.call 0 (.cons (.var 0) (.cons (.var 1) (.cons (.var 3) .nil)))))) (.nm 6) (.cons (.set 7 (.call 0 (.cons (.var 0) (.cons (.var 1) (.cons (.var 4) .nil))))) (.cons (.set 8 (.comp false (.rng1 (.var 4)) (.nm 9) (.bin .eq (.call 0 (.cons (.var 0) (.cons (.var 1) (.cons (.con (.int 2)) .nil)))) (.con (.int 0))) (.var 9))) (.cons (.app 5 (.tup (.cons (.var 7) (.cons (.blt .tup (.cons (.comp false (.var 8) (.nm 9) (.bin .ne (.var 9) (.var 7)) (.var 9)) .nil)) .nil)))) .nil)))) (.frz 5 (.cons (.ret (.tup (.cons (.var 4) (.cons (.blt .tup (.cons (.var 5) .nil)) .nil)))) .nil))))
def c__law_sum : CS := (.cons (.set 3 (.blt .tup (.cons (.comp false (.rng1 (.var 2)) (.nm 4) (.bin .eq (.call 0 (.cons (.var 0) (.cons (.var 1) (.cons (.con (.int 2)) .nil)))) (.con (.int 0))) (.var 4)) .nil))) (.cons (.ret (.ite (.bin .ne (.var 3) (.tup .nil)) (.var 3) (.tup (.cons (.call 0 (.cons (.var 0) (.cons (.var 1) (.cons (.var 2) .nil)))) .nil)))) .nil))
def c__law_code : CS := (.cons (.ret (.blt .tup (.cons (.comp false (.rng1 (.call 0 (.cons (.var 0) (.cons (.var 1) (.cons (.bin .add (.var 3) (.con (.int 1))) .nil))))) (.nm 4) .yes (.call 3 (.cons (.var 0) (.cons (.var 1) (.cons (.var 2) .nil))))) .nil))) .nil)
def c_bit : CS := (.cons (.set 1 (.con (.int 1))) (.cons (.forS (.rng1 (.var 0)) (.nm 2) (.cons (.aug .mul 1 (.con (.int 2))) .nil)) (.cons (.ret (.var 1)) .nil)))
def F_bit : Fn := run [] 3 c_bit
def c_number_of : CS := (.cons (.set 1 (.con (.int 0))) (.cons (.forS (.var 0) (.nm 2) (.cons (.aug .add 1 (.call 5 (.cons (.var 2) .nil))) .nil)) (.cons (.ret (.var 1)) .nil)))
def F_number_of : Fn := run [(5, 1, F_bit)] 3 c_number_of
def c_messages_of : CS := (.cons (.par 1 2 (.lst true .nil) (.con (.int 0))) (.cons (.whileS (.bin .gt (.var 0) (.con (.int 0))) (.cons (.ifS (.bin .eq (.bin .mod (.var 0) (.con (.int 2))) (.con (.int 1))) (.cons (.app 1 (.var 2)) .nil) .nil) (.cons (.par 0 2 (.bin .fdiv (.var 0) (.con (.int 2))) (.bin .add (.var 2) (.con (.int 1)))) .nil))) (.frz 1 (.cons (.ret (.blt .tup (.cons (.var 1) .nil))) .nil))))
def F_messages_of : Fn := run [] 3 c_messages_of
def c_lowest : CS := (.cons (.ret (.bin .band (.var 0) (.bin .sub (.con (.int 0)) (.var 0)))) .nil)
def F_lowest : Fn := run [] 1 c_lowest
def c_cleared : CS := (.cons (.forS (.var 0) (.nm 2) (.cons (.ifS (.bin .ne (.bin .band (.var 1) (.call 8 (.cons (.var 2) .nil))) (.con (.int 0))) (.cons (.aug .xor 1 (.var 2)) .nil) .nil) .nil)) (.cons (.ret (.var 1)) .nil))
def F_cleared : Fn := run [(8, 1, F_lowest)] 3 c_cleared
def c_joined : CS := (.cons (.set 2 (.call 9 (.cons (.var 0) (.cons (.var 1) .nil)))) (.cons (.ifS (.bin .eq (.var 2) (.con (.int 0))) (.cons (.ret (.var 0)) .nil) .nil) (.cons (.set 3 (.call 8 (.cons (.var 2) .nil))) (.cons (.set 4 (.bin .add (.comp false (.var 0) (.nm 5) .yes (.ite (.bin .ne (.bin .band (.var 5) (.var 3)) (.con (.int 0))) (.bin .bxor (.var 5) (.var 2)) (.var 5))) (.lst false (.cons (.var 2) .nil)))) (.cons (.ret (.blt .tup (.cons (.comp false (.blt .srt (.cons (.comp false (.var 4) (.nm 5) .yes (.tup (.cons (.call 8 (.cons (.var 5) .nil)) (.cons (.var 5) .nil)))) .nil)) (.cons (.nm 6) (.cons (.nm 5) .nil)) .yes (.var 5)) .nil))) .nil)))))
def F_joined : Fn := run [(8, 1, F_lowest), (9, 2, F_cleared)] 7 c_joined
def c_basis_of : CS := (.cons (.set 1 (.tup .nil)) (.cons (.forS (.var 0) (.nm 2) (.cons (.set 1 (.call 10 (.cons (.var 1) (.cons (.var 2) .nil)))) .nil)) (.cons (.ret (.var 1)) .nil)))
def F_basis_of : Fn := run [(10, 2, F_joined)] 3 c_basis_of
def c_told : CS := (.cons (.set 3 (.call 5 (.cons (.var 2) .nil))) (.cons (.ifS (.bin .ne (.bin .band (.var 3) (.var 1)) (.con (.int 0))) (.cons (.ret (.con (.bool true))) .nil) .nil) (.cons (.set 4 (.call 11 (.cons (.comp false (.var 0) (.nm 5) .yes (.bin .band (.var 5) (.un .inv (.var 1)))) .nil))) (.cons (.ret (.bin .eq (.call 9 (.cons (.var 4) (.cons (.var 3) .nil))) (.con (.int 0)))) .nil))))
def F_told : Fn := run [(5, 1, F_bit), (9, 2, F_cleared), (11, 1, F_basis_of)] 6 c_told
def c_is_between : CS := (.cons (.ret (.and (.isa .int (.var 0)) (.and (.not (.isa .bool (.var 0))) (.chain .le .le (.var 1) (.var 0) (.var 2))))) .nil)
def F_is_between : Fn := run [] 3 c_is_between
def c_is_ascending : CS := (.cons (.ret (.blt .all (.cons (.comp false (.zip (.var 0) (.sl (.var 0) (.con (.int 1)) .no)) (.cons (.nm 1) (.cons (.nm 2) .nil)) .yes (.bin .lt (.var 1) (.var 2))) .nil))) .nil)
def F_is_ascending : Fn := run [] 3 c_is_ascending
def c_are_messages : CS := (.cons (.ifS (.or (.not (.isa .tuple (.var 1))) (.not (.blt .all (.cons (.comp false (.var 1) (.nm 2) .yes (.call 13 (.cons (.var 2) (.cons (.con (.int 0)) (.cons (.bin .sub (.var 0) (.con (.int 1))) .nil))))) .nil)))) (.cons (.ret (.con (.bool false))) .nil) .nil) (.cons (.ret (.call 14 (.cons (.var 1) .nil))) .nil))
def F_are_messages : Fn := run [(13, 3, F_is_between), (14, 1, F_is_ascending)] 3 c_are_messages
def c_is_receiver : CS := (.cons (.ifS (.or (.not (.isa .tuple (.var 1))) (.or (.bin .ne (.blt .len (.cons (.var 1) .nil)) (.con (.int 2))) (.not (.call 13 (.cons (.bin .ix (.var 1) (.con (.int 0))) (.cons (.con (.int 0)) (.cons (.bin .sub (.var 0) (.con (.int 1))) .nil))))))) (.cons (.ret (.con (.bool false))) .nil) .nil) (.cons (.ret (.and (.call 15 (.cons (.var 0) (.cons (.bin .ix (.var 1) (.con (.int 1))) .nil))) (.bin .notin (.bin .ix (.var 1) (.con (.int 0))) (.bin .ix (.var 1) (.con (.int 1)))))) .nil))
def F_is_receiver : Fn := run [(13, 3, F_is_between), (15, 2, F_are_messages)] 2 c_is_receiver
def c_is_task : CS := (.cons (.ifS (.or (.not (.isa .tuple (.var 0))) (.or (.bin .ne (.blt .len (.cons (.var 0) .nil)) (.con (.int 2))) (.not (.call 13 (.cons (.bin .ix (.var 0) (.con (.int 0))) (.cons (.con (.int 1)) (.cons (.glo 0) .nil))))))) (.cons (.ret (.con (.bool false))) .nil) .nil) (.cons (.pat (.cons (.nm 1) (.cons (.nm 2) .nil)) (.var 0)) (.cons (.ifS (.or (.not (.isa .tuple (.var 2))) (.not (.chain .le .le (.con (.int 1)) (.blt .len (.cons (.var 2) .nil)) (.glo 0)))) (.cons (.ret (.con (.bool false))) .nil) .nil) (.cons (.ret (.blt .all (.cons (.comp false (.var 2) (.nm 3) .yes (.call 16 (.cons (.var 1) (.cons (.var 3) .nil)))) .nil))) .nil))))
def F_is_task : Fn := run [(13, 3, F_is_between), (16, 2, F_is_receiver)] 4 c_is_task
def c_check_task : CS := (.cons (.ifS (.not (.call 17 (.cons (.var 0) .nil))) (.cons (.raise 1) .nil) .nil) .nil)
def F_check_task : Fn := run [(17, 1, F_is_task)] 1 c_check_task
def c_check_messages : CS := (.cons (.ifS (.not (.call 13 (.cons (.var 0) (.cons (.con (.int 1)) (.cons (.glo 0) .nil))))) (.cons (.raise 2) .nil) .nil) .nil)
def F_check_messages : Fn := run [(13, 3, F_is_between)] 1 c_check_messages
def c_is_sum : CS := (.cons (.ret (.and (.call 15 (.cons (.var 0) (.cons (.var 1) .nil))) (.bin .ne (.var 1) (.tup .nil)))) .nil)
def F_is_sum : Fn := run [(15, 2, F_are_messages)] 2 c_is_sum
def c_is_code_of : CS := (.cons (.ret (.and (.isa .tuple (.var 1)) (.and (.bin .le (.blt .len (.cons (.var 1) .nil)) (.glo 1)) (.blt .all (.cons (.comp false (.var 1) (.nm 2) .yes (.call 20 (.cons (.var 0) (.cons (.var 2) .nil)))) .nil))))) .nil)
def F_is_code_of : Fn := run [(20, 2, F_is_sum)] 3 c_is_code_of
def c_is_code : CS := (.cons (.drop (.call 19 (.cons (.var 0) .nil))) (.cons (.ret (.call 21 (.cons (.var 0) (.cons (.var 1) .nil)))) .nil))
def F_is_code : Fn := run [(19, 1, F_check_messages), (21, 2, F_is_code_of)] 2 c_is_code
def c_check_code : CS := (.cons (.ifS (.not (.call 21 (.cons (.var 0) (.cons (.var 1) .nil)))) (.cons (.raise 3) .nil) .nil) .nil)
def F_check_code : Fn := run [(21, 2, F_is_code_of)] 2 c_check_code
def c_basis_for : CS := (.cons (.ret (.call 11 (.cons (.comp false (.var 0) (.nm 1) .yes (.call 6 (.cons (.var 1) .nil))) .nil))) .nil)
def F_basis_for : Fn := run [(6, 1, F_number_of), (11, 1, F_basis_of)] 2 c_basis_for
def c_learned_from : CS := (.cons (.set 3 (.call 6 (.cons (.var 2) .nil))) (.cons (.ret (.blt .tup (.cons (.comp false (.rng1 (.var 0)) (.nm 4) (.call 12 (.cons (.var 1) (.cons (.var 3) (.cons (.var 4) .nil)))) (.var 4)) .nil))) .nil))
def F_learned_from : Fn := run [(6, 1, F_number_of), (12, 3, F_told)] 5 c_learned_from
def c_learned : CS := (.cons (.drop (.call 19 (.cons (.var 0) .nil))) (.cons (.drop (.call 23 (.cons (.var 0) (.cons (.var 1) .nil)))) (.cons (.ifS (.not (.call 15 (.cons (.var 0) (.cons (.var 2) .nil)))) (.cons (.raise 4) .nil) .nil) (.cons (.ret (.call 25 (.cons (.var 0) (.cons (.call 24 (.cons (.var 1) .nil)) (.cons (.var 2) .nil))))) .nil))))
def F_learned : Fn := run [(15, 2, F_are_messages), (19, 1, F_check_messages), (23, 2, F_check_code), (24, 1, F_basis_for), (25, 3, F_learned_from)] 3 c_learned
def c_served_by : CS := (.cons (.set 2 (.bb .lstEnum (.bin .ix (.var 0) (.con (.int 1))))) (.cons (.ret (.blt .tup (.cons (.comp false (.var 2) (.cons (.nm 3) (.cons (.cons (.nm 4) (.cons (.nm 5) .nil)) .nil)) (.call 12 (.cons (.var 1) (.cons (.call 6 (.cons (.var 5) .nil)) (.cons (.var 4) .nil)))) (.var 3)) .nil))) .nil))
def F_served_by : Fn := run [(6, 1, F_number_of), (12, 3, F_told)] 6 c_served_by
def c_check_both : CS := (.cons (.drop (.call 18 (.cons (.var 0) .nil))) (.cons (.drop (.call 23 (.cons (.bin .ix (.var 0) (.con (.int 0))) (.cons (.var 1) .nil)))) .nil))
def F_check_both : Fn := run [(18, 1, F_check_task), (23, 2, F_check_code)] 2 c_check_both
def c_served : CS := (.cons (.drop (.call 28 (.cons (.var 0) (.cons (.var 1) .nil)))) (.cons (.ret (.call 27 (.cons (.var 0) (.cons (.call 24 (.cons (.var 1) .nil)) .nil)))) .nil))
def F_served : Fn := run [(24, 1, F_basis_for), (27, 2, F_served_by), (28, 2, F_check_both)] 2 c_served
def c_does_serve : CS := (.cons (.ret (.bin .eq (.blt .len (.cons (.call 27 (.cons (.var 0) (.cons (.var 1) .nil))) .nil)) (.blt .len (.cons (.bin .ix (.var 0) (.con (.int 1))) .nil)))) .nil)
def F_does_serve : Fn := run [(27, 2, F_served_by)] 2 c_does_serve
def c_is_serving : CS := (.cons (.drop (.call 28 (.cons (.var 0) (.cons (.var 1) .nil)))) (.cons (.ret (.call 30 (.cons (.var 0) (.cons (.call 24 (.cons (.var 1) .nil)) .nil)))) .nil))
def F_is_serving : Fn := run [(24, 1, F_basis_for), (28, 2, F_check_both), (30, 2, F_does_serve)] 2 c_is_serving
def c_check_receiver : CS := (.cons (.ifS (.not (.call 13 (.cons (.var 1) (.cons (.con (.int 0)) (.cons (.bin .sub (.blt .len (.cons (.bin .ix (.var 0) (.con (.int 1))) .nil)) (.con (.int 1))) .nil))))) (.cons (.raise 5) .nil) .nil) .nil)
def F_check_receiver : Fn := run [(13, 3, F_is_between)] 2 c_check_receiver
def c_does_decode : CS := (.cons (.pat (.cons (.nm 4) (.cons (.nm 5) .nil)) (.bin .ix (.bin .ix (.var 0) (.con (.int 1))) (.var 2))) (.cons (.set 6 (.con (.int 0))) (.cons (.forS (.var 3) (.nm 7) (.cons (.aug .xor 6 (.call 6 (.cons (.bin .ix (.var 1) (.var 7)) .nil))) .nil)) (.cons (.set 8 (.call 7 (.cons (.var 6) .nil))) (.cons (.ret (.and (.bin .isin (.var 4) (.var 8)) (.blt .all (.cons (.comp false (.var 8) (.nm 9) .yes (.or (.bin .eq (.var 9) (.var 4)) (.bin .isin (.var 9) (.var 5)))) .nil)))) .nil)))))
def F_does_decode : Fn := run [(6, 1, F_number_of), (7, 1, F_messages_of)] 10 c_does_decode
def c_choices_of : CS := (.cons (.set 1 (.lst false (.cons (.tup .nil) .nil))) (.cons (.forS (.rng1 (.var 0)) (.nm 2) (.cons (.set 1 (.bin .add (.var 1) (.comp false (.var 1) (.nm 4) .yes (.bin .add (.var 4) (.tup (.cons (.var 2) .nil)))))) .nil)) (.cons (.ret (.comp false (.blt .srt (.cons (.comp false (.var 1) (.nm 4) .yes (.tup (.cons (.blt .len (.cons (.var 4) .nil)) (.cons (.var 4) .nil)))) .nil)) (.cons (.nm 3) (.cons (.nm 4) .nil)) .yes (.var 4))) .nil)))
def F_choices_of : Fn := run [] 5 c_choices_of
def c_decoder : CS := (.cons (.drop (.call 28 (.cons (.var 0) (.cons (.var 1) .nil)))) (.cons (.drop (.call 32 (.cons (.var 0) (.cons (.var 2) .nil)))) (.cons (.forS (.call 34 (.cons (.blt .len (.cons (.var 1) .nil)) .nil)) (.nm 3) (.cons (.ifS (.call 33 (.cons (.var 0) (.cons (.var 1) (.cons (.var 2) (.cons (.var 3) .nil))))) (.cons (.ret (.var 3)) .nil) .nil) .nil)) (.cons (.ret (.con .none)) .nil))))
def F_decoder : Fn := run [(28, 2, F_check_both), (32, 2, F_check_receiver), (33, 4, F_does_decode), (34, 1, F_choices_of)] 4 c_decoder
def c_is_decoder : CS := (.cons (.drop (.call 28 (.cons (.var 0) (.cons (.var 1) .nil)))) (.cons (.drop (.call 32 (.cons (.var 0) (.cons (.var 2) .nil)))) (.cons (.ifS (.or (.not (.isa .tuple (.var 3))) (.not (.blt .all (.cons (.comp false (.var 3) (.nm 4) .yes (.call 13 (.cons (.var 4) (.cons (.con (.int 0)) (.cons (.bin .sub (.blt .len (.cons (.var 1) .nil)) (.con (.int 1))) .nil))))) .nil)))) (.cons (.ret (.con (.bool false))) .nil) .nil) (.cons (.ret (.and (.call 14 (.cons (.var 3) .nil)) (.call 33 (.cons (.var 0) (.cons (.var 1) (.cons (.var 2) (.cons (.var 3) .nil))))))) .nil))))
def F_is_decoder : Fn := run [(13, 3, F_is_between), (14, 1, F_is_ascending), (28, 2, F_check_both), (32, 2, F_check_receiver), (33, 4, F_does_decode)] 5 c_is_decoder
def c_code_of : CS := (.cons (.ret (.blt .tup (.cons (.comp false (.var 0) (.nm 1) .yes (.call 7 (.cons (.var 1) .nil))) .nil))) .nil)
def F_code_of : Fn := run [(7, 1, F_messages_of)] 2 c_code_of
def c_reduced : CS := (.cons (.drop (.call 19 (.cons (.var 0) .nil))) (.cons (.drop (.call 23 (.cons (.var 0) (.cons (.var 1) .nil)))) (.cons (.ret (.call 37 (.cons (.call 24 (.cons (.var 1) .nil)) .nil))) .nil)))
def F_reduced : Fn := run [(19, 1, F_check_messages), (23, 2, F_check_code), (24, 1, F_basis_for), (37, 1, F_code_of)] 2 c_reduced
def c_are_equal : CS := (.cons (.drop (.call 19 (.cons (.var 0) .nil))) (.cons (.drop (.call 23 (.cons (.var 0) (.cons (.var 1) .nil)))) (.cons (.drop (.call 23 (.cons (.var 0) (.cons (.var 2) .nil)))) (.cons (.ret (.bin .eq (.call 24 (.cons (.var 1) .nil)) (.call 24 (.cons (.var 2) .nil)))) .nil))))
def F_are_equal : Fn := run [(19, 1, F_check_messages), (23, 2, F_check_code), (24, 1, F_basis_for)] 3 c_are_equal
def c_rank : CS := (.cons (.drop (.call 19 (.cons (.var 0) .nil))) (.cons (.drop (.call 23 (.cons (.var 0) (.cons (.var 1) .nil)))) (.cons (.ret (.blt .len (.cons (.call 24 (.cons (.var 1) .nil)) .nil))) .nil)))
def F_rank : Fn := run [(19, 1, F_check_messages), (23, 2, F_check_code), (24, 1, F_basis_for)] 2 c_rank
end Q
namespace Q
open PySem PySem.Spec PyProof.Rows L2
def c__law_is : CS := (.cons (.ret (.and (.isa .bool (.var 0)) (.bin .eq (.var 0) (.var 1)))) .nil)
def F__law_is : Fn := run [] 2 c__law_is
def c__law_added : CS := (.cons (.set 1 (.lst false .nil)) (.cons (.forS (.var 0) (.nm 2) (.cons (.set 3 (.comp false (.var 1) (.nm 4) (.bin .notin (.var 4) (.var 2)) (.var 4))) (.cons (.set 1 (.bin .add (.var 3) (.comp false (.var 2) (.nm 4) (.bin .notin (.var 4) (.var 1)) (.var 4)))) .nil))) (.cons (.ret (.blt .tup (.cons (.blt .srt (.cons (.var 1) .nil)) .nil))) .nil)))
def F__law_added : Fn := run [] 5 c__law_added
def c__law_span : CS := (.cons (.set 1 (.lst false (.cons (.tup .nil) .nil))) (.cons (.forS (.var 0) (.nm 2) (.cons (.ifS (.bin .notin (.var 2) (.var 1)) (.cons (.set 1 (.bin .add (.var 1) (.comp false (.var 1) (.nm 3) .yes (.call 85 (.cons (.tup (.cons (.var 2) (.cons (.var 3) .nil))) .nil))))) .nil) .nil) .nil)) (.cons (.ret (.blt .srt (.cons (.var 1) .nil))) .nil)))
def F__law_span : Fn := run [(85, 1, F__law_added)] 4 c__law_span
def c__law_tells : CS := (.cons (.ifS (.bin .isin (.var 2) (.var 1)) (.cons (.ret (.con (.bool true))) .nil) .nil) (.cons (.forS (.var 0) (.nm 3) (.cons (.set 4 (.comp false (.var 3) (.nm 5) (.and (.bin .ne (.var 5) (.var 2)) (.bin .notin (.var 5) (.var 1))) (.var 5))) (.cons (.ifS (.and (.bin .isin (.var 2) (.var 3)) (.bin .eq (.var 4) (.lst false .nil))) (.cons (.ret (.con (.bool true))) .nil) .nil) .nil))) (.cons (.ret (.con (.bool false))) .nil)))
def F__law_tells : Fn := run [] 6 c__law_tells
def c__law_serves : CS := (.cons (.set 2 (.call 86 (.cons (.var 1) .nil))) (.cons (.ret (.blt .tup (.cons (.comp false (.enum (.bin .ix (.var 0) (.con (.int 1)))) (.cons (.nm 3) (.cons (.cons (.nm 4) (.cons (.nm 5) .nil)) .nil)) (.call 87 (.cons (.var 2) (.cons (.var 5) (.cons (.var 4) .nil)))) (.var 3)) .nil))) .nil))
def F__law_serves : Fn := run [(86, 1, F__law_span), (87, 3, F__law_tells)] 6 c__law_serves
def c__law_decodes : CS := (.cons (.pat (.cons (.nm 4) (.cons (.nm 5) .nil)) (.bin .ix (.bin .ix (.var 0) (.con (.int 1))) (.var 2))) (.cons (.set 6 (.call 85 (.cons (.comp false (.var 3) (.nm 7) .yes (.bin .ix (.var 1) (.var 7))) .nil))) (.cons (.ret (.and (.bin .isin (.var 4) (.var 6)) (.bin .eq (.comp false (.var 6) (.nm 8) (.and (.bin .ne (.var 8) (.var 4)) (.bin .notin (.var 8) (.var 5))) (.var 8)) (.lst false .nil)))) .nil)))
def F__law_decodes : Fn := run [(85, 1, F__law_added)] 9 c__law_decodes
end Q
namespace Q
open PySem PySem.Spec PyProof.Rows L2
/-! ### what the small defs answer -/
def btw (v : PyData) (lo hi : Int) : Bool := match v with
  | .int i => decide (lo ≤ i) && decide (i ≤ hi)
  | _ => false
def isI : PyData → Bool
  | .int _ => true
  | _ => false
def lt2 : PyData → Bool
  | .tuple [.int a, .int b] => decide (a < b)
  | _ => false
def asc (xs : List PyData) : Bool := (zipD xs (xs.drop 1)).all lt2
def areM (m : Int) (v : PyData) : Bool := match v with
  | .tuple xs => xs.all (fun x => btw x 0 (m - 1)) && asc xs
  | _ => false
def memT (w : PyData) : PyData → Bool
  | .tuple ks => memD w ks
  | _ => false
theorem areM_tup {m : Int} {k : PyData} (h : areM m k = true) : ∃ ks, k = .tuple ks ∧ ks.all (fun x => btw x 0 (m - 1)) = true ∧ asc ks = true := by
  cases k <;> simp [areM] at h ⊢
  exact h
def isRecv (m : Int) (v : PyData) : Bool := match v with
  | .tuple [w, k] => btw w 0 (m - 1) && areM m k && !memT w k
  | _ => false
def recvs (w k : PyData) : Bool := match w, k with
  | .int m, .tuple rs => decide (1 ≤ rs.length) && decide (rs.length ≤ 6) && rs.all (isRecv m)
  | _, _ => false
def isTask (v : PyData) : Bool := match v with
  | .tuple [w, k] => btw w 1 6 && recvs w k
  | _ => false
def isSum (m : Int) (v : PyData) : Bool := areM m v && !PyData.eqv v (.tuple [])
def isCode (m : Int) (v : PyData) : Bool := match v with
  | .tuple xs => decide (xs.length ≤ 8) && xs.all (isSum m)
  | _ => false
@[simp] def f_is_between : List D → Option PyData
  | [.d v, .d (.int lo), .d (.int hi)] => some (.bool (btw v lo hi))
  | _ => none
@[simp] def f_is_ascending : List D → Option PyData
  | [.d (.tuple xs)] => if xs.all isI = true then some (.bool (asc xs)) else none
  | _ => none
@[simp] def f_are_messages : List D → Option PyData
  | [.d (.int m), .d v] => some (.bool (areM m v))
  | _ => none
@[simp] def f_is_receiver : List D → Option PyData
  | [.d (.int m), .d v] => some (.bool (isRecv m v))
  | _ => none
@[simp] def f_is_task : List D → Option PyData
  | [.d v] => some (.bool (isTask v))
  | _ => none
@[simp] def f_check_messages : List D → Option PyData
  | [.d v] => if btw v 1 6 = true then some .none else none
  | _ => none
@[simp] def f_is_sum : List D → Option PyData
  | [.d (.int m), .d v] => some (.bool (isSum m v))
  | _ => none
@[simp] def f_is_code_of : List D → Option PyData
  | [.d (.int m), .d v] => some (.bool (isCode m v))
  | _ => none
@[simp] def f_is_code : List D → Option PyData
  | [.d (.int m), .d v] => if btw (.int m) 1 6 = true then some (.bool (isCode m v)) else none
  | _ => none
@[simp] def f__law_is : List D → Option PyData
  | [.d (.bool a), .d (.bool b)] => some (.bool (a == b))
  | _ => none
@[simp] def f__law_bounds : List D → Option PyData
  | [] => some (.bool true)
  | _ => none
@[simp] theorem spF_k {Ω : Type} {ds : List D} {ω : Ω} {Q : QD Ω} {E : XD Ω} {f : List D → Option PyData} : spF f ds ω Q E = ∃ r, f ds = some r ∧ Q (.d r) ω := rfl
@[simp] theorem atI_c0 {α : Type} (x : α) (xs : List α) : atI (x :: xs) 0 = some x := by simp [atI, ixN]
@[simp] theorem atI_c1 {α : Type} (x y : α) (xs : List α) : atI (x :: y :: xs) 1 = some y := by
  have : (1 : Int) < (xs.length : Int) + 1 + 1 := by omega
  simp [atI, ixN, this]
@[simp] theorem depth_int (i : Int) : (PyData.int i).depth = 0 := by simp [PyData.depth]
@[simp] theorem depth_bool (i : Bool) : (PyData.bool i).depth = 0 := by simp [PyData.depth]
@[simp] theorem depth_none : (PyData.none).depth = 0 := by simp [PyData.depth]
@[simp] theorem depth_str (i : Str) : (PyData.str i).depth = 0 := by simp [PyData.depth]
@[simp] theorem eqv_ii (i j : Int) : PyData.eqv (.int i) (.int j) = decide (i = j) := by rw [PyData.eqv]; by_cases h : i = j <;> simp [h]
@[simp] theorem eqv_bb (i j : Bool) : PyData.eqv (.bool i) (.bool j) = decide (i = j) := by rw [PyData.eqv]; by_cases h : i = j <;> simp [h]
theorem cutD_1 {α : Type} (xs : List α) : cutD xs (some 1) none = xs.drop 1 := by
  unfold cutD
  cases xs with
  | nil => simp
  | cons x r =>
    have h1 : HT.sIx (x :: r).length 0 (some 1) = 1 := by simp [HT.sIx]
    have h2 : HT.sIx (x :: r).length (x :: r).length none = (x :: r).length := by simp [HT.sIx]
    rw [h1, h2]
    simp
theorem isI_of {x : PyData} (h : isI x = true) : ∃ i, x = .int i := by cases x <;> simp [isI] at h ⊢
theorem zip_mem : ∀ {xs ys : List PyData} {z : PyData}, z ∈ zipD xs ys → ∃ a ∈ xs, ∃ b ∈ ys, z = .tuple [a, b]
  | x :: xs, y :: ys, z, h => by
    rcases List.mem_cons.mp h with e | e
    · exact ⟨x, List.mem_cons_self, y, List.mem_cons_self, e⟩
    · obtain ⟨a, ha, b, hb, e⟩ := zip_mem e
      exact ⟨a, List.mem_cons_of_mem _ ha, b, List.mem_cons_of_mem _ hb, e⟩
  | [], _, _, h => by simp [zipD] at h
  | _ :: _, [], _, h => by simp [zipD] at h
theorem zip_ints {xs : List PyData} (h : xs.all isI = true) (z : PyData) (hz : z ∈ zipD xs xs.tail) : ∃ a b, z = .tuple [.int a, .int b] := by
  obtain ⟨a, ha, b, hb, rfl⟩ := zip_mem hz
  obtain ⟨i, rfl⟩ := isI_of (List.all_eq_true.mp h a ha)
  obtain ⟨j, rfl⟩ := isI_of (List.all_eq_true.mp h b (List.mem_of_mem_tail hb))
  exact ⟨i, j, rfl⟩
theorem btw_int {v : PyData} {lo hi : Int} (h : btw v lo hi = true) : ∃ i, v = .int i ∧ lo ≤ i ∧ i ≤ hi := by
  cases v <;> simp [btw] at h ⊢
  exact h
theorem btw_isI {v : PyData} {lo hi : Int} (h : btw v lo hi = true) : isI v = true := by
  obtain ⟨i, rfl, _⟩ := btw_int h
  rfl
end Q
namespace Q
open PySem PySem.Spec PyProof.Rows L2
/-! ### typed data: messages, receivers, tasks -/
abbrev iL (is : List Int) : List PyData := is.map PyData.int
structure MsgOk (n : Int) (is : List Int) : Prop where
  bd : ∀ i ∈ is, 0 ≤ i ∧ i < n
  up : is.Pairwise (· < ·)
theorem lt2_ii (a b : Int) : lt2 (.tuple [.int a, .int b]) = decide (a < b) := rfl
theorem asc_ints : ∀ {is : List Int}, asc (iL is) = true ↔ is.Pairwise (· < ·)
  | [] => by simp [asc, zipD]
  | [a] => by simp [asc, zipD]
  | a :: b :: r => by
    have ih := @asc_ints (b :: r)
    simp only [asc, iL, List.map_cons, List.drop_succ_cons, List.drop_zero, zipD, List.all_cons, lt2_ii, Bool.and_eq_true, decide_eq_true_eq] at ih ⊢
    rw [List.pairwise_cons]
    constructor
    · rintro ⟨h1, h2⟩
      have q := ih.mp h2
      refine ⟨fun c hc => ?_, q⟩
      rcases List.mem_cons.mp hc with z | z
      · rw [z]; exact h1
      · have := (List.pairwise_cons.mp q).1 c z; omega
    · rintro ⟨h1, h2⟩
      exact ⟨h1 b List.mem_cons_self, ih.mpr h2⟩
theorem areM_ints {n : Int} {is : List Int} : areM n (.tuple (iL is)) = true ↔ MsgOk n is := by
  unfold areM
  simp only [Bool.and_eq_true, asc_ints, List.all_map, List.all_eq_true, Function.comp, btw, decide_eq_true_eq]
  constructor
  · rintro ⟨a, b⟩
    exact ⟨fun i hi => by have := a i hi; omega, b⟩
  · rintro ⟨a, b⟩
    exact ⟨fun i hi => by have := a i hi; omega, b⟩
theorem all_ints : ∀ {xs : List PyData}, xs.all isI = true → ∃ is, xs = iL is
  | [], _ => ⟨[], rfl⟩
  | x :: xs, h => by
    rw [List.all_cons, Bool.and_eq_true] at h
    obtain ⟨i, rfl⟩ := isI_of h.1
    obtain ⟨is, rfl⟩ := all_ints h.2
    exact ⟨i :: is, rfl⟩
theorem areM_elim {n : Int} {v : PyData} (h : areM n v = true) : ∃ is, v = .tuple (iL is) ∧ MsgOk n is := by
  obtain ⟨ks, rfl, a, b⟩ := areM_tup h
  obtain ⟨is, rfl⟩ := all_ints (List.all_eq_true.mpr fun x hx => btw_isI (List.all_eq_true.mp a x hx))
  exact ⟨is, rfl, areM_ints.mp h⟩
theorem memD_ints {i : Int} {is : List Int} : memD (.int i) (iL is) = decide (i ∈ is) := by
  induction is with
  | nil => simp [memD]
  | cons a r ih =>
    have : memD (.int i) (iL (a :: r)) = (decide (a = i) || memD (.int i) (iL r)) := by simp [memD]
    rw [this, ih]
    by_cases h : a = i
    · simp [h]
    · have h' : i ≠ a := fun z => h z.symm
      simp [h, h']
abbrev Rc := Int × List Int
def rcD (r : Rc) : PyData := .tuple [.int r.1, .tuple (iL r.2)]
structure RcOk (n : Int) (r : Rc) : Prop where
  lo : 0 ≤ r.1
  hi : r.1 < n
  ms : MsgOk n r.2
  nw : r.1 ∉ r.2
theorem isRecv_rc {n : Int} {r : Rc} : isRecv n (rcD r) = true ↔ RcOk n r := by
  simp only [isRecv, rcD, Bool.and_eq_true, areM_ints, memT, memD_ints, btw, decide_eq_true_eq, Bool.not_eq_true', decide_eq_false_iff_not]
  constructor
  · rintro ⟨⟨a, b⟩, c⟩; exact ⟨by omega, by omega, b, c⟩
  · rintro ⟨a, b, c, d⟩; exact ⟨⟨⟨a, by omega⟩, c⟩, d⟩
def taskD (n : Int) (rs : List Rc) : PyData := .tuple [.int n, .tuple (rs.map rcD)]
structure TaskOk (n : Int) (rs : List Rc) : Prop where
  n1 : 1 ≤ n
  n6 : n ≤ 6
  r1 : 1 ≤ rs.length
  r6 : rs.length ≤ 6
  ok : ∀ r ∈ rs, RcOk n r
theorem isTask_d {n : Int} {rs : List Rc} : isTask (taskD n rs) = true ↔ TaskOk n rs := by
  simp only [isTask, taskD, recvs, Bool.and_eq_true, btw, decide_eq_true_eq, List.length_map, List.all_map, List.all_eq_true, Function.comp, isRecv_rc]
  constructor
  · rintro ⟨⟨a, b⟩, ⟨c, d⟩, e⟩; exact ⟨a, b, c, d, e⟩
  · rintro ⟨a, b, c, d, e⟩; exact ⟨⟨a, b⟩, ⟨c, d⟩, e⟩
theorem rng_up : ∀ (lo : Int) (n : Nat), ((List.range n).map fun (i : Nat) => lo + (i : Int)).Pairwise (· < ·) := fun lo n => by
  rw [List.pairwise_map]
  exact List.Pairwise.imp (fun {a b} h => by omega) List.pairwise_lt_range
theorem rngD_ints (lo : Int) (n : Nat) : rngD lo n = iL ((List.range n).map fun (i : Nat) => lo + (i : Int)) := by simp [rngD, iL, List.map_map, Function.comp]
theorem sub_map {α β : Type} {f : α → β} {ys : List α} {xs : List β} (h : xs.Sublist (ys.map f)) : ∃ zs : List α, zs.Sublist ys ∧ xs = zs.map f := by
  obtain ⟨z, a, b⟩ := List.sublist_map_iff.mp h
  exact ⟨z, a, b⟩
/-- what is drawn of range(n) -/
theorem sub_rng {n : Nat} {zs : List PyData} (h : zs.Sublist (rngD 0 n)) : ∃ is, zs = iL is ∧ MsgOk n is := by
  rw [rngD_ints] at h
  obtain ⟨is, a, rfl⟩ := sub_map h
  refine ⟨is, rfl, fun i hi => ?_, (rng_up 0 n).sublist a⟩
  have := a.subset hi
  obtain ⟨k, hk, rfl⟩ := List.mem_map.mp this
  have := List.mem_range.mp hk
  omega
theorem MsgOk.sub {n : Int} {is js : List Int} (h : MsgOk n is) (s : js.Sublist is) : MsgOk n js := ⟨fun i hi => h.bd i (s.subset hi), h.up.sublist s⟩
theorem filt_ne (w : Int) : ∀ is : List Int, ((iL is).filter fun x => !PyData.eqv x (.int w)).map id = iL (is.filter fun i => decide (i ≠ w))
  | [] => rfl
  | a :: r => by
    have ih := filt_ne w r
    simp only [iL, List.map_cons, List.filter_cons, eqv_ii, List.map_id] at ih ⊢
    by_cases h : a = w
    · simp [h]; simpa using ih
    · simp [h]; simpa using ih
/-! ### draws -/
section
variable {E : XD (Option Addr)} {env : List S} {ω : Option Addr}
@[simp] theorem spDraw_k {sa t : Addr} {many : Int} {Q : QD (Option Addr)} : spDraw sa [.r (.ref sa), .r (.ref t), .d (.int many)] (some t) Q E ↔ 0 < many ∧ many ≤ 1000000 ∧ ∀ r, 0 ≤ r → r < many → Q (.d (.int r)) (some t) := by
  constructor
  · rintro ⟨t', many', e, e2, a, b, c⟩
    cases e; exact ⟨a, b, c⟩
  · rintro ⟨a, b, c⟩
    exact ⟨t, many, rfl, rfl, a, b, c⟩
@[simp] theorem spBegun_k {Q : QD (Option Addr)} : spBegun [] none Q E ↔ ∀ t, Q (.r (.ref t)) (some t) := by simp [spBegun]
/-- some of xs -/
theorem compL_any {i : Nat} {tt : TDb (Option Addr)} {Q : List PyData → Option Addr → Prop} (hi : i < env.length) : ∀ {xs acc : List PyData}, (∀ x ∈ xs, ∀ R : Bool → Option Addr → Prop, (∀ b, R b ω) → tt (fun _ _ => False) (env.set i (.d x)) ω R) →
    (∀ zs, zs.Sublist xs → Q (acc ++ zs) ω) → compL (.nm i) tt (dVar i) env xs acc ω Q
  | [], acc, _, q => by simpa using q [] (.refl _)
  | x :: xs, acc, h, q => by
    rw [compL_cons, bind_nm, someK_s]
    refine h x List.mem_cons_self _ fun b => ?_
    have h' := fun y hy => h y (List.mem_cons_of_mem _ hy)
    cases b with
    | true =>
      rw [ifK_b, if_pos rfl, dVar_k, List.getElem?_set_self hi, slotK_d, datK_d]
      exact compL_any hi h' fun zs s => by simpa using q (x :: zs) (s.cons₂ x)
    | false =>
      rw [ifK_b, if_neg (by simp)]
      exact compL_any hi h' fun zs s => q zs (s.cons x)
/-- n turns -/
theorem compL_rep {p : Pat} {e : TD (Option Addr)} (P : PyData → Prop) {Q : List PyData → Option Addr → Prop} : ∀ {xs acc : List PyData},
    (∀ x ∈ xs, ∃ env1, bindP p x env = some env1 ∧ (∀ R : QD (Option Addr), (∀ y, P y → R (.d y) ω) → e (fun _ _ => False) env1 ω R)) →
    (∀ zs, zs.length = xs.length → (∀ z ∈ zs, P z) → Q (acc ++ zs) ω) → compL p dYes e env xs acc ω Q
  | [], acc, _, q => by simpa using q [] rfl (by simp)
  | x :: xs, acc, h, q => by
    rw [compL_cons]
    obtain ⟨env1, e1, e2⟩ := h x List.mem_cons_self
    rw [e1, someK_s, dYes_k, ifK_b, if_pos rfl]
    refine e2 _ fun y py => ?_
    rw [datK_d]
    refine compL_rep P (fun y hy => h y (List.mem_cons_of_mem _ hy)) fun zs hz hp => ?_
    rw [List.append_assoc]
    exact q (y :: zs) (by simp [hz]) fun z hz => (List.mem_cons.mp hz).elim (fun e => e ▸ py) (hp z)
end
/-- a task is drawn -/
def spTask (sa : Addr) : FSpec (Option Addr) := fun ds ω Q _ => ∃ (t : Addr) (most many : Int), ds = [.r (.ref sa), .r (.ref t), .d (.int most), .d (.int many)] ∧ ω = some t ∧ 1 ≤ most ∧ most ≤ 6 ∧ 1 ≤ many ∧ many ≤ 6 ∧
  ∀ (n : Int) (rs : List Rc), TaskOk n rs → n ≤ most → (rs.length : Int) ≤ many → Q (.d (taskD n rs)) ω
/-- a sum is drawn -/
def spSum (sa : Addr) : FSpec (Option Addr) := fun ds ω Q _ => ∃ (t : Addr) (n : Int), ds = [.r (.ref sa), .r (.ref t), .d (.int n)] ∧ ω = some t ∧ 1 ≤ n ∧ n ≤ 6 ∧
  ∀ is : List Int, MsgOk n is → is ≠ [] → Q (.d (.tuple (iL is))) ω
def codeD (c : List (List Int)) : PyData := .tuple (c.map fun is => .tuple (iL is))
structure CodeOk (n : Int) (c : List (List Int)) : Prop where
  ok : ∀ s ∈ c, MsgOk n s ∧ s ≠ []
theorem sums_of {n : Int} : ∀ {zs : List PyData}, (∀ z ∈ zs, ∃ is, z = .tuple (iL is) ∧ MsgOk n is ∧ is ≠ []) → ∃ c : List (List Int), zs = (c.map fun is => .tuple (iL is)) ∧ ∀ s ∈ c, MsgOk n s ∧ s ≠ []
  | [], _ => ⟨[], rfl, by simp⟩
  | z :: zs, h => by
    obtain ⟨is, rfl, a, b⟩ := h z List.mem_cons_self
    obtain ⟨c, rfl, hc⟩ := sums_of fun y hy => h y (List.mem_cons_of_mem _ hy)
    exact ⟨is :: c, rfl, fun s hs => (List.mem_cons.mp hs).elim (fun e => e ▸ ⟨a, b⟩) (hc s)⟩
/-- a code is drawn -/
def spCode (sa : Addr) : FSpec (Option Addr) := fun ds ω Q _ => ∃ (t : Addr) (n most : Int), ds = [.r (.ref sa), .r (.ref t), .d (.int n), .d (.int most)] ∧ ω = some t ∧ 1 ≤ n ∧ n ≤ 6 ∧ 0 ≤ most ∧ most ≤ 8 ∧
  ∀ c : List (List Int), CodeOk n c → (c.length : Int) ≤ most → Q (.d (codeD c)) ω
theorem MsgOk.len {n : Int} {is : List Int} (h : MsgOk n is) (n0 : 0 ≤ n) : (is.length : Int) ≤ n := by
  have := pig n.toNat is (List.Pairwise.imp (fun {a b} (h : a < b) => by omega) h.up) fun x hx => by have := h.bd x hx; omega
  omega
theorem cutD_le {α : Type} (xs : List α) (lo hi : Option Int) : (cutD xs lo hi).length ≤ xs.length := by
  unfold cutD
  rw [List.length_take, List.length_drop]
  omega
theorem isTask_odd {n : Int} {a b : List PyData} {x : PyData} (h : isRecv n x = false) : isTask (.tuple [.int n, .tuple (a ++ x :: b)]) = false := by
  simp [isTask, recvs, h]
theorem isCode_d {n : Int} {c : List (List Int)} (h : CodeOk n c) (l : c.length ≤ 8) : isCode n (codeD c) = true := by
  simp only [isCode, codeD, List.length_map, Bool.and_eq_true, decide_eq_true_eq, List.all_map, List.all_eq_true, Function.comp]
  refine ⟨l, fun s hs => ?_⟩
  obtain ⟨a, b⟩ := h.ok s hs
  cases s with
  | nil => exact absurd rfl b
  | cons x r => simp [isSum, areM_ints.mpr a, PyData.eqv, PyData.eqvAll]; exact areM_ints.mpr a
theorem isCode_odd {n : Int} {a : List PyData} {x : PyData} (h : isSum n x = false) : isCode n (.tuple (a ++ [x])) = false := by
  simp [isCode, h]
/-- a law answers True -/
def spLaw (sa : Addr) : FSpec (Option Addr) := fun ds ω Q _ => ds = [.r (.ref sa)] ∧ ω = none ∧ ∀ ω', Q (.d (.bool true)) ω'
end Q
namespace GF
/-! ### sums modulo 2: numbers as sets of messages -/
/-- all sums of some of b -/
def Sp : List Nat → Nat → Prop
  | [], v => v = 0
  | x :: b, v => Sp b v ∨ Sp b (v ^^^ x)
instance decSp : ∀ b v, Decidable (Sp b v)
  | [], v => inferInstanceAs (Decidable (v = 0))
  | x :: b, v => @instDecidableOr _ _ (decSp b v) (decSp b (v ^^^ x))
theorem xor_self_right (a b : Nat) : a ^^^ b ^^^ b = a := by rw [Nat.xor_assoc, Nat.xor_self, Nat.xor_zero]
theorem xor_swap (a b c : Nat) : a ^^^ b ^^^ c = a ^^^ c ^^^ b := by rw [Nat.xor_assoc, Nat.xor_comm b c, ← Nat.xor_assoc]
theorem Sp.zero : ∀ b, Sp b 0
  | [] => rfl
  | x :: b => .inl (Sp.zero b)
theorem Sp.mem : ∀ {b : List Nat} {x : Nat}, x ∈ b → Sp b x
  | y :: b, x, h => by
    rcases List.mem_cons.mp h with e | e
    · right; rw [e, Nat.xor_self]; exact Sp.zero b
    · left; exact Sp.mem e
theorem Sp.xor : ∀ {b : List Nat} {u v : Nat}, Sp b u → Sp b v → Sp b (u ^^^ v)
  | [], u, v, hu, hv => by
    have hu : u = 0 := hu
    have hv : v = 0 := hv
    rw [hu, hv]; rfl
  | x :: b, u, v, hu, hv => by
    rcases hu with hu | hu <;> rcases hv with hv | hv
    · exact .inl (hu.xor hv)
    · right
      have := hu.xor hv
      rwa [← Nat.xor_assoc] at this
    · right
      have := hu.xor hv
      rwa [xor_swap] at this
    · left
      have := hu.xor hv
      rwa [show u ^^^ x ^^^ (v ^^^ x) = u ^^^ v by rw [xor_swap, Nat.xor_assoc u, Nat.xor_assoc v, Nat.xor_self, Nat.xor_zero]] at this
theorem Sp.sub : ∀ {b c : List Nat} {v : Nat}, (∀ x ∈ b, Sp c x) → Sp b v → Sp c v
  | [], c, v, _, h => by
    have h : v = 0 := h
    rw [h]; exact Sp.zero c
  | x :: b, c, v, hs, h => by
    have hb : ∀ y ∈ b, Sp c y := fun y hy => hs y (List.mem_cons_of_mem _ hy)
    rcases h with h | h
    · exact h.sub hb
    · have := (h.sub hb).xor (hs x List.mem_cons_self)
      rwa [xor_self_right] at this
theorem Sp.mono {b c : List Nat} {v : Nat} (h : ∀ x ∈ b, x ∈ c) (s : Sp b v) : Sp c v := s.sub fun x hx => Sp.mem (h x hx)
theorem Sp.cons_iff {x : Nat} {b : List Nat} {v : Nat} : Sp (x :: b) v ↔ Sp b v ∨ Sp b (v ^^^ x) := Iff.rfl
theorem Sp.perm {b c : List Nat} {v : Nat} (h : b.Perm c) : Sp b v ↔ Sp c v := ⟨fun s => s.mono fun x hx => h.mem_iff.mp hx, fun s => s.mono fun x hx => h.mem_iff.mpr hx⟩
/-- a linear map keeps sums -/
theorem Sp.map {f : Nat → Nat} (f0 : f 0 = 0) (fx : ∀ a b, f (a ^^^ b) = f a ^^^ f b) : ∀ {b : List Nat} {v : Nat}, Sp (b.map f) v ↔ ∃ u, Sp b u ∧ f u = v
  | [], v => by
    show v = 0 ↔ _
    constructor
    · intro h; exact ⟨0, rfl, by rw [f0, h]⟩
    · rintro ⟨u, hu, e⟩
      have hu : u = 0 := hu
      rw [← e, hu, f0]
  | x :: b, v => by
    have ih := fun v => @Sp.map f f0 fx b v
    rw [List.map_cons, Sp.cons_iff, ih, ih]
    constructor
    · rintro (⟨u, hu, e⟩ | ⟨u, hu, e⟩)
      · exact ⟨u, .inl hu, e⟩
      · refine ⟨u ^^^ x, .inr (by rwa [xor_self_right]), ?_⟩
        rw [fx, e, xor_self_right]
    · rintro ⟨u, hu | hu, e⟩
      · exact .inl ⟨u, hu, e⟩
      · exact .inr ⟨u ^^^ x, hu, by rw [fx, e]⟩
/-- all of the members lack a bit -/
theorem Sp.lack {b : List Nat} {v i : Nat} (h : ∀ x ∈ b, x.testBit i = false) (s : Sp b v) : v.testBit i = false := by
  induction b generalizing v with
  | nil =>
    have s : v = 0 := s
    rw [s]; simp
  | cons x b ih =>
    have hb : ∀ y ∈ b, y.testBit i = false := fun y hy => h y (List.mem_cons_of_mem _ hy)
    rcases s with s | s
    · exact ih hb s
    · have := ih hb s
      rw [Nat.testBit_xor, h x List.mem_cons_self] at this
      simpa using this
theorem Sp.lt {b : List Nat} {v n : Nat} (h : ∀ x ∈ b, x < 2 ^ n) (s : Sp b v) : v < 2 ^ n := by
  induction b generalizing v with
  | nil =>
    have s : v = 0 := s
    rw [s]; exact Nat.two_pow_pos n
  | cons x b ih =>
    have hb : ∀ y ∈ b, y < 2 ^ n := fun y hy => h y (List.mem_cons_of_mem _ hy)
    rcases s with s | s
    · exact ih hb s
    · have := Nat.xor_lt_two_pow (ih hb s) (h x List.mem_cons_self)
      rwa [xor_self_right] at this
/-! ### the head of a sum -/
/-- the least message of v -/
def hd (v : Nat) : Nat := ((List.range 6).find? fun i => v.testBit i).getD 6
theorem hd_spec {v : Nat} (h0 : v ≠ 0) (h : v < 64) : hd v < 6 ∧ v.testBit (hd v) = true ∧ ∀ i, i < hd v → v.testBit i = false := by
  have key : ∀ v < 64, v ≠ 0 → hd v < 6 ∧ v.testBit (hd v) = true ∧ ∀ i < 6, i < hd v → v.testBit i = false := by decide +kernel
  obtain ⟨a, b, c⟩ := key v h h0
  exact ⟨a, b, fun i hi => c i (by omega) hi⟩
theorem hd_of {v i : Nat} (h : v < 64) (h1 : v.testBit i = true) (h2 : ∀ j, j < i → v.testBit j = false) : hd v = i := by
  have h0 : v ≠ 0 := fun z => by rw [z] at h1; simp at h1
  obtain ⟨a, b, c⟩ := hd_spec h0 h
  rcases Nat.lt_trichotomy (hd v) i with z | z | z
  · rw [h2 _ z] at b; cases b
  · exact z
  · rw [c _ z] at h1; cases h1
/-- reduced: heads ascend, and each head occurs in its own sum only -/
structure Red (b : List Nat) : Prop where
  nz : ∀ x ∈ b, x ≠ 0
  lt : ∀ x ∈ b, x < 64
  pw : b.Pairwise fun x y => hd x < hd y ∧ x.testBit (hd y) = false ∧ y.testBit (hd x) = false
theorem Red.nil : Red [] := ⟨by simp, by simp, .nil⟩
theorem Red.tail {x : Nat} {b : List Nat} (h : Red (x :: b)) : Red b := ⟨fun y hy => h.nz y (List.mem_cons_of_mem _ hy), fun y hy => h.lt y (List.mem_cons_of_mem _ hy), (List.pairwise_cons.mp h.pw).2⟩
theorem Red.off {b : List Nat} (h : Red b) {x y : Nat} (hx : x ∈ b) (hy : y ∈ b) (n : x ≠ y) : x.testBit (hd y) = false := by
  induction b with
  | nil => simp at hx
  | cons z b ih =>
    have p := (List.pairwise_cons.mp h.pw).1
    rcases List.mem_cons.mp hx with rfl | hx' <;> rcases List.mem_cons.mp hy with rfl | hy'
    · exact absurd rfl n
    · exact (p y hy').2.1
    · exact (p x hx').2.2
    · exact ih h.tail hx' hy'
theorem Red.hinj {b : List Nat} (h : Red b) {x y : Nat} (hx : x ∈ b) (hy : y ∈ b) (e : hd x = hd y) : x = y := by
  by_cases n : x = y
  · exact n
  · have := h.off hx hy n
    rw [← e, (hd_spec (h.nz x hx) (h.lt x hx)).2.1] at this
    cases this
/-- v without the heads of b -/
def clr (b : List Nat) (v : Nat) : Nat := b.foldl (fun v x => if v.testBit (hd x) = true then v ^^^ x else v) v
theorem clr_cons (x : Nat) (b : List Nat) (v : Nat) : clr (x :: b) v = clr b (if v.testBit (hd x) = true then v ^^^ x else v) := rfl
theorem clr_sp : ∀ (b : List Nat) (v : Nat), Sp b (v ^^^ clr b v)
  | [], v => by show v ^^^ v = 0; exact Nat.xor_self v
  | x :: b, v => by
    rw [clr_cons]
    split
    · right
      have := clr_sp b (v ^^^ x)
      rwa [xor_swap] at this
    · left
      exact clr_sp b v
theorem clr_lt {b : List Nat} {v : Nat} (hb : ∀ x ∈ b, x < 64) (h : v < 64) : clr b v < 64 := by
  have s := (clr_sp b v).lt (n := 6) hb
  have := Nat.xor_lt_two_pow (n := 6) h s
  rwa [← Nat.xor_assoc, Nat.xor_self, Nat.zero_xor] at this
theorem clr_keep : ∀ {b : List Nat} {v i : Nat}, (∀ x ∈ b, x.testBit i = false) → (clr b v).testBit i = v.testBit i
  | [], v, i, _ => rfl
  | x :: b, v, i, h => by
    rw [clr_cons, clr_keep fun y hy => h y (List.mem_cons_of_mem _ hy)]
    split
    · rw [Nat.testBit_xor, h x List.mem_cons_self]; simp
    · rfl
theorem clr_head {b : List Nat} (h : Red b) (v : Nat) : ∀ x ∈ b, (clr b v).testBit (hd x) = false := by
  induction b generalizing v with
  | nil => simp
  | cons y b ih =>
    intro x hx
    have p := (List.pairwise_cons.mp h.pw).1
    rw [clr_cons]
    rcases List.mem_cons.mp hx with rfl | hx'
    · rw [clr_keep fun z hz => (p z hz).2.2]
      split
      · next q => rw [Nat.testBit_xor, q, (hd_spec (h.nz x hx) (h.lt x hx)).2.1]; rfl
      · next q => simpa using q
    · exact ih h.tail _ x hx'
/-- a sum of b that lacks all heads is nothing -/
theorem Red.none {b : List Nat} (h : Red b) : ∀ {v : Nat}, Sp b v → (∀ x ∈ b, v.testBit (hd x) = false) → v = 0 := by
  induction b with
  | nil => intro v s _; exact s
  | cons y b ih =>
    intro v s q
    have p := (List.pairwise_cons.mp h.pw).1
    rcases s with s | s
    · exact ih h.tail s fun x hx => q x (List.mem_cons_of_mem _ hx)
    · exfalso
      have e : (v ^^^ y).testBit (hd y) = false := s.lack fun x hx => (p x hx).2.2
      rw [Nat.testBit_xor, q y List.mem_cons_self, (hd_spec (h.nz y List.mem_cons_self) (h.lt y List.mem_cons_self)).2.1] at e
      cases e
theorem clr_zero {b : List Nat} (h : Red b) {v : Nat} : clr b v = 0 ↔ Sp b v := by
  constructor
  · intro e
    have := clr_sp b v
    rwa [e, Nat.xor_zero] at this
  · intro s
    refine h.none ?_ (clr_head h v)
    have := s.xor (clr_sp b v)
    rwa [← Nat.xor_assoc, Nat.xor_self, Nat.zero_xor] at this
/-! ### a basis with one more sum -/
def lowN (v : Nat) : Nat := if v = 0 then 0 else 2 ^ hd v
def ple (a b : Nat) : Bool := decide (lowN a < lowN b) || (decide (lowN a = lowN b) && decide (a ≤ b))
def fix (r x : Nat) : Nat := if x.testBit (hd r) = true then x ^^^ r else x
def jn (b : List Nat) (v : Nat) : List Nat := if clr b v = 0 then b else (b.map (fix (clr b v)) ++ [clr b v]).mergeSort ple
theorem ple_trans (a b c : Nat) (h1 : ple a b = true) (h2 : ple b c = true) : ple a c = true := by
  simp only [ple, Bool.or_eq_true, Bool.and_eq_true, decide_eq_true_eq] at *
  omega
theorem ple_total (a b : Nat) : (ple a b || ple b a) = true := by
  simp only [ple, Bool.or_eq_true, Bool.and_eq_true, decide_eq_true_eq] at *
  omega
theorem lowN_lt {x y : Nat} (hx : x ≠ 0) (hy : y ≠ 0) : lowN x < lowN y ↔ hd x < hd y := by
  unfold lowN
  rw [if_neg hx, if_neg hy]
  exact Nat.pow_lt_pow_iff_right (by omega)
theorem ple_hd {x y : Nat} (hx : x ≠ 0) (hy : y ≠ 0) (h : ple x y = true) : hd x ≤ hd y := by
  simp only [ple, Bool.or_eq_true, Bool.and_eq_true, decide_eq_true_eq] at h
  rcases h with h | ⟨h, _⟩
  · exact Nat.le_of_lt ((lowN_lt hx hy).mp h)
  · by_cases z : hd y < hd x
    · have := (lowN_lt hy hx).mpr z; omega
    · omega
theorem Red.of_sort {l : List Nat} (nz : ∀ x ∈ l, x ≠ 0) (lt : ∀ x ∈ l, x < 64) (pw : l.Pairwise fun x y => x.testBit (hd y) = false ∧ y.testBit (hd x) = false) : Red (l.mergeSort ple) := by
  have pm := List.mergeSort_perm l ple
  refine ⟨fun x hx => nz x (pm.mem_iff.mp hx), fun x hx => lt x (pm.mem_iff.mp hx), ?_⟩
  have p1 : (l.mergeSort ple).Pairwise fun x y => x.testBit (hd y) = false ∧ y.testBit (hd x) = false := (pm.pairwise_iff fun {a b} h => ⟨h.2, h.1⟩).mpr pw
  have p2 := List.pairwise_mergeSort (le := ple) ple_trans ple_total l
  have key : ∀ {m : List Nat}, (∀ x ∈ m, x ∈ l) → m.Pairwise (fun x y => x.testBit (hd y) = false ∧ y.testBit (hd x) = false) → m.Pairwise (fun x y => ple x y = true) → m.Pairwise fun x y => hd x < hd y ∧ x.testBit (hd y) = false ∧ y.testBit (hd x) = false := by
    intro m
    induction m with
    | nil => intros; exact .nil
    | cons x m ih =>
      intro hm q1 q2
      rw [List.pairwise_cons] at q1 q2 ⊢
      refine ⟨fun y hy => ?_, ih (fun z hz => hm z (List.mem_cons_of_mem _ hz)) q1.2 q2.2⟩
      have hx := hm x List.mem_cons_self
      have hy' := hm y (List.mem_cons_of_mem _ hy)
      obtain ⟨e1, e2⟩ := q1.1 y hy
      have le := ple_hd (nz x hx) (nz y hy') (q2.1 y hy)
      refine ⟨?_, e1, e2⟩
      rcases Nat.lt_or_eq_of_le le with z | z
      · exact z
      · rw [← z, (hd_spec (nz x hx) (lt x hx)).2.1] at e1; cases e1
  exact key (fun x hx => pm.mem_iff.mp hx) p1 p2
theorem fix_hd {r x : Nat} (hx0 : x ≠ 0) (hx : x < 64) (hr0 : r ≠ 0) (hr : r < 64) (hl : r.testBit (hd x) = false) : fix r x ≠ 0 ∧ fix r x < 64 ∧ hd (fix r x) = hd x ∧ (fix r x).testBit (hd r) = false := by
  obtain ⟨a1, a2, a3⟩ := hd_spec hx0 hx
  obtain ⟨b1, b2, b3⟩ := hd_spec hr0 hr
  unfold fix
  split
  · next q =>
    have lt : x ^^^ r < 64 := Nat.xor_lt_two_pow (n := 6) hx hr
    have h1 : (x ^^^ r).testBit (hd x) = true := by rw [Nat.testBit_xor, a2, hl]; rfl
    have hlt : hd x < hd r := by
      rcases Nat.lt_trichotomy (hd x) (hd r) with z | z | z
      · exact z
      · rw [z, b2] at hl; cases hl
      · rw [a3 _ z] at q; cases q
    refine ⟨fun z => by rw [z] at h1; simp at h1, lt, hd_of lt h1 fun j hj => ?_, by rw [Nat.testBit_xor, q, b2]; rfl⟩
    rw [Nat.testBit_xor, a3 j hj, b3 j (by omega)]; rfl
  · next q => exact ⟨hx0, hx, rfl, by simpa using q⟩
theorem jn_ok {b : List Nat} (h : Red b) {v : Nat} (hv : v < 64) : Red (jn b v) ∧ ∀ u, Sp (jn b v) u ↔ Sp (v :: b) u := by
  unfold jn
  have csp := clr_sp b v
  split
  · next e =>
    refine ⟨h, fun u => ⟨.inl, fun s => ?_⟩⟩
    rw [e, Nat.xor_zero] at csp
    rcases s with s | s
    · exact s
    · have := s.xor csp
      rwa [xor_self_right] at this
  · next e =>
    have hr : clr b v < 64 := clr_lt h.lt hv
    have hl := clr_head h v
    have fx : ∀ x ∈ b, fix (clr b v) x ≠ 0 ∧ fix (clr b v) x < 64 ∧ hd (fix (clr b v) x) = hd x ∧ (fix (clr b v) x).testBit (hd (clr b v)) = false := fun x hx => fix_hd (h.nz x hx) (h.lt x hx) e hr (hl x hx)
    refine ⟨Red.of_sort (fun x hx => ?_) (fun x hx => ?_) ?_, fun u => ?_⟩
    · rcases List.mem_append.mp hx with z | z
      · obtain ⟨y, hy, rfl⟩ := List.mem_map.mp z
        exact (fx y hy).1
      · rw [List.mem_singleton.mp z]; exact e
    · rcases List.mem_append.mp hx with z | z
      · obtain ⟨y, hy, rfl⟩ := List.mem_map.mp z
        exact (fx y hy).2.1
      · rw [List.mem_singleton.mp z]; exact hr
    · refine List.pairwise_append.mpr ⟨?_, List.pairwise_singleton _ _, fun x hx y hy => ?_⟩
      · rw [List.pairwise_map]
        have hp := h.pw
        have key : ∀ {m : List Nat}, (∀ x ∈ m, x ∈ b) → m.Pairwise (fun x y => hd x < hd y ∧ x.testBit (hd y) = false ∧ y.testBit (hd x) = false) → m.Pairwise fun x y => (fix (clr b v) x).testBit (hd (fix (clr b v) y)) = false ∧ (fix (clr b v) y).testBit (hd (fix (clr b v) x)) = false := by
          intro m
          induction m with
          | nil => intros; exact .nil
          | cons x m ih =>
            intro hm q
            rw [List.pairwise_cons] at q ⊢
            refine ⟨fun y hy => ?_, ih (fun z hz => hm z (List.mem_cons_of_mem _ hz)) q.2⟩
            have hx := hm x List.mem_cons_self
            have hy' := hm y (List.mem_cons_of_mem _ hy)
            obtain ⟨_, e1, e2⟩ := q.1 y hy
            rw [(fx x hx).2.2.1, (fx y hy').2.2.1]
            unfold fix
            constructor
            · split
              · rw [Nat.testBit_xor, e1, hl y hy']; rfl
              · exact e1
            · split
              · rw [Nat.testBit_xor, e2, hl x hx]; rfl
              · exact e2
        exact key (fun _ h => h) hp
      · obtain ⟨z, hz, rfl⟩ := List.mem_map.mp hx
        rw [List.mem_singleton.mp hy]
        refine ⟨(fx z hz).2.2.2, ?_⟩
        rw [(fx z hz).2.2.1]
        exact hl z hz
    · rw [Sp.perm (List.mergeSort_perm _ _)]
      have hrs : Sp (v :: b) (clr b v) := by
        have h1 : Sp (v :: b) (v ^^^ clr b v) := .inl csp
        have h2 : Sp (v :: b) v := Sp.mem List.mem_cons_self
        have := h2.xor h1
        rwa [← Nat.xor_assoc, Nat.xor_self, Nat.zero_xor] at this
      constructor
      · refine Sp.sub fun x hx => ?_
        rcases List.mem_append.mp hx with z | z
        · obtain ⟨y, hy, rfl⟩ := List.mem_map.mp z
          unfold fix
          have hy' : Sp (v :: b) y := Sp.mem (List.mem_cons_of_mem _ hy)
          split
          · exact hy'.xor hrs
          · exact hy'
        · rw [List.mem_singleton.mp z]; exact hrs
      · have hr' : Sp (b.map (fix (clr b v)) ++ [clr b v]) (clr b v) := Sp.mem (List.mem_append_right _ List.mem_cons_self)
        have hb' : ∀ y ∈ b, Sp (b.map (fix (clr b v)) ++ [clr b v]) y := fun y hy => by
          have q : Sp (b.map (fix (clr b v)) ++ [clr b v]) (fix (clr b v) y) := Sp.mem (List.mem_append_left _ (List.mem_map_of_mem hy))
          unfold fix at q
          split at q
          · have := q.xor hr'
            rw [xor_self_right] at this
            exact this
          · exact q
        refine Sp.sub fun x hx => ?_
        rcases List.mem_cons.mp hx with z | z
        · rw [z]
          have := (csp.sub hb').xor hr'
          rwa [xor_self_right] at this
        · exact hb' x z
/-- the basis of some sums -/
def bas (ns : List Nat) : List Nat := ns.foldl jn []
theorem bas_from : ∀ {ns b : List Nat}, Red b → (∀ x ∈ ns, x < 64) → Red (ns.foldl jn b) ∧ ∀ u, Sp (ns.foldl jn b) u ↔ Sp (ns ++ b) u
  | [], b, h, _ => ⟨h, fun u => Iff.rfl⟩
  | x :: ns, b, h, hl => by
    obtain ⟨r, s⟩ := jn_ok h (hl x List.mem_cons_self)
    obtain ⟨r2, s2⟩ := bas_from (ns := ns) r fun y hy => hl y (List.mem_cons_of_mem _ hy)
    refine ⟨r2, fun u => ?_⟩
    rw [List.foldl_cons, s2]
    constructor
    · refine Sp.sub fun y hy => ?_
      rcases List.mem_append.mp hy with z | z
      · exact Sp.mem (List.mem_append_left _ (List.mem_cons_of_mem _ z))
      · have := (s y).mp (Sp.mem z)
        exact this.mono fun w hw => (List.mem_cons.mp hw).elim (fun e => by rw [e]; exact List.mem_append_left _ List.mem_cons_self) fun e => List.mem_append_right _ e
    · refine Sp.sub fun y hy => ?_
      have hj : ∀ w, Sp (jn b x) w → Sp (ns ++ jn b x) w := fun w q => q.mono fun z hz => List.mem_append_right _ hz
      rcases List.mem_append.mp hy with z | z
      · rcases List.mem_cons.mp z with e | e
        · exact hj y ((s y).mpr (by rw [e]; exact Sp.mem List.mem_cons_self))
        · exact Sp.mem (List.mem_append_left _ e)
      · exact hj y ((s y).mpr (Sp.mem (List.mem_cons_of_mem _ z)))
theorem bas_red {ns : List Nat} (h : ∀ x ∈ ns, x < 64) : Red (bas ns) := (bas_from Red.nil h).1
theorem bas_sp {ns : List Nat} (h : ∀ x ∈ ns, x < 64) (u : Nat) : Sp (bas ns) u ↔ Sp ns u := by
  have := (bas_from Red.nil h).2 u
  rwa [List.append_nil] at this
end GF
namespace GF
theorem nodup_le : ∀ {l m : List Nat}, l.Nodup → (∀ x ∈ l, x ∈ m) → l.length ≤ m.length
  | [], m, _, _ => Nat.zero_le _
  | x :: l, m, nd, h => by
    have hx := h x List.mem_cons_self
    obtain ⟨n1, n2⟩ := List.nodup_cons.mp nd
    have := nodup_le (m := m.erase x) n2 fun y hy => (List.mem_erase_of_ne (fun z : y = x => n1 (by rw [← z]; exact hy))).mpr (h y (List.mem_cons_of_mem _ hy))
    rw [List.length_erase_of_mem hx] at this
    have hp : 0 < m.length := List.length_pos_of_mem hx
    simp only [List.length_cons]
    omega
theorem nodup_eq : ∀ {l m : List Nat}, l.Nodup → m.Nodup → (∀ x ∈ l, x ∈ m) → m.length ≤ l.length → ∀ x ∈ m, x ∈ l := by
  intro l m nl nm h hl x hx
  by_cases q : x ∈ l
  · exact q
  · exfalso
    have := nodup_le (l := x :: l) (m := m) (List.nodup_cons.mpr ⟨q, nl⟩) fun y hy => (List.mem_cons.mp hy).elim (fun e => e ▸ hx) (h y)
    simp only [List.length_cons] at this
    omega
theorem sorted_ext {f : Nat → Nat} : ∀ {l m : List Nat}, l.Pairwise (fun x y => f x < f y) → m.Pairwise (fun x y => f x < f y) → (∀ x, x ∈ l ↔ x ∈ m) → l = m
  | [], [], _, _, _ => rfl
  | [], y :: m, _, _, h => absurd ((h y).mpr List.mem_cons_self) (by simp)
  | x :: l, [], _, _, h => absurd ((h x).mp List.mem_cons_self) (by simp)
  | x :: l, y :: m, p, q, h => by
    rw [List.pairwise_cons] at p q
    have e : x = y := by
      rcases List.mem_cons.mp ((h x).mp List.mem_cons_self) with z | z
      · exact z
      · rcases List.mem_cons.mp ((h y).mpr List.mem_cons_self) with w | w
        · exact w.symm
        · have := p.1 y w
          have := q.1 x z
          omega
    subst e
    rw [sorted_ext p.2 q.2 fun z => ⟨fun hz => ?_, fun hz => ?_⟩]
    · rcases List.mem_cons.mp ((h z).mp (List.mem_cons_of_mem _ hz)) with w | w
      · rw [w] at hz; have := p.1 x hz; omega
      · exact w
    · rcases List.mem_cons.mp ((h z).mpr (List.mem_cons_of_mem _ hz)) with w | w
      · rw [w] at hz; have := q.1 x hz; omega
      · exact w
theorem Red.srt {b : List Nat} (h : Red b) : b.Pairwise fun x y => hd x < hd y := h.pw.imp fun q => q.1
theorem Red.hds {b : List Nat} (h : Red b) : (b.map hd).Nodup := by
  show (b.map hd).Pairwise (· ≠ ·)
  rw [List.pairwise_map]
  exact h.srt.imp fun q => Nat.ne_of_lt q
theorem Red.head_mem {b : List Nat} (h : Red b) : ∀ {v : Nat}, Sp b v → v ≠ 0 → ∃ x ∈ b, hd v = hd x := by
  induction b with
  | nil => intro v s n; exact absurd s n
  | cons y b ih =>
    intro v s n
    have p := (List.pairwise_cons.mp h.pw).1
    rcases s with s | s
    · obtain ⟨x, hx, e⟩ := ih h.tail s n
      exact ⟨x, List.mem_cons_of_mem _ hx, e⟩
    · refine ⟨y, List.mem_cons_self, ?_⟩
      have hy := h.lt y List.mem_cons_self
      obtain ⟨a1, a2, a3⟩ := hd_spec (h.nz y List.mem_cons_self) hy
      have lack : ∀ j, j ≤ hd y → (v ^^^ y).testBit j = false := fun j hj => s.lack fun x hx => by
        obtain ⟨_, _, c3⟩ := hd_spec (h.nz x (List.mem_cons_of_mem _ hx)) (h.lt x (List.mem_cons_of_mem _ hx))
        exact c3 j (by have := (p x hx).1; omega)
      have hv : v < 64 := by
        have := Nat.xor_lt_two_pow (n := 6) (s.lt (n := 6) fun x hx => h.lt x (List.mem_cons_of_mem _ hx)) hy
        rwa [xor_self_right] at this
      have bit : ∀ j, j ≤ hd y → v.testBit j = y.testBit j := fun j hj => by
        have := lack j hj
        rw [Nat.testBit_xor] at this
        cases e1 : v.testBit j <;> cases e2 : y.testBit j <;> simp_all
      exact hd_of hv (by rw [bit _ (Nat.le_refl _)]; exact a2) fun j hj => by rw [bit j (by omega)]; exact a3 j hj
theorem Red.sub_hds {b c : List Nat} (hb : Red b) (hc : Red c) (s : ∀ v, Sp c v → Sp b v) : ∀ i ∈ c.map hd, i ∈ b.map hd := fun i hi => by
  obtain ⟨x, hx, rfl⟩ := List.mem_map.mp hi
  obtain ⟨y, hy, e⟩ := hb.head_mem (s x (Sp.mem hx)) (hc.nz x hx)
  rw [e]
  exact List.mem_map_of_mem hy
theorem Red.uniq {b c : List Nat} (hb : Red b) (hc : Red c) (s : ∀ v, Sp b v ↔ Sp c v) : b = c := by
  have key : ∀ {b c : List Nat}, Red b → Red c → (∀ v, Sp b v ↔ Sp c v) → ∀ x ∈ b, x ∈ c := by
    intro b c hb hc s x hx
    obtain ⟨y, hy, e⟩ := hc.head_mem ((s x).mp (Sp.mem hx)) (hb.nz x hx)
    have hyb : Sp b y := (s y).mpr (Sp.mem hy)
    have z : x ^^^ y = 0 := by
      refine hb.none ((Sp.mem hx).xor hyb) fun w hw => ?_
      rw [Nat.testBit_xor]
      by_cases n : w = x
      · rw [n, (hd_spec (hb.nz x hx) (hb.lt x hx)).2.1, e, (hd_spec (hc.nz y hy) (hc.lt y hy)).2.1]; rfl
      · rw [hb.off hx hw (Ne.symm n)]
        obtain ⟨u, hu, e2⟩ := hc.head_mem ((s w).mp (Sp.mem hw)) (hb.nz w hw)
        have ne : y ≠ u := fun q => n (hb.hinj hw hx (by rw [e2, ← q, ← e]))
        rw [e2, hc.off hy hu ne]; rfl
    have : x = y := by
      have q := xor_self_right x y
      rw [z, Nat.zero_xor] at q
      exact q.symm
    rw [this]; exact hy
  exact sorted_ext hb.srt hc.srt fun x => ⟨key hb hc s x, key hc hb (fun v => (s v).symm) x⟩
theorem Red.len_le {b c : List Nat} (hb : Red b) (hc : Red c) (s : ∀ v, Sp c v → Sp b v) : c.length ≤ b.length := by
  have := nodup_le hc.hds (hb.sub_hds hc s)
  simpa using this
theorem Red.full {b c : List Nat} (hb : Red b) (hc : Red c) (s : ∀ v, Sp c v → Sp b v) (l : b.length ≤ c.length) : b = c := by
  refine hb.uniq hc fun v => ⟨fun q => ?_, s v⟩
  rw [← clr_zero hc]
  have hm : ∀ i ∈ b.map hd, i ∈ c.map hd := nodup_eq hc.hds hb.hds (hb.sub_hds hc s) (by simpa using l)
  have h1 : Sp b (clr c v) := by
    have := q.xor (s _ (clr_sp c v))
    rwa [← Nat.xor_assoc, Nat.xor_self, Nat.zero_xor] at this
  refine hb.none h1 fun x hx => ?_
  obtain ⟨y, hy, e⟩ := List.mem_map.mp (hm _ (List.mem_map_of_mem hx))
  rw [← e]
  exact clr_head hc v y hy
theorem jn_len (b : List Nat) (v : Nat) : (jn b v).length = if clr b v = 0 then b.length else b.length + 1 := by
  unfold jn
  split
  · rfl
  · rw [List.length_mergeSort]; simp
theorem foldl_jn_len : ∀ (ns b : List Nat), (ns.foldl jn b).length ≤ b.length + ns.length
  | [], b => by simp
  | x :: ns, b => by
    have := foldl_jn_len ns (jn b x)
    have h2 := jn_len b x
    simp only [List.foldl_cons, List.length_cons]
    split at h2 <;> omega
theorem bas_len (ns : List Nat) : (bas ns).length ≤ ns.length := by
  have := foldl_jn_len ns []
  simpa [bas] using this
theorem Red.len6 {b : List Nat} (h : Red b) : b.length ≤ 6 := by
  have := nodup_le (m := List.range 6) h.hds fun i hi => by
    obtain ⟨x, hx, rfl⟩ := List.mem_map.mp hi
    exact List.mem_range.mpr (hd_spec (h.nz x hx) (h.lt x hx)).1
  simpa using this
/-! ### what can be told -/
/-- v without the messages of k -/
def wo (v k : Nat) : Nat := v ^^^ (v &&& k)
theorem wo_bit (v k i : Nat) : (wo v k).testBit i = (v.testBit i && !k.testBit i) := by
  unfold wo
  rw [Nat.testBit_xor, Nat.testBit_and]
  cases v.testBit i <;> cases k.testBit i <;> rfl
theorem wo_zero (k : Nat) : wo 0 k = 0 := by unfold wo; simp
theorem wo_xor (k a b : Nat) : wo (a ^^^ b) k = wo a k ^^^ wo b k := by
  refine Nat.eq_of_testBit_eq fun i => ?_
  simp only [wo_bit, Nat.testBit_xor]
  cases a.testBit i <;> cases b.testBit i <;> cases k.testBit i <;> rfl
theorem wo_lt {v k : Nat} (h : v < 64) : wo v k < 64 := by
  unfold wo
  exact Nat.xor_lt_two_pow (n := 6) h (Nat.lt_of_le_of_lt Nat.and_le_left h)
/-- the message m can be told from the sums of b and the messages of k -/
def Tells (b : List Nat) (k m : Nat) : Prop := k.testBit m = true ∨ ∃ v, Sp b v ∧ v.testBit m = true ∧ ∀ i, i ≠ m → v.testBit i = true → k.testBit i = true
theorem wo_pow {v k m : Nat} (hk : k.testBit m = false) : wo v k = 2 ^ m ↔ v.testBit m = true ∧ ∀ i, i ≠ m → v.testBit i = true → k.testBit i = true := by
  constructor
  · intro e
    have b : ∀ i, (wo v k).testBit i = decide (m = i) := fun i => by rw [e, Nat.testBit_two_pow]
    refine ⟨?_, fun i hi hv => ?_⟩
    · have := b m
      rw [wo_bit, hk] at this
      simpa using this
    · have := b i
      rw [wo_bit, hv] at this
      have n : ¬ m = i := fun z => hi z.symm
      simpa [n] using this
  · rintro ⟨h1, h2⟩
    refine Nat.eq_of_testBit_eq fun i => ?_
    rw [wo_bit, Nat.testBit_two_pow]
    by_cases z : m = i
    · subst z; simp [h1, hk]
    · have := h2 i (fun q => z q.symm)
      cases e : v.testBit i with
      | false => simp [z]
      | true => simp [z, this e]
def tld (b : List Nat) (k m : Nat) : Bool := k.testBit m || decide (clr (bas (b.map fun x => wo x k)) (2 ^ m) = 0)
theorem tld_iff {b : List Nat} {k m : Nat} (h : ∀ x ∈ b, x < 64) : tld b k m = true ↔ Tells b k m := by
  unfold tld Tells
  have hl : ∀ x ∈ b.map (fun x => wo x k), x < 64 := fun x hx => by
    obtain ⟨y, hy, rfl⟩ := List.mem_map.mp hx
    exact wo_lt (h y hy)
  rw [Bool.or_eq_true, decide_eq_true_eq, clr_zero (bas_red hl), bas_sp hl, Sp.map (f := fun x => wo x k) (wo_zero k) (fun a c => wo_xor k a c)]
  cases hk : k.testBit m with
  | true => simp
  | false =>
    simp only [Bool.false_eq_true, false_or]
    exact ⟨fun ⟨u, s, e⟩ => ⟨u, s, (wo_pow hk).mp e⟩, fun ⟨u, s, e⟩ => ⟨u, s, (wo_pow hk).mpr e⟩⟩
theorem Tells.congr {b c : List Nat} (s : ∀ v, Sp b v ↔ Sp c v) {k m : Nat} : Tells b k m ↔ Tells c k m := by
  unfold Tells
  simp only [s]
theorem Tells.mono {b c : List Nat} (s : ∀ v, Sp b v → Sp c v) {k m : Nat} (h : Tells b k m) : Tells c k m := by
  rcases h with h | ⟨v, h1, h2⟩
  · exact .inl h
  · exact .inr ⟨v, s v h1, h2⟩
end GF
namespace Q
open PySem PySem.Spec PyProof.Rows L2 GF
@[simp] theorem all_tt {α : Type} (l : List α) : (l.all fun _ => true) = true := by simp
/-! ### comprehensions and loops that are run -/
theorem cmpL_pure {α : Type} {p : Pat} {tt : List S → Rs Bool} {ee : List S → Rs D} {env : List S} (enc : α → PyData) (t : α → Bool) (f : α → PyData) : ∀ {l : List α}, (∀ a ∈ l, ∃ env1, bindP p (enc a) env = some env1 ∧ tt env1 = .ok (t a) ∧ (t a = true → ee env1 = .ok (.d (f a)))) → cmpL p tt ee env (l.map enc) = .ok ((l.filter t).map f)
  | [], _ => rfl
  | a :: l, h => by
    obtain ⟨env1, e1, e2, e3⟩ := h a List.mem_cons_self
    have ih := cmpL_pure enc t f (l := l) fun b hb => h b (List.mem_cons_of_mem _ hb)
    rw [List.map_cons, cmpL, e1]
    simp only [e2, Rs.nx_ok, Rs.bind_ok]
    cases q : t a with
    | false => simp only [ih, List.filter_cons, q, Bool.false_eq_true, if_false]
    | true => simp only [e3 q, ih, Rs.nx_ok, Rs.bind_ok, fDat_1, List.filter_cons, q, if_true, List.map_cons]
theorem cmpL_map {α : Type} {T : Tab} {p : Pat} {ee : List S → Rs D} {env : List S} (enc : α → PyData) (f : α → PyData) {l : List α} (h : ∀ a ∈ l, ∃ env1, bindP p (enc a) env = some env1 ∧ ee env1 = .ok (.d (f a))) : cmpL p (ev T .yes).b ee env (l.map enc) = .ok (l.map f) := by
  have := cmpL_pure (tt := (ev T .yes).b) enc (fun _ => true) f (l := l) fun a ha => by
    obtain ⟨e1, a1, a2⟩ := h a ha
    exact ⟨e1, a1, rfl, fun _ => a2⟩
  rwa [List.filter_eq_self.mpr (fun _ _ => rfl)] at this
/-- data as they are -/
theorem cmpL_mapD {T : Tab} {p : Pat} {ee : List S → Rs D} {env : List S} (f : PyData → PyData) {l : List PyData} (h : ∀ a ∈ l, ∃ env1, bindP p a env = some env1 ∧ ee env1 = .ok (.d (f a))) : cmpL p (ev T .yes).b ee env l = .ok (l.map f) := by
  have := cmpL_map (T := T) (p := p) (env := env) (ee := ee) (fun x => x) f (l := l) h
  rwa [List.map_id'] at this
/-! ### the checks of tasks and codes, run -/
theorem is_between_eq (v : PyData) (lo hi : Int) : F_is_between [.d v, .d (.int lo), .d (.int hi)] = .ok (.d (.bool (btw v lo hi))) := by
  cases v <;> simp [F_is_between, c_is_between, isaT, btw]
  by_cases h : lo ≤ ‹Int› <;> simp [h]
theorem is_ascending_eq {xs : List PyData} (h : xs.all isI = true) : F_is_ascending [.d (.tuple xs)] = .ok (.d (.bool (asc xs))) := by
  simp [F_is_ascending, c_is_ascending]
  rw [cmpL_mapD (fun z => .bool (lt2 z)) fun z hz => ?_]
  · simp [asc, isB, tru, List.all_map, Function.comp_def, cutD_1]
  · rw [cutD_1, List.drop_one] at hz
    obtain ⟨a, b, rfl⟩ := zip_ints h z hz
    exact ⟨_, by simp; rfl, by simp [lt2]⟩
theorem are_messages_eq (m : Int) (v : PyData) : F_are_messages [.d (.int m), .d v] = .ok (.d (.bool (areM m v))) := by
  cases v <;> simp [F_are_messages, c_are_messages, isaT, areM]
  next xs =>
  rw [cmpL_mapD (fun x => .bool (btw x 0 (m - 1))) fun x hx => ⟨_, by simp; rfl, by simp [is_between_eq]⟩]
  simp only [Rs.th_ok, Rs.bind_ok, fBl_8, List.all_map, Function.comp_def, isB, tru, all_tt, gd_t, Rs.th_bind, fTru_2]
  cases a : xs.all (fun x => btw x 0 (m - 1)) with
  | true =>
    have hi : xs.all isI = true := List.all_eq_true.mpr fun x hx => btw_isI (List.all_eq_true.mp a x hx)
    simp [is_ascending_eq hi]
  | false => simp
theorem is_receiver_eq (m : Int) (v : PyData) : F_is_receiver [.d (.int m), .d v] = .ok (.d (.bool (isRecv m v))) := by
  cases v <;> simp [F_is_receiver, c_is_receiver, isaT, isRecv]
  next xs =>
  rcases xs with _ | ⟨w, _ | ⟨k, _ | ⟨u, xs⟩⟩⟩ <;> simp
  · simp [is_between_eq, are_messages_eq]
    cases a : btw w 0 (m - 1) with
    | false => simp
    | true =>
      simp
      cases b : areM m k with
      | false => simp
      | true =>
        obtain ⟨ks, rfl, _, _⟩ := areM_tup b
        obtain ⟨i, rfl, _, _⟩ := btw_int a
        simp [memT]
  · intro h; omega
theorem is_task_eq (v : PyData) : F_is_task [.d v] = .ok (.d (.bool (isTask v))) := by
  cases v <;> simp [F_is_task, c_is_task, isaT, isTask]
  next xs =>
  rcases xs with _ | ⟨w, _ | ⟨k, _ | ⟨u, xs⟩⟩⟩ <;> simp
  · simp [uC, is_between_eq]
    cases a : btw w 1 6 with
    | false => simp
    | true =>
      obtain ⟨m, rfl, h1, h2⟩ := btw_int a
      simp
      cases k <;> simp [isaT, recvs]
      next rs =>
      by_cases b1 : 1 ≤ rs.length
      · have c1 : (1 : Int) ≤ (rs.length : Int) := by omega
        by_cases b2 : rs.length ≤ 6
        · have c2 : (rs.length : Int) ≤ 6 := by omega
          simp [b1, b2, c1, c2]
          rw [cmpL_mapD (fun x => .bool (isRecv m x)) fun x hx => ⟨_, by simp; rfl, by simp [is_receiver_eq]⟩]
          simp [List.all_map, Function.comp_def, isB, tru]
          intro h; omega
        · have c2 : ¬ (rs.length : Int) ≤ 6 := by omega
          simp [b1, b2, c1, c2]
      · have c1 : ¬ (1 : Int) ≤ (rs.length : Int) := by omega
        simp [b1, c1]
  · intro h; omega
theorem check_task_eq (v : PyData) : F_check_task [.d v] = if isTask v = true then .ok (.d .none) else .ex 1 := by
  simp [F_check_task, c_check_task, is_task_eq]
  cases isTask v <;> simp
theorem check_messages_eq (v : PyData) : F_check_messages [.d v] = if btw v 1 6 = true then .ok (.d .none) else .ex 2 := by
  simp [F_check_messages, c_check_messages, is_between_eq, uC]
  cases btw v 1 6 <;> simp
theorem is_sum_eq (m : Int) (v : PyData) : F_is_sum [.d (.int m), .d v] = .ok (.d (.bool (isSum m v))) := by
  simp [F_is_sum, c_is_sum, are_messages_eq, isSum]
  cases h : areM m v <;> simp
theorem is_code_of_eq (m : Int) (v : PyData) : F_is_code_of [.d (.int m), .d v] = .ok (.d (.bool (isCode m v))) := by
  cases v <;> simp [F_is_code_of, c_is_code_of, isaT, isCode, uC]
  next xs =>
  by_cases b : xs.length ≤ 8
  · have c : (xs.length : Int) ≤ 8 := by omega
    simp [b, c]
    rw [cmpL_mapD (fun x => .bool (isSum m x)) fun x hx => ⟨_, by simp; rfl, by simp [is_sum_eq]⟩]
    simp [List.all_map, Function.comp_def, isB, tru]
  · have c : ¬ (xs.length : Int) ≤ 8 := by omega
    simp [b, c]
theorem is_code_eq (m v : PyData) : F_is_code [.d m, .d v] = if btw m 1 6 = true then (match m with | .int i => .ok (.d (.bool (isCode i v))) | _ => .no) else .ex 2 := by
  simp [F_is_code, c_is_code, check_messages_eq]
  cases h : btw m 1 6 with
  | false => simp
  | true =>
    obtain ⟨i, rfl, _⟩ := btw_int h
    simp [is_code_of_eq]
theorem check_code_eq (m : Int) (v : PyData) : F_check_code [.d (.int m), .d v] = if isCode m v = true then .ok (.d .none) else .ex 3 := by
  simp [F_check_code, c_check_code, is_code_of_eq]
  cases isCode m v <;> simp
theorem isTask_tup {v : PyData} (h : isTask v = true) : ∃ m rs, v = .tuple [.int m, .tuple rs] := by
  unfold isTask at h
  split at h
  · next w k =>
    rw [Bool.and_eq_true] at h
    obtain ⟨m, rfl, _⟩ := btw_int h.1
    unfold recvs at h
    split at h
    · next m' rs e1 => cases e1; exact ⟨m, rs, rfl⟩
    · cases h.2
  · cases h
theorem check_both_eq (t c : PyData) : F_check_both [.d t, .d c] = if isTask t = true then (match t with | .tuple [.int m, _] => if isCode m c = true then .ok (.d .none) else .ex 3 | _ => .no) else .ex 1 := by
  simp [F_check_both, c_check_both, check_task_eq]
  cases h : isTask t with
  | false => simp
  | true =>
    obtain ⟨m, rs, rfl⟩ := isTask_tup h
    simp [check_code_eq]
end Q
namespace Q
open PySem PySem.Spec PyProof.Rows L2 GF
/-! ### sums of messages as numbers -/
/-- the messages of v, ascending -/
def msgs (v : Nat) : List Int := ((List.range 6).filter fun i => v.testBit i).map fun (i : Nat) => (i : Int)
def mD (v : Nat) : PyData := .tuple (iL (msgs v))
abbrev nI (n : Nat) : PyData := .int (n : Int)
abbrev nL (b : List Nat) : List PyData := b.map nI
theorem mem_msgs {v : Nat} (h : v < 64) {i : Nat} : (i : Int) ∈ msgs v ↔ v.testBit i = true := by
  unfold msgs
  constructor
  · intro q
    obtain ⟨j, hj, e⟩ := List.mem_map.mp q
    have : j = i := by omega
    subst this
    exact (List.mem_filter.mp hj).2
  · intro q
    refine List.mem_map.mpr ⟨i, List.mem_filter.mpr ⟨List.mem_range.mpr ?_, q⟩, rfl⟩
    by_cases z : i < 6
    · exact z
    · rw [Nat.testBit_lt_two_pow (Nat.lt_of_lt_of_le h (Nat.pow_le_pow_right (n := 2) (i := 6) (by omega) (by omega)))] at q
      cases q
theorem msgs_nat {v : Nat} {x : Int} (h : x ∈ msgs v) : ∃ i : Nat, x = i ∧ i < 6 ∧ v.testBit i = true := by
  obtain ⟨j, hj, e⟩ := List.mem_map.mp h
  obtain ⟨a, b⟩ := List.mem_filter.mp hj
  exact ⟨j, e.symm, List.mem_range.mp a, b⟩
theorem msgs_up (v : Nat) : (msgs v).Pairwise (· < ·) := by
  unfold msgs
  rw [List.pairwise_map]
  exact (List.pairwise_lt_range.filter _).imp fun h => by omega
theorem msgs_len (v : Nat) : (msgs v).length ≤ 6 := by
  unfold msgs
  rw [List.length_map]
  exact Nat.le_trans (List.length_filter_le _ _) (by simp)
theorem up_ext : ∀ {l m : List Int}, l.Pairwise (· < ·) → m.Pairwise (· < ·) → (∀ x, x ∈ l ↔ x ∈ m) → l = m
  | [], [], _, _, _ => rfl
  | [], y :: m, _, _, h => absurd ((h y).mpr List.mem_cons_self) (by simp)
  | x :: l, [], _, _, h => absurd ((h x).mp List.mem_cons_self) (by simp)
  | x :: l, y :: m, p, q, h => by
    rw [List.pairwise_cons] at p q
    have e : x = y := by
      rcases List.mem_cons.mp ((h x).mp List.mem_cons_self) with z | z
      · exact z
      · rcases List.mem_cons.mp ((h y).mpr List.mem_cons_self) with w | w
        · exact w.symm
        · have := p.1 y w
          have := q.1 x z
          omega
    subst e
    rw [up_ext p.2 q.2 fun z => ⟨fun hz => ?_, fun hz => ?_⟩]
    · rcases List.mem_cons.mp ((h z).mp (List.mem_cons_of_mem _ hz)) with w | w
      · rw [w] at hz; have := p.1 x hz; omega
      · exact w
    · rcases List.mem_cons.mp ((h z).mpr (List.mem_cons_of_mem _ hz)) with w | w
      · rw [w] at hz; have := q.1 x hz; omega
      · exact w
theorem msgs_inj {u v : Nat} (hu : u < 64) (hv : v < 64) (h : msgs u = msgs v) : u = v := by
  refine Nat.eq_of_testBit_eq fun i => ?_
  rw [Bool.eq_iff_iff, ← mem_msgs hu, ← mem_msgs hv, h]
/-- six bits by what they are -/
def mk6 (f : Nat → Bool) : Nat := (f 0).toNat + 2 * (f 1).toNat + 4 * (f 2).toNat + 8 * (f 3).toNat + 16 * (f 4).toNat + 32 * (f 5).toNat
theorem mk6_ok (f : Nat → Bool) : mk6 f < 64 ∧ ∀ i, i < 6 → (mk6 f).testBit i = f i := by
  have key : ∀ a b c d e g : Bool, (a.toNat + 2 * b.toNat + 4 * c.toNat + 8 * d.toNat + 16 * e.toNat + 32 * g.toNat) < 64 ∧
    (a.toNat + 2 * b.toNat + 4 * c.toNat + 8 * d.toNat + 16 * e.toNat + 32 * g.toNat).testBit 0 = a ∧ (a.toNat + 2 * b.toNat + 4 * c.toNat + 8 * d.toNat + 16 * e.toNat + 32 * g.toNat).testBit 1 = b ∧
    (a.toNat + 2 * b.toNat + 4 * c.toNat + 8 * d.toNat + 16 * e.toNat + 32 * g.toNat).testBit 2 = c ∧ (a.toNat + 2 * b.toNat + 4 * c.toNat + 8 * d.toNat + 16 * e.toNat + 32 * g.toNat).testBit 3 = d ∧
    (a.toNat + 2 * b.toNat + 4 * c.toNat + 8 * d.toNat + 16 * e.toNat + 32 * g.toNat).testBit 4 = e ∧ (a.toNat + 2 * b.toNat + 4 * c.toNat + 8 * d.toNat + 16 * e.toNat + 32 * g.toNat).testBit 5 = g := by decide +kernel
  obtain ⟨h, h0, h1, h2, h3, h4, h5⟩ := key (f 0) (f 1) (f 2) (f 3) (f 4) (f 5)
  refine ⟨h, fun i hi => ?_⟩
  match i, hi with
  | 0, _ => exact h0
  | 1, _ => exact h1
  | 2, _ => exact h2
  | 3, _ => exact h3
  | 4, _ => exact h4
  | 5, _ => exact h5
theorem lt_of_bits {v n : Nat} (h : v < 64) (hn : n ≤ 6) (q : ∀ i, n ≤ i → i < 6 → v.testBit i = false) : v < 2 ^ n := by
  refine Nat.lt_pow_two_of_testBit v fun i hi => ?_
  by_cases z : i < 6
  · exact q i hi z
  · exact Nat.testBit_lt_two_pow (Nat.lt_of_lt_of_le h (Nat.pow_le_pow_right (n := 2) (i := 6) (by omega) (by omega)))
/-- ascending messages are the messages of a number -/
theorem MsgOk.num {n : Nat} (hn : n ≤ 6) {is : List Int} (h : MsgOk n is) : ∃ v, v < 2 ^ n ∧ v < 64 ∧ is = msgs v := by
  obtain ⟨a, b⟩ := mk6_ok fun i => decide ((i : Int) ∈ is)
  refine ⟨_, lt_of_bits a hn fun i h1 h2 => ?_, a, up_ext h.up (msgs_up _) fun x => ⟨fun hx => ?_, fun hx => ?_⟩⟩
  · rw [b i h2]
    refine decide_eq_false fun z => ?_
    have := h.bd _ z
    omega
  · have := h.bd x hx
    obtain ⟨i, rfl⟩ : ∃ i : Nat, x = i := ⟨x.toNat, by omega⟩
    rw [mem_msgs a, b i (by omega)]
    exact decide_eq_true hx
  · obtain ⟨i, rfl, h1, h2⟩ := msgs_nat hx
    rw [b i h1] at h2
    exact of_decide_eq_true h2
theorem msgs_ok {n v : Nat} (h : v < 2 ^ n) (h6 : v < 64) : MsgOk n (msgs v) := by
  refine ⟨fun x hx => ?_, msgs_up v⟩
  obtain ⟨i, rfl, h1, h2⟩ := msgs_nat hx
  by_cases z : i < n
  · omega
  · rw [Nat.testBit_lt_two_pow (Nat.lt_of_lt_of_le h (Nat.pow_le_pow_right (by omega) (by omega)))] at h2
    cases h2
/-! ### typed tasks and codes -/
abbrev Rn := Nat × Nat
def rD (r : Rn) : PyData := .tuple [nI r.1, mD r.2]
def tD (n : Nat) (rs : List Rn) : PyData := .tuple [nI n, .tuple (rs.map rD)]
def cD (c : List Nat) : PyData := .tuple (c.map mD)
structure ROk (n : Nat) (r : Rn) : Prop where
  w : r.1 < n
  k : r.2 < 2 ^ n
  nw : r.2.testBit r.1 = false
structure TOk (n : Nat) (rs : List Rn) : Prop where
  n1 : 1 ≤ n
  n6 : n ≤ 6
  r1 : 1 ≤ rs.length
  r6 : rs.length ≤ 6
  ok : ∀ r ∈ rs, ROk n r
structure COk (n : Nat) (c : List Nat) : Prop where
  ok : ∀ v ∈ c, v ≠ 0 ∧ v < 2 ^ n
theorem pow64 {v n : Nat} (hn : n ≤ 6) (h : v < 2 ^ n) : v < 64 := Nat.lt_of_lt_of_le h (Nat.pow_le_pow_right (n := 2) (by omega) hn)
theorem RcOk.num {n : Nat} (hn : n ≤ 6) {r : Rc} (h : RcOk n r) : ∃ s : Rn, rcD r = rD s ∧ ROk n s := by
  obtain ⟨w, ks⟩ := r
  obtain ⟨v, h1, h6, e⟩ := h.ms.num hn
  have w0 : 0 ≤ w := h.lo
  have w1 : w < n := h.hi
  obtain ⟨i, rfl⟩ : ∃ i : Nat, w = i := ⟨w.toNat, by omega⟩
  refine ⟨(i, v), ?_, ⟨by omega, h1, ?_⟩⟩
  · show PyData.tuple [_, .tuple (iL ks)] = _
    rw [show ks = msgs v from e]; rfl
  · have nw : (i : Int) ∉ ks := h.nw
    rw [show ks = msgs v from e, mem_msgs h6] at nw
    simpa using nw
theorem rcs_num {n : Nat} (hn : n ≤ 6) : ∀ {rs : List Rc}, (∀ r ∈ rs, RcOk n r) → ∃ ss : List Rn, rs.map rcD = ss.map rD ∧ ss.length = rs.length ∧ ∀ s ∈ ss, ROk n s
  | [], _ => ⟨[], rfl, rfl, by simp⟩
  | r :: rs, h => by
    obtain ⟨s, e, ok⟩ := (h r List.mem_cons_self).num hn
    obtain ⟨ss, e2, l, ok2⟩ := rcs_num hn fun q hq => h q (List.mem_cons_of_mem _ hq)
    exact ⟨s :: ss, by simp [e, e2], by simp [l], fun q hq => (List.mem_cons.mp hq).elim (fun z => z ▸ ok) (ok2 q)⟩
theorem TaskOk.num {n : Int} {rs : List Rc} (h : TaskOk n rs) : ∃ (m : Nat) (ss : List Rn), n = m ∧ taskD n rs = tD m ss ∧ ss.length = rs.length ∧ TOk m ss := by
  obtain ⟨m, rfl⟩ : ∃ m : Nat, n = m := ⟨n.toNat, by have := h.n1; omega⟩
  have n1 := h.n1
  have n6 := h.n6
  obtain ⟨ss, e, l, ok⟩ := rcs_num (n := m) (by omega) h.ok
  exact ⟨m, ss, rfl, by unfold taskD tD; rw [e], l, ⟨by omega, by omega, by rw [l]; exact h.r1, by rw [l]; exact h.r6, ok⟩⟩
theorem CodeOk.num {n : Nat} (hn : n ≤ 6) : ∀ {c : List (List Int)}, CodeOk n c → ∃ d : List Nat, codeD c = cD d ∧ d.length = c.length ∧ COk n d
  | [], _ => ⟨[], rfl, rfl, ⟨by simp⟩⟩
  | s :: c, h => by
    obtain ⟨a, b⟩ := h.ok s List.mem_cons_self
    obtain ⟨v, h1, h6, e⟩ := a.num hn
    obtain ⟨d, e2, l, ok⟩ := CodeOk.num hn (c := c) ⟨fun q hq => h.ok q (List.mem_cons_of_mem _ hq)⟩
    refine ⟨v :: d, ?_, by simp [l], ⟨fun q hq => ?_⟩⟩
    · unfold codeD cD at e2 ⊢
      rw [List.map_cons, List.map_cons]
      injection e2 with e2
      rw [e2, e]; rfl
    · rcases List.mem_cons.mp hq with z | z
      · rw [z]
        refine ⟨fun z0 => b ?_, h1⟩
        rw [e, z0]; rfl
      · exact ok.ok q z
end Q
namespace Q
open PySem PySem.Spec PyProof.Rows L2 GF
/-! ### the spans' defs, run -/
def isOI (r : Rs D) (i : Int) : Bool := match r with
  | .ok (.d (.int j)) => decide (j = i)
  | _ => false
theorem isOI_ok {r : Rs D} {i : Int} (h : isOI r i = true) : r = .ok (.d (.int i)) := by
  unfold isOI at h
  split at h
  · rw [of_decide_eq_true h]
  · cases h
def isOT (r : Rs D) (l : List Int) : Bool := match r with
  | .ok (.d (.tuple xs)) => decide (xs.length = l.length) && (xs.zip l).all fun p => match p.1 with | .int i => decide (i = p.2) | _ => false
  | _ => false
theorem isOT_ok {r : Rs D} {l : List Int} (h : isOT r l = true) : r = .ok (.d (.tuple (iL l))) := by
  unfold isOT at h
  split at h
  · next xs =>
    rw [Bool.and_eq_true] at h
    have : xs = iL l := by
      have h1 := of_decide_eq_true h.1
      have h2 := h.2
      clear h
      induction xs generalizing l with
      | nil => cases l with
        | nil => rfl
        | cons _ _ => simp at h1
      | cons x xs ih => cases l with
        | nil => simp at h1
        | cons y l =>
          simp only [List.zip_cons_cons, List.all_cons, Bool.and_eq_true] at h2
          rw [ih (l := l) (by simpa using h1) h2.2]
          cases x <;> simp at h2
          rw [h2.1]; rfl
    rw [this]
  · cases h
theorem bit_eq {m : Nat} (h : m ≤ 6) : F_bit [.d (nI m)] = .ok (.d (nI (2 ^ m))) := by
  have key : ∀ m < 7, isOI (F_bit [.d (nI m)]) ((2 ^ m : Nat) : Int) = true := by decide +kernel
  exact isOI_ok (key m (by omega))
theorem number_of_eq {v : Nat} (h : v < 64) : F_number_of [.d (mD v)] = .ok (.d (nI v)) := by
  have key : ∀ v < 64, isOI (F_number_of [.d (mD v)]) (v : Int) = true := by decide +kernel
  exact isOI_ok (key v h)
theorem messages_of_eq {v : Nat} (h : v < 64) : F_messages_of [.d (nI v)] = .ok (.d (mD v)) := by
  have key : ∀ v < 64, isOT (F_messages_of [.d (nI v)]) (msgs v) = true := by decide +kernel
  exact isOT_ok (key v h)
theorem lowest_eq {v : Nat} (h : v < 64) : F_lowest [.d (nI v)] = .ok (.d (nI (lowN v))) := by
  have key : ∀ v < 64, isOI (F_lowest [.d (nI v)]) (lowN v : Int) = true := by decide +kernel
  exact isOI_ok (key v h)
theorem xor_eq {a b : Nat} (ha : a < 64) (hb : b < 64) : Builtin.bitXor a b = ((a ^^^ b : Nat) : Int) := by
  have key : ∀ a : Nat, a < 64 → ∀ b : Nat, b < 64 → Builtin.bitXor (a : Int) (b : Int) = ((a ^^^ b : Nat) : Int) := by decide +kernel
  exact key a ha b hb
theorem and_eq (a b : Nat) : Builtin.bitAnd a b = ((a &&& b : Nat) : Int) := by simp [Builtin.bitAnd]
theorem wo_eq {a b : Nat} (ha : a < 64) (hb : b < 64) : Builtin.bitAnd a (Builtin.bitNot b) = ((wo a b : Nat) : Int) := by
  have key : ∀ a : Nat, a < 64 → ∀ b : Nat, b < 64 → Builtin.bitAnd (a : Int) (Builtin.bitNot (b : Int)) = ((wo a b : Nat) : Int) := by decide +kernel
  exact key a ha b hb
theorem and_low {v x : Nat} (hv : v < 64) (hx : x < 64) : (v &&& lowN x = 0) ↔ v.testBit (hd x) = false := by
  have key : ∀ v < 64, ∀ x < 64, (v &&& lowN x = 0) ↔ v.testBit (hd x) = false := by decide +kernel
  exact key v hv x hx
theorem and_pow {v m : Nat} : (2 ^ m &&& v = 0) ↔ v.testBit m = false := by
  constructor
  · intro h
    have : (2 ^ m &&& v).testBit m = false := by rw [h]; simp
    rw [Nat.testBit_and, Nat.testBit_two_pow] at this
    simpa using this
  · intro h
    refine Nat.eq_of_testBit_eq fun i => ?_
    rw [Nat.testBit_and, Nat.testBit_two_pow]
    by_cases z : m = i
    · subst z; simp [h]
    · simp [z]
@[simp] theorem eqv_nn (i j : Nat) : PyData.eqv (nI i) (nI j) = decide (i = j) := by
  rw [eqv_ii]
  by_cases h : i = j
  · simp [h]
  · have : ¬ (i : Int) = (j : Int) := by omega
    simp [h, this]
theorem eqv_n0 (i : Nat) : PyData.eqv (.int (i : Int)) (.int 0) = decide (i = 0) := eqv_nn i 0
theorem cleared_loop {T : Tab} : ∀ {b : List Nat} {v : Nat} {s0 s2 : S}, (∀ x ∈ b, x < 64) → v < 64 → ∃ s, evFor (.nm 2) (evS [(8, 1, F_lowest)] (.cons (.ifS (.bin .ne (.bin .band (.var 1) (.call 8 (.cons (.var 2) .nil))) (.con (.int 0))) (.cons (.aug .xor 1 (.var 2)) .nil) .nil) .nil)) (nL b) [s0, .d (nI v), s2] = .nx [s0, .d (nI (clr b v)), s]
  | [], v, s0, s2, _, _ => ⟨s2, rfl⟩
  | x :: b, v, s0, s2, hb, hv => by
    have hx := hb x List.mem_cons_self
    have hb' : ∀ y ∈ b, y < 64 := fun y hy => hb y (List.mem_cons_of_mem _ hy)
    rw [show nL (x :: b) = nI x :: nL b from rfl, evFor_nm, clr_cons]
    cases q : v.testBit (hd x) with
    | true =>
      have z : ¬ (v &&& lowN x = 0) := fun z => by rw [(and_low hv hx).mp z] at q; cases q
      obtain ⟨s, e⟩ := cleared_loop (T := T) (b := b) (v := v ^^^ x) (s0 := s0) (s2 := .d (nI x)) hb' (Nat.xor_lt_two_pow (n := 6) hv hx)
      refine ⟨s, ?_⟩
      simp [lowest_eq hx, and_eq, eqv_n0, z, xor_eq hv hx]
      exact e
    | false =>
      have z := (and_low hv hx).mpr q
      obtain ⟨s, e⟩ := cleared_loop (T := T) (b := b) (v := v) (s0 := s0) (s2 := .d (nI x)) hb' hv
      refine ⟨s, ?_⟩
      simp [lowest_eq hx, and_eq, eqv_n0, z]
      exact e
theorem cleared_eq {b : List Nat} {v : Nat} (hb : ∀ x ∈ b, x < 64) (hv : v < 64) : F_cleared [.d (.tuple (nL b)), .d (nI v)] = .ok (.d (nI (clr b v))) := by
  obtain ⟨s, e⟩ := cleared_loop (T := []) (s0 := .d (.tuple (nL b))) (s2 := .no) hb hv
  simp [F_cleared, c_cleared]
  rw [e]
  simp
def pD (x : Nat) : PyData := .tuple [nI (lowN x), nI x]
theorem dle_pD (a b : Nat) : dle (pD a) (pD b) = ple a b := by
  unfold dle pD
  rw [PySem.W.dataLt_ii, Bool.eq_iff_iff]
  simp only [ple, Bool.not_eq_true', decide_eq_false_iff_not, Bool.or_eq_true, Bool.and_eq_true, decide_eq_true_eq]
  omega
theorem srt_pD (l : List Nat) : (l.map pD).mergeSort dle = (l.mergeSort ple).map pD := by
  rw [List.map_mergeSort]
  intro a _ b _
  exact (dle_pD a b).symm
theorem srtB_pD (l : List Nat) : srtB (l.map pD) = true := by
  simp [srtB, alB, pD, isTup, PySem.W.alike, PySem.W.alikeAll]
theorem joined_eq {b : List Nat} {v : Nat} (hb : ∀ x ∈ b, x < 64) (hv : v < 64) (hl : b.length ≤ 1000) : F_joined [.d (.tuple (nL b)), .d (nI v)] = .ok (.d (.tuple (nL (jn b v)))) := by
  have hr := clr_lt hb hv
  simp [F_joined, c_joined, cleared_eq hb hv, eqv_n0]
  unfold jn
  by_cases z : clr b v = 0
  · simp [z]
  · simp [z, lowest_eq hr]
    rw [cmpL_map nI (fun x => nI (fix (clr b v) x)) fun x hx => ⟨_, by simp; rfl, ?_⟩]
    · have h1 : lenOk (b.length + 1) = true := by simp [lenOk]; omega
      have h2 : b.map (fun x => nI (fix (clr b v) x)) ++ [nI (clr b v)] = nL (b.map (fix (clr b v)) ++ [clr b v]) := by simp [nL]
      have h3 : ∀ x ∈ b.map (fix (clr b v)) ++ [clr b v], x < 64 := fun x hx => by
        rcases List.mem_append.mp hx with q | q
        · obtain ⟨y, hy, rfl⟩ := List.mem_map.mp q
          unfold fix
          split
          · exact Nat.xor_lt_two_pow (n := 6) (hb y hy) hr
          · exact hb y hy
        · rw [List.mem_singleton.mp q]; exact hr
      generalize hm : b.map (fix (clr b v)) ++ [clr b v] = m at h2 h3
      simp [h1, h2]
      rw [cmpL_map nI pD fun x hx => ⟨_, by simp; rfl, by simp [lowest_eq (h3 x hx)]; rfl⟩]
      simp [srtB_pD, srt_pD]
      rw [cmpL_map pD nI fun x hx => ⟨_, by simp [pD]; rfl, by simp⟩]
      simp
    · have hx' := hb x hx
      simp [and_eq, eqv_n0]
      by_cases q : x.testBit (hd (clr b v)) = true
      · have z' : ¬ (x &&& lowN (clr b v) = 0) := fun z => by rw [(and_low hx' hr).mp z] at q; cases q
        simp [z', fix, q, xor_eq hx' hr]
      · have z' := (and_low hx' hr).mpr (by simpa using q)
        simp [z', fix, q]
theorem basis_loop {s0 : S} : ∀ {ns b : List Nat} {s2 : S}, (∀ x ∈ ns, x < 64) → Red b → ∃ s, evFor (.nm 2) (evS [(10, 2, F_joined)] (.cons (.set 1 (.call 10 (.cons (.var 1) (.cons (.var 2) .nil)))) .nil)) (nL ns) [s0, .d (.tuple (nL b)), s2] = .nx [s0, .d (.tuple (nL (ns.foldl jn b))), s]
  | [], b, s2, _, _ => ⟨s2, rfl⟩
  | x :: ns, b, s2, hn, hb => by
    have hx := hn x List.mem_cons_self
    obtain ⟨s, e⟩ := basis_loop (s0 := s0) (ns := ns) (b := jn b x) (s2 := .d (nI x)) (fun y hy => hn y (List.mem_cons_of_mem _ hy)) (jn_ok hb hx).1
    refine ⟨s, ?_⟩
    rw [show nL (x :: ns) = nI x :: nL ns from rfl, evFor_nm]
    simp [joined_eq hb.lt hx (Nat.le_trans hb.len6 (by omega))]
    exact e
theorem basis_of_eq {ns : List Nat} (hn : ∀ x ∈ ns, x < 64) : F_basis_of [.d (.list (nL ns))] = .ok (.d (.tuple (nL (bas ns)))) := by
  obtain ⟨s, e⟩ := basis_loop (s0 := .d (.list (nL ns))) (s2 := .no) hn Red.nil
  simp [F_basis_of, c_basis_of]
  rw [show ([] : List PyData) = nL [] from rfl, e]
  simp [bas]
theorem told_eq {b : List Nat} {k m : Nat} (hb : ∀ x ∈ b, x < 64) (hk : k < 64) (hm : m < 6) : F_told [.d (.tuple (nL b)), .d (nI k), .d (nI m)] = .ok (.d (.bool (tld b k m))) := by
  have h2 : 2 ^ m < 64 := Nat.pow_lt_pow_of_lt (a := 2) (n := m) (m := 6) (by omega) hm
  have hbit := bit_eq (Nat.le_of_lt hm)
  have hap := and_pow (v := k) (m := m)
  unfold tld
  generalize 2 ^ m = p at *
  simp [F_told, c_told, hbit, and_eq, eqv_n0]
  cases q : k.testBit m with
  | true =>
    have z : ¬ (p &&& k = 0) := fun z => by rw [hap.mp z] at q; cases q
    simp [z]
  | false =>
    have z := hap.mpr q
    have hl : ∀ x ∈ b.map (fun x => wo x k), x < 64 := fun x hx => by
      obtain ⟨y, hy, rfl⟩ := List.mem_map.mp hx
      exact wo_lt (hb y hy)
    simp [z]
    rw [cmpL_map nI (fun x => nI (wo x k)) fun x hx => ⟨_, by simp; rfl, by simp [wo_eq (hb x hx) hk]⟩]
    have e : b.map (fun x => nI (wo x k)) = nL (b.map fun x => wo x k) := by simp [nL]
    rw [e]
    generalize b.map (fun x => wo x k) = c at *
    simp [basis_of_eq hl, cleared_eq (bas_red hl).lt h2, eqv_n0]
/-! ### the tasks' defs, run -/
theorem basis_for_eqL {c : List Nat} (hc : ∀ v ∈ c, v < 64) : F_basis_for [.d (.list (c.map mD))] = .ok (.d (.tuple (nL (bas c)))) := by
  simp [F_basis_for, c_basis_for]
  rw [cmpL_map mD nI fun x hx => ⟨_, by simp; rfl, by simp [number_of_eq (hc x hx)]⟩]
  simp [basis_of_eq hc]
theorem basis_for_eq {c : List Nat} (hc : ∀ v ∈ c, v < 64) : F_basis_for [.d (cD c)] = .ok (.d (.tuple (nL (bas c)))) := by
  unfold cD
  simp [F_basis_for, c_basis_for]
  rw [cmpL_map mD nI fun x hx => ⟨_, by simp; rfl, by simp [number_of_eq (hc x hx)]⟩]
  simp [basis_of_eq hc]
theorem rng_nL (n : Nat) : rngD 0 n = nL (List.range n) := by
  unfold rngD nL
  refine List.map_congr_left fun i _ => ?_
  simp [nI]
def lrn (n : Nat) (b : List Nat) (k : Nat) : List Nat := (List.range n).filter fun m => tld b k m
theorem learned_from_eq {n : Nat} {b : List Nat} {k : Nat} (hn : n ≤ 6) (hb : ∀ x ∈ b, x < 64) (hk : k < 64) : F_learned_from [.d (nI n), .d (.tuple (nL b)), .d (mD k)] = .ok (.d (.tuple (nL (lrn n b k)))) := by
  have h1 : ((n : Int) ≤ 1000000) := by omega
  have h2 : (-1000000 : Int) ≤ (n : Int) := by omega
  simp [F_learned_from, c_learned_from, number_of_eq hk, h1, h2, rng_nL]
  rw [cmpL_pure nI (fun m => tld b k m) nI fun m hm => ⟨_, by simp; rfl, ?_, fun _ => by simp⟩]
  · simp [lrn]
  · have := List.mem_range.mp hm
    simp [told_eq hb hk (show m < 6 by omega)]
/-- the places of what is so -/
def whr {α : Type} (f : α → Bool) (l : List α) : List Nat := ((l.zipIdx).filter fun p => f p.1).map fun p => p.2
theorem enumF_map {α : Type} (enc : α → PyData) : ∀ (l : List α) (k : Nat), enumF k (l.map enc) = (l.zipIdx k).map fun p => .tuple [nI p.2, enc p.1]
  | [], _ => rfl
  | a :: l, k => by simp [enumF, enumF_map enc l (k + 1)]
theorem served_by_eq {n : Nat} {rs : List Rn} {b : List Nat} (hr : ∀ r ∈ rs, r.1 < 6 ∧ r.2 < 64) (hb : ∀ x ∈ b, x < 64) : F_served_by [.d (tD n rs), .d (.tuple (nL b))] = .ok (.d (.tuple (nL (whr (fun r => tld b r.2 r.1) rs)))) := by
  unfold tD
  simp [F_served_by, c_served_by, enumF_map]
  rw [cmpL_pure (fun p : Rn × Nat => .tuple [nI p.2, rD p.1]) (fun p => tld b p.1.2 p.1.1) (fun p => nI p.2) fun p hp => ⟨_, by simp [rD]; rfl, ?_, fun _ => by simp⟩]
  · simp [whr, nL]
  · obtain ⟨h1, h2⟩ := hr p.1 (List.fst_mem_of_mem_zipIdx hp)
    simp [number_of_eq h2, told_eq hb h2 h1]
theorem does_serve_eq {n : Nat} {rs : List Rn} {b : List Nat} (hr : ∀ r ∈ rs, r.1 < 6 ∧ r.2 < 64) (hb : ∀ x ∈ b, x < 64) : F_does_serve [.d (tD n rs), .d (.tuple (nL b))] = .ok (.d (.bool (decide ((whr (fun r => tld b r.2 r.1) rs).length = rs.length)))) := by
  simp [F_does_serve, c_does_serve, served_by_eq hr hb]
  simp [tD, nL, eqv_nn]
  omega
end Q
namespace Q
open PySem PySem.Spec PyProof.Rows L2 GF
/-! ### typed tasks and codes pass the checks -/
theorem areM_mD {n v : Nat} (h : v < 2 ^ n) (h6 : v < 64) : areM n (mD v) = true := areM_ints.mpr (msgs_ok h h6)
theorem isRecv_rD {n : Nat} (hn : n ≤ 6) {r : Rn} (h : ROk n r) : isRecv n (rD r) = true := by
  have h6 := pow64 hn h.k
  have w := h.w
  simp only [isRecv, rD, Bool.and_eq_true, areM_mD h.k h6, btw, decide_eq_true_eq]
  refine ⟨⟨⟨by omega, by omega⟩, trivial⟩, ?_⟩
  show (!memD (nI r.1) (iL (msgs r.2))) = true
  rw [memD_ints]
  have := h.nw
  simp only [Bool.not_eq_true', decide_eq_false_iff_not]
  rw [mem_msgs h6, this]; simp
theorem isTask_tD {n : Nat} {rs : List Rn} (h : TOk n rs) : isTask (tD n rs) = true := by
  have n1 := h.n1
  have n6 := h.n6
  simp only [isTask, tD, recvs, Bool.and_eq_true, btw, decide_eq_true_eq, List.length_map, List.all_map, List.all_eq_true, Function.comp]
  exact ⟨⟨by omega, by omega⟩, ⟨h.r1, h.r6⟩, fun r hr => isRecv_rD n6 (h.ok r hr)⟩
theorem msgs_nil {v : Nat} (h : v < 64) : msgs v = [] ↔ v = 0 := by
  constructor
  · intro e
    exact msgs_inj h (by omega) (e.trans rfl)
  · intro e; rw [e]; rfl
theorem eqvAll_ints : ∀ (a b : List Int), PyData.eqvAll (iL a) (iL b) = decide (a = b)
  | [], [] => by simp [PyData.eqvAll]
  | [], _ :: _ => by simp [PyData.eqvAll]
  | _ :: _, [] => by simp [PyData.eqvAll]
  | x :: a, y :: b => by
    have ih := eqvAll_ints a b
    simp only [iL, List.map_cons] at ih ⊢
    rw [PyData.eqvAll, ih, eqv_ii]
    by_cases h1 : x = y <;> by_cases h2 : a = b <;> simp [h1, h2]
theorem eqv_mD {u v : Nat} (hu : u < 64) (hv : v < 64) : PyData.eqv (mD u) (mD v) = decide (u = v) := by
  unfold mD
  rw [PyData.eqv, eqvAll_ints]
  by_cases h : u = v
  · simp [h]
  · have : msgs u ≠ msgs v := fun e => h (msgs_inj hu hv e)
    simp [h, this]
theorem isSum_mD {n v : Nat} (h : v < 2 ^ n) (h6 : v < 64) (h0 : v ≠ 0) : isSum n (mD v) = true := by
  unfold isSum
  rw [areM_mD h h6, show PyData.tuple [] = mD 0 from rfl, eqv_mD h6 (by omega)]
  simp [h0]
theorem isCode_cD {n : Nat} {c : List Nat} (hn : n ≤ 6) (h : COk n c) (l : c.length ≤ 8) : isCode n (cD c) = true := by
  simp only [isCode, cD, List.length_map, Bool.and_eq_true, decide_eq_true_eq, List.all_map, List.all_eq_true, Function.comp]
  exact ⟨l, fun v hv => isSum_mD (h.ok v hv).2 (pow64 hn (h.ok v hv).2) (h.ok v hv).1⟩
theorem COk.lt {n : Nat} {c : List Nat} (hn : n ≤ 6) (h : COk n c) : ∀ v ∈ c, v < 64 := fun v hv => pow64 hn (h.ok v hv).2
theorem TOk.lt {n : Nat} {rs : List Rn} (h : TOk n rs) : ∀ r ∈ rs, r.1 < 6 ∧ r.2 < 64 := fun r hr => ⟨Nat.lt_of_lt_of_le (h.ok r hr).w h.n6, pow64 h.n6 (h.ok r hr).k⟩
theorem btw16 {n : Nat} (h1 : 1 ≤ n) (h6 : n ≤ 6) : btw (nI n) 1 6 = true := by simp [btw]; omega
/-! ### learned, served, is_serving -/
theorem learned_eq {n : Nat} {c : List Nat} {k : Nat} (h1 : 1 ≤ n) (hn : n ≤ 6) (hc : COk n c) (l : c.length ≤ 8) (hk : k < 2 ^ n) : F_learned [.d (nI n), .d (cD c), .d (mD k)] = .ok (.d (.tuple (nL (lrn n (bas c) k)))) := by
  have hk6 := pow64 hn hk
  simp [F_learned, c_learned, check_messages_eq, btw16 h1 hn, check_code_eq, isCode_cD hn hc l, are_messages_eq, areM_mD hk hk6, basis_for_eq (hc.lt hn), learned_from_eq hn (bas_red (hc.lt hn)).lt hk6]
theorem learned_m {m c k : PyData} (h : btw m 1 6 = false) : F_learned [.d m, .d c, .d k] = .ex 2 := by
  simp [F_learned, c_learned, check_messages_eq, h]
theorem learned_c {n : Nat} {c k : PyData} (h1 : 1 ≤ n) (hn : n ≤ 6) (h : isCode n c = false) : F_learned [.d (nI n), .d c, .d k] = .ex 3 := by
  simp [F_learned, c_learned, check_messages_eq, btw16 h1 hn, check_code_eq, h]
theorem learned_k {n : Nat} {c k : PyData} (h1 : 1 ≤ n) (hn : n ≤ 6) (h : isCode n c = true) (hk : areM n k = false) : F_learned [.d (nI n), .d c, .d k] = .ex 4 := by
  simp [F_learned, c_learned, check_messages_eq, btw16 h1 hn, check_code_eq, h, are_messages_eq, hk]
def srv (rs : List Rn) (b : List Nat) : List Nat := whr (fun r => tld b r.2 r.1) rs
theorem check_both_ok {n : Nat} {rs : List Rn} {c : List Nat} (ht : TOk n rs) (hc : COk n c) (l : c.length ≤ 8) : F_check_both [.d (tD n rs), .d (cD c)] = .ok (.d .none) := by
  rw [check_both_eq, isTask_tD ht]
  simp [tD, isCode_cD ht.n6 hc l]
theorem check_both_t {t c : PyData} (h : isTask t = false) : F_check_both [.d t, .d c] = .ex 1 := by
  rw [check_both_eq, h]; rfl
theorem check_both_c {n : Nat} {rs : List Rn} {c : PyData} (ht : TOk n rs) (h : isCode n c = false) : F_check_both [.d (tD n rs), .d c] = .ex 3 := by
  rw [check_both_eq, isTask_tD ht]
  simp [tD, h]
theorem served_eq {n : Nat} {rs : List Rn} {c : List Nat} (ht : TOk n rs) (hc : COk n c) (l : c.length ≤ 8) : F_served [.d (tD n rs), .d (cD c)] = .ok (.d (.tuple (nL (srv rs (bas c))))) := by
  simp [F_served, c_served, check_both_ok ht hc l, basis_for_eq (hc.lt ht.n6), served_by_eq ht.lt (bas_red (hc.lt ht.n6)).lt, srv]
theorem served_t {t c : PyData} (h : isTask t = false) : F_served [.d t, .d c] = .ex 1 := by simp [F_served, c_served, check_both_t h]
theorem served_c {n : Nat} {rs : List Rn} {c : PyData} (ht : TOk n rs) (h : isCode n c = false) : F_served [.d (tD n rs), .d c] = .ex 3 := by simp [F_served, c_served, check_both_c ht h]
theorem is_serving_eq {n : Nat} {rs : List Rn} {c : List Nat} (ht : TOk n rs) (hc : COk n c) (l : c.length ≤ 8) : F_is_serving [.d (tD n rs), .d (cD c)] = .ok (.d (.bool (decide ((srv rs (bas c)).length = rs.length)))) := by
  simp [F_is_serving, c_is_serving, check_both_ok ht hc l, basis_for_eq (hc.lt ht.n6), does_serve_eq ht.lt (bas_red (hc.lt ht.n6)).lt, srv]
  rfl
theorem is_serving_t {t c : PyData} (h : isTask t = false) : F_is_serving [.d t, .d c] = .ex 1 := by simp [F_is_serving, c_is_serving, check_both_t h]
theorem is_serving_c {n : Nat} {rs : List Rn} {c : PyData} (ht : TOk n rs) (h : isCode n c = false) : F_is_serving [.d (tD n rs), .d c] = .ex 3 := by simp [F_is_serving, c_is_serving, check_both_c ht h]
/-! ### the laws' own sums -/
theorem law_is_eq (a : PyData) (b : Bool) : F__law_is [.d a, .d (.bool b)] = .ok (.d (.bool (match a with | .bool x => decide (x = b) | _ => false))) := by
  cases a <;> simp [F__law_is, c__law_is, isaT]
/-- messages in some order -/
structure Bits (fs : List Int) (v : Nat) : Prop where
  nd : fs.Nodup
  mem : ∀ x, x ∈ fs ↔ x ∈ msgs v
theorem Bits.msgs (v : Nat) : Bits (msgs v) v := ⟨(msgs_up v).imp fun h => Int.ne_of_lt h, fun _ => Iff.rfl⟩
theorem mem_xor {u v : Nat} (hu : u < 64) (hv : v < 64) (x : Int) : x ∈ msgs (u ^^^ v) ↔ (x ∈ msgs u ∧ x ∉ msgs v) ∨ (x ∈ msgs v ∧ x ∉ msgs u) := by
  have hx : u ^^^ v < 64 := Nat.xor_lt_two_pow (n := 6) hu hv
  have conv : ∀ {w : Nat}, w < 64 → (x ∈ msgs w → ∃ i : Nat, x = i) := fun _ q => by obtain ⟨i, e, _⟩ := msgs_nat q; exact ⟨i, e⟩
  by_cases h : ∃ i : Nat, x = i
  · obtain ⟨i, rfl⟩ := h
    rw [mem_msgs hu, mem_msgs hv, mem_msgs hx, Nat.testBit_xor]
    cases u.testBit i <;> cases v.testBit i <;> simp
  · have a1 : x ∉ msgs u := fun q => h (conv hu q)
    have a2 : x ∉ msgs v := fun q => h (conv hv q)
    have a3 : x ∉ msgs (u ^^^ v) := fun q => h (conv hx q)
    simp [a1, a2, a3]
theorem Bits.step {fs : List Int} {u v : Nat} (hu : u < 64) (hv : v < 64) (h : Bits fs u) : Bits (fs.filter (fun x => !decide (x ∈ Q.msgs v)) ++ (Q.msgs v).filter (fun x => !decide (x ∈ fs))) (u ^^^ v) := by
  refine ⟨List.nodup_append.mpr ⟨h.nd.filter _, (Bits.msgs v).nd.filter _, fun a ha b hb => ?_⟩, fun x => ?_⟩
  · intro e
    subst e
    have h1 := (List.mem_filter.mp ha).2
    have h2 := (List.mem_filter.mp hb).1
    simp [h2] at h1
  · simp [List.mem_append, List.mem_filter, mem_xor hu hv, h.mem]
theorem Bits.len {fs : List Int} {v : Nat} (h : Bits fs v) : fs.length ≤ 6 := by
  have := pig 6 fs h.nd fun x hx => by
    obtain ⟨i, rfl, a, _⟩ := msgs_nat ((h.mem x).mp hx)
    omega
  exact this
theorem dle_int (a b : Int) : dle (.int a) (.int b) = decide (a ≤ b) := by
  unfold dle
  rw [PySem.W.dataLt_int, PySem.W.cmp_not_lt]
theorem Bits.sort {fs : List Int} {v : Nat} (h : Bits fs v) : (iL fs).mergeSort dle = iL (Q.msgs v) := by
  have e : (iL fs).mergeSort dle = iL (fs.mergeSort fun a b => decide (a ≤ b)) := by
    unfold iL
    rw [List.map_mergeSort]
    intro a _ b _
    exact (dle_int a b).symm
  rw [e]
  congr 1
  have pm := List.mergeSort_perm fs fun a b => decide (a ≤ b)
  have srt := List.pairwise_mergeSort (le := fun a b : Int => decide (a ≤ b)) (fun a b c => by simp only [decide_eq_true_eq]; omega) (fun a b => by simp only [Bool.or_eq_true, decide_eq_true_eq]; omega) fs
  have nd : (fs.mergeSort fun a b => decide (a ≤ b)).Nodup := pm.nodup_iff.mpr h.nd
  refine up_ext ?_ (msgs_up v) fun x => by rw [pm.mem_iff, h.mem]
  have both := srt.and nd
  exact both.imp fun {a b} q => by have := of_decide_eq_true q.1; have := q.2; omega
theorem srtB_ints (fs : List Int) : srtB (iL fs) = true := by
  simp [srtB, alB, iL, isTup, isNo, PySem.W.alike]
theorem filt_notin (fs gs : List Int) : ((iL fs).filter fun x => !memD x (iL gs)) = iL (fs.filter fun x => !decide (x ∈ gs)) := by
  unfold iL
  rw [List.filter_map]
  congr 1
  refine List.filter_congr fun x _ => ?_
  show (!memD (.int x) (iL gs)) = _
  rw [memD_ints]
def xorL (vs : List Nat) (a : Nat) : Nat := vs.foldl (fun a v => a ^^^ v) a
theorem added_loop {s0 : S} : ∀ {vs : List Nat} {fs : List Int} {a : Nat} {s2 s3 s4 : S}, (∀ v ∈ vs, v < 64) → a < 64 → Bits fs a → ∃ gs t2 t3 t4, Bits gs (xorL vs a) ∧
    evFor (.nm 2) (evS [] (.cons (.set 3 (.comp false (.var 1) (.nm 4) (.bin .notin (.var 4) (.var 2)) (.var 4))) (.cons (.set 1 (.bin .add (.var 3) (.comp false (.var 2) (.nm 4) (.bin .notin (.var 4) (.var 1)) (.var 4)))) .nil))) (vs.map mD) [s0, .d (.list (iL fs)), s2, s3, s4] = .nx [s0, .d (.list (iL gs)), t2, t3, t4]
  | [], fs, a, s2, s3, s4, _, _, h => ⟨fs, s2, s3, s4, h, rfl⟩
  | v :: vs, fs, a, s2, s3, s4, hv, ha, h => by
    have hv0 := hv v List.mem_cons_self
    have hl := h.len
    have st := h.step ha hv0
    have hm := msgs_len v
    obtain ⟨gs, t2, t3, t4, hg, e⟩ := added_loop (s0 := s0) (s2 := .d (mD v)) (s3 := .d (.list (iL (fs.filter fun x => !decide (x ∈ msgs v))))) (s4 := s4) (vs := vs) (fun w hw => hv w (List.mem_cons_of_mem _ hw)) (Nat.xor_lt_two_pow (n := 6) ha hv0) st
    refine ⟨gs, t2, t3, t4, hg, ?_⟩
    rw [List.map_cons, evFor_nm]
    simp
    rw [cmpL_pure PyData.int (fun x => !decide (x ∈ msgs v)) PyData.int fun x hx => ⟨_, by simp; rfl, ?_, fun _ => by simp⟩]
    · simp [mD]
      rw [cmpL_pure PyData.int (fun x => !decide (x ∈ fs)) PyData.int fun x hx => ⟨_, by simp; rfl, ?_, fun _ => by simp⟩]
      · have lk : lenOk ((fs.filter fun x => !decide (x ∈ msgs v)).length + ((msgs v).filter fun x => !decide (x ∈ fs)).length) = true := by
          have := List.length_filter_le (fun x => !decide (x ∈ msgs v)) fs
          have := List.length_filter_le (fun x => !decide (x ∈ fs)) (msgs v)
          simp [lenOk]; omega
        simp [lk]
        rw [← List.map_append]
        exact e
      · simp
        rw [memD_ints]
    · simp [mD]
      rw [memD_ints]
theorem added_eq {vs : List Nat} (h : ∀ v ∈ vs, v < 64) {x : PyData} (hx : x = .tuple (vs.map mD) ∨ x = .list (vs.map mD)) : F__law_added [.d x] = .ok (.d (mD (xorL vs 0))) := by
  obtain ⟨gs, t2, t3, t4, hg, e⟩ := added_loop (s0 := .d x) (s2 := .no) (s3 := .no) (s4 := .no) h (by omega : (0 : Nat) < 64) (Bits.msgs 0)
  have hs : fSeq (.d x) = .ok (vs.map mD) := by rcases hx with rfl | rfl <;> rfl
  simp [F__law_added, c__law_added, hs]
  have e' := e
  rw [show iL (msgs 0) = [] from rfl] at e'
  rw [e']
  simp [srtB_ints, hg.sort, mD]
/-- all sums of c, one by one -/
def spS (fs : List Nat) (v : Nat) : List Nat := if v ∈ fs then fs else fs ++ fs.map fun x => v ^^^ x
def spl (c : List Nat) : List Nat := c.foldl spS [0]
structure SpOk (fs c : List Nat) : Prop where
  nd : fs.Nodup
  lt : ∀ v ∈ fs, v < 64
  mem : ∀ v, v ∈ fs ↔ Sp c v
theorem SpOk.nil : SpOk [0] [] := ⟨by simp, by simp, fun v => by simp [GF.Sp]⟩
theorem SpOk.step {fs c : List Nat} {v : Nat} (h : SpOk fs c) (hv : v < 64) : SpOk (spS fs v) (v :: c) := by
  unfold spS
  split
  · next q =>
    refine ⟨h.nd, h.lt, fun u => ?_⟩
    rw [h.mem, Sp.cons_iff]
    have sv := (h.mem v).mp q
    constructor
    · exact .inl
    · rintro (z | z)
      · exact z
      · have := z.xor sv
        rwa [xor_self_right] at this
  · next q =>
    have nv : ¬ Sp c v := fun z => q ((h.mem v).mpr z)
    refine ⟨List.nodup_append.mpr ⟨h.nd, ?_, fun a ha b hb => ?_⟩, fun u hu => ?_, fun u => ?_⟩
    · show (fs.map fun x => v ^^^ x).Pairwise (· ≠ ·)
      rw [List.pairwise_map]
      refine h.nd.imp fun {a b} n e => n ?_
      have := congrArg (fun z => v ^^^ z) e
      simpa [← Nat.xor_assoc] using this
    · obtain ⟨x, hx, rfl⟩ := List.mem_map.mp hb
      intro e
      have s1 := (h.mem a).mp ha
      have s2 := (h.mem x).mp hx
      apply nv
      have := s1.xor s2
      rw [e, xor_self_right] at this
      exact this
    · rcases List.mem_append.mp hu with z | z
      · exact h.lt u z
      · obtain ⟨x, hx, rfl⟩ := List.mem_map.mp z
        exact Nat.xor_lt_two_pow (n := 6) hv (h.lt x hx)
    · rw [List.mem_append, h.mem, Sp.cons_iff]
      constructor
      · rintro (z | z)
        · exact .inl z
        · obtain ⟨x, hx, rfl⟩ := List.mem_map.mp z
          right
          rw [Nat.xor_comm v x, xor_self_right]
          exact (h.mem x).mp hx
      · rintro (z | z)
        · exact .inl z
        · refine .inr (List.mem_map.mpr ⟨u ^^^ v, (h.mem _).mpr z, ?_⟩)
          rw [Nat.xor_comm v, xor_self_right]
theorem spl_from : ∀ {c fs d : List Nat}, SpOk fs d → (∀ v ∈ c, v < 64) → SpOk (c.foldl spS fs) (c.reverse ++ d)
  | [], fs, d, h, _ => h
  | v :: c, fs, d, h, hc => by
    have := spl_from (c := c) (h.step (hc v List.mem_cons_self)) fun w hw => hc w (List.mem_cons_of_mem _ hw)
    simpa using this
theorem spl_ok {c : List Nat} (hc : ∀ v ∈ c, v < 64) : SpOk (spl c) c := by
  have := spl_from (c := c) SpOk.nil hc
  refine ⟨this.nd, this.lt, fun v => ?_⟩
  have q := this.mem v
  rw [List.append_nil] at q
  show v ∈ c.foldl spS [0] ↔ _
  rw [q, Sp.perm (List.reverse_perm c)]
theorem SpOk.len {fs c : List Nat} (h : SpOk fs c) : fs.length ≤ 64 := by
  have := nodup_le (m := List.range 64) h.nd fun v hv => List.mem_range.mpr (h.lt v hv)
  simpa using this
theorem memD_mD {v : Nat} (hv : v < 64) : ∀ {fs : List Nat}, (∀ x ∈ fs, x < 64) → memD (mD v) (fs.map mD) = decide (v ∈ fs)
  | [], _ => by simp [memD]
  | x :: fs, h => by
    have ih := memD_mD hv (fs := fs) fun y hy => h y (List.mem_cons_of_mem _ hy)
    have : memD (mD v) ((x :: fs).map mD) = (PyData.eqv (mD x) (mD v) || memD (mD v) (fs.map mD)) := by simp [memD]
    rw [this, ih, eqv_mD (h x List.mem_cons_self) hv]
    by_cases z : x = v
    · simp [z]
    · have z' : v ≠ x := fun q => z q.symm
      simp [z, z']
theorem sh_mD (n : Nat) (v : Nat) : sh (n + 1) (mD v) = true := by simp [mD]
theorem alike_mD (u v : Nat) : PySem.W.alike (mD u) (mD v) = true := by
  unfold mD
  rw [PySem.W.alike]
  exact PySem.W.alike_ints _ _
theorem srtB_mD (fs : List Nat) : srtB (fs.map mD) = true := by
  have h1 : ∀ v, isTup (mD v) = true := fun v => rfl
  have h2 : ∀ v, sh 50 (mD v) = true := fun v => sh_mD 49 v
  simp [srtB, alB, h1, h2, alike_mD]
/-- the order of sums -/
def mle (u v : Nat) : Bool := dle (mD u) (mD v)
theorem srt_mD (fs : List Nat) : (fs.map mD).mergeSort dle = (fs.mergeSort mle).map mD := by
  rw [List.map_mergeSort]
  intro a _ b _
  rfl
theorem span_loop {s0 : S} : ∀ {c fs d : List Nat} {s2 s3 : S}, (∀ v ∈ c, v < 64) → SpOk fs d → ∃ t2 t3,
    evFor (.nm 2) (evS [(85, 1, F__law_added)] (.cons (.ifS (.bin .notin (.var 2) (.var 1)) (.cons (.set 1 (.bin .add (.var 1) (.comp false (.var 1) (.nm 3) .yes (.call 85 (.cons (.tup (.cons (.var 2) (.cons (.var 3) .nil))) .nil))))) .nil) .nil) .nil)) (c.map mD) [s0, .d (.list (fs.map mD)), s2, s3] = .nx [s0, .d (.list ((c.foldl spS fs).map mD)), t2, t3]
  | [], fs, d, s2, s3, _, _ => ⟨s2, s3, rfl⟩
  | v :: c, fs, d, s2, s3, hc, h => by
    have hv := hc v List.mem_cons_self
    obtain ⟨t2, t3, e⟩ := span_loop (s0 := s0) (s2 := .d (mD v)) (s3 := s3) (c := c) (fun w hw => hc w (List.mem_cons_of_mem _ hw)) (h.step hv)
    have hl := h.len
    refine ⟨t2, t3, ?_⟩
    rw [List.map_cons, evFor_nm]
    have h60 := sh_mD 59 v
    simp [memD_mD hv h.lt, h60]
    unfold spS at e ⊢
    by_cases q : v ∈ fs
    · simp [q] at e ⊢
      exact e
    · simp [q] at e ⊢
      rw [cmpL_map mD (fun x => mD (v ^^^ x)) fun x hx => ⟨_, by simp; rfl, ?_⟩]
      · have lk : lenOk (fs.length + fs.length) = true := by simp [lenOk]; omega
        simp [lk]
        simpa [Function.comp_def] using e
      · have := added_eq (vs := [v, x]) (by simp [hv, h.lt x hx]) (.inl rfl)
        simp at this
        simp [this, xorL]
theorem law_span_eq {c : List Nat} (hc : ∀ v ∈ c, v < 64) {x : PyData} (hx : x = .tuple (c.map mD) ∨ x = .list (c.map mD)) : F__law_span [.d x] = .ok (.d (.list (((spl c).mergeSort mle).map mD))) := by
  obtain ⟨t2, t3, e⟩ := span_loop (s0 := .d x) (s2 := .no) (s3 := .no) hc SpOk.nil
  have hs : fSeq (.d x) = .ok (c.map mD) := by rcases hx with rfl | rfl <;> rfl
  simp [F__law_span, c__law_span, hs]
  rw [show [PyData.tuple []] = [0].map mD from rfl, e]
  simp [srtB_mD, srt_mD, spl]
/-- a message is told by a list of sums -/
def tlls (fs : List Nat) (k m : Nat) : Bool := k.testBit m || fs.any fun v => decide (wo v k = 2 ^ m)
theorem memD_bit {m v : Nat} (hv : v < 64) : memD (nI m) (iL (msgs v)) = v.testBit m := by
  rw [memD_ints, Bool.eq_iff_iff, decide_eq_true_eq]
  exact mem_msgs hv
theorem rest_nil {v k m : Nat} (hv : v < 64) (hk : k < 64) : ((msgs v).filter fun x => !decide (x = (m : Int)) && !decide (x ∈ msgs k)) = [] ↔ ∀ i, i ≠ m → v.testBit i = true → k.testBit i = true := by
  rw [List.filter_eq_nil_iff]
  constructor
  · intro h i hi hvi
    have := h (i : Int) ((mem_msgs hv).mpr hvi)
    simp only [Bool.and_eq_true, Bool.not_eq_true', decide_eq_false_iff_not, not_and, Decidable.not_not] at this
    exact (mem_msgs hk).mp (this (by omega))
  · intro h x hx
    obtain ⟨i, rfl, _, hvi⟩ := msgs_nat hx
    simp only [Bool.and_eq_true, Bool.not_eq_true', decide_eq_false_iff_not, not_and, Decidable.not_not]
    intro n
    exact (mem_msgs hk).mpr (h i (by omega) hvi)
theorem tells_loop {s0 s1 : S} {k m : Nat} (hk : k < 64) (km : k.testBit m = false) : ∀ {fs : List Nat} {s3 s4 s5 : S}, (∀ v ∈ fs, v < 64) → ∃ t3 t4 t5,
    evFor (.nm 3) (evS [] (.cons (.set 4 (.comp false (.var 3) (.nm 5) (.and (.bin .ne (.var 5) (.var 2)) (.bin .notin (.var 5) (.var 1))) (.var 5))) (.cons (.ifS (.and (.bin .isin (.var 2) (.var 3)) (.bin .eq (.var 4) (.lst false .nil))) (.cons (.ret (.con (.bool true))) .nil) .nil) .nil))) (fs.map mD) [s0, .d (mD k), .d (nI m), s3, s4, s5] =
      if fs.any (fun v => decide (wo v k = 2 ^ m)) = true then .rt (.d (.bool true)) else .nx [s0, .d (mD k), .d (nI m), t3, t4, t5]
  | [], s3, s4, s5, _ => ⟨s3, s4, s5, rfl⟩
  | v :: fs, s3, s4, s5, h => by
    have hv := h v List.mem_cons_self
    obtain ⟨t3, t4, t5, e⟩ := tells_loop (s0 := s0) (s1 := s1) hk km (fs := fs) (s3 := .d (mD v)) (s4 := .d (.list (iL ((msgs v).filter fun x => !decide (x = (m : Int)) && !decide (x ∈ msgs k))))) (s5 := s5) fun w hw => h w (List.mem_cons_of_mem _ hw)
    refine ⟨t3, t4, t5, ?_⟩
    rw [List.map_cons, evFor_nm, List.any_cons]
    have rn := rest_nil (m := m) hv hk
    have wp := wo_pow (v := v) km
    simp [mD] at e ⊢
    rw [cmpL_pure PyData.int (fun x => !decide (x = (m : Int)) && !decide (x ∈ msgs k)) PyData.int fun x hx => ⟨_, by simp; rfl, ?_, fun _ => by simp⟩]
    · have hmb := memD_bit (m := m) hv
      simp [hmb]
      by_cases q : v.testBit m = true
      · simp [q]
        by_cases z : ((msgs v).filter fun x => !decide (x = (m : Int)) && !decide (x ∈ msgs k)) = []
        · have w := wp.mpr ⟨q, rn.mp z⟩
          simp [z, w, PyData.eqv, PyData.eqvAll]
        · have w : ¬ wo v k = 2 ^ m := fun w => z (rn.mpr (wp.mp w).2)
          have ee : PyData.eqv (.list (((msgs v).filter fun x => !decide (x = (m : Int)) && !decide (x ∈ msgs k)).map PyData.int)) (.list []) = false := by
            rw [PyData.eqv]
            have := eqvAll_ints ((msgs v).filter fun x => !decide (x = (m : Int)) && !decide (x ∈ msgs k)) []
            simp only [iL, List.map_nil] at this
            rw [this]
            simpa using z
          simp [ee, w]
          exact e
      · have w : ¬ wo v k = 2 ^ m := fun w => q (wp.mp w).1
        simp [q, w]
        exact e
    · simp
      rw [memD_ints]
      by_cases z : x = (m : Int) <;> simp [z]
theorem law_tells_eq {fs : List Nat} {k m : Nat} (h : ∀ v ∈ fs, v < 64) (hk : k < 64) : F__law_tells [.d (.list (fs.map mD)), .d (mD k), .d (nI m)] = .ok (.d (.bool (tlls fs k m))) := by
  have hmb := memD_bit (m := m) hk
  unfold tlls
  cases q : k.testBit m with
  | true => simp [F__law_tells, c__law_tells, mD, hmb, q]
  | false =>
    obtain ⟨t3, t4, t5, e⟩ := tells_loop (s0 := .d (.list (fs.map mD))) (s1 := .no) hk q (s3 := .no) (s4 := .no) (s5 := .no) h
    have hmb2 : memD (nI m) (iL (msgs k)) = false := by rw [hmb, q]
    have : F__law_tells [.d (.list (fs.map mD)), .d (mD k), .d (nI m)] = outR ((evFor (.nm 3) (evS [] (.cons (.set 4 (.comp false (.var 3) (.nm 5) (.and (.bin .ne (.var 5) (.var 2)) (.bin .notin (.var 5) (.var 1))) (.var 5))) (.cons (.ifS (.and (.bin .isin (.var 2) (.var 3)) (.bin .eq (.var 4) (.lst false .nil))) (.cons (.ret (.con (.bool true))) .nil) .nil) .nil))) (fs.map mD) [.d (.list (fs.map mD)), .d (mD k), .d (nI m), .no, .no, .no]).seq fun _ => .rt (.d (.bool false))) := by
      simp [F__law_tells, c__law_tells, mD, hmb2]
      rfl
    rw [this, e]
    by_cases z : fs.any (fun v => decide (wo v k = 2 ^ m)) = true
    · simp [z]
    · simp only [z]; rfl
theorem law_serves_eq {n : Nat} {rs : List Rn} {c : List Nat} (hr : ∀ r ∈ rs, r.1 < 6 ∧ r.2 < 64) (hc : ∀ v ∈ c, v < 64) : F__law_serves [.d (tD n rs), .d (cD c)] = .ok (.d (.tuple (nL (whr (fun r => tlls ((spl c).mergeSort mle) r.2 r.1) rs)))) := by
  have hs := law_span_eq hc (x := cD c) (.inl rfl)
  have hlt : ∀ v ∈ (spl c).mergeSort mle, v < 64 := fun v hv => (spl_ok hc).lt v ((List.mergeSort_perm _ _).mem_iff.mp hv)
  unfold tD
  simp [F__law_serves, c__law_serves, hs, enumF_map]
  rw [cmpL_pure (fun p : Rn × Nat => .tuple [nI p.2, rD p.1]) (fun p => tlls ((spl c).mergeSort mle) p.1.2 p.1.1) (fun p => nI p.2) fun p hp => ⟨_, by simp [rD]; rfl, ?_, fun _ => by simp⟩]
  · simp [whr, nL]
  · obtain ⟨h1, h2⟩ := hr p.1 (List.fst_mem_of_mem_zipIdx hp)
    simp [law_tells_eq hlt h2]
/-! ### both agree -/
theorem tlls_iff {fs c : List Nat} (h : ∀ v, v ∈ fs ↔ GF.Sp c v) {k m : Nat} : tlls fs k m = true ↔ Tells c k m := by
  unfold tlls Tells
  rw [Bool.or_eq_true, List.any_eq_true]
  cases q : k.testBit m with
  | true => simp
  | false =>
    simp only [Bool.false_eq_true, false_or, decide_eq_true_eq]
    exact ⟨fun ⟨v, hv, e⟩ => ⟨v, (h v).mp hv, (wo_pow q).mp e⟩, fun ⟨v, s, e⟩ => ⟨v, (h v).mpr s, (wo_pow q).mpr e⟩⟩
theorem mem_spl {c : List Nat} (hc : ∀ v ∈ c, v < 64) (v : Nat) : v ∈ (spl c).mergeSort mle ↔ GF.Sp c v := by
  rw [(List.mergeSort_perm _ _).mem_iff]
  exact (spl_ok hc).mem v
theorem tlls_tld {c : List Nat} (hc : ∀ v ∈ c, v < 64) (k m : Nat) : tlls ((spl c).mergeSort mle) k m = tld (bas c) k m := by
  rw [Bool.eq_iff_iff, tlls_iff (mem_spl hc), tld_iff (bas_red hc).lt]
  exact (Tells.congr (bas_sp hc)).symm
end Q
namespace Q
open PySem PySem.Spec PyProof.Rows L2 GF
/-! ### the laws' draws, for every law -/
section
variable {δ : Den (Option Addr)} {sa : Addr}
theorem dFn_of {Ω : Type} {δ : Den Ω} {k m : Nat} {sp : FSpec Ω} (h : δ.fns k = some (m, sp)) (a : TDa Ω) : dFn δ k a = dCallN m sp a := by unfold dFn; rw [h]
theorem dFnK_of {Ω : Type} {δ : Den Ω} {k m n : Nat} {sp : FSpec Ω} (h : δ.fns k = some (m, sp)) (a b : TDa Ω) : dFnK δ k n a b = dCallK n m sp a b := by unfold dFnK; rw [h]
def spTaskN (sa : Addr) : FSpec (Option Addr) := fun ds ω Q _ => ∃ (t : Addr) (most many : Int), ds = [.r (.ref sa), .r (.ref t), .d (.int most), .d (.int many)] ∧ ω = some t ∧ 1 ≤ most ∧ most ≤ 6 ∧ 1 ≤ many ∧ many ≤ 6 ∧
  ∀ (n : Nat) (rs : List Rn), TOk n rs → (n : Int) ≤ most → (rs.length : Int) ≤ many → Q (.d (tD n rs)) ω
def spSumN (sa : Addr) : FSpec (Option Addr) := fun ds ω Q _ => ∃ (t : Addr) (n : Nat), ds = [.r (.ref sa), .r (.ref t), .d (nI n)] ∧ ω = some t ∧ 1 ≤ n ∧ n ≤ 6 ∧
  ∀ v : Nat, v ≠ 0 → v < 2 ^ n → Q (.d (mD v)) ω
def spCodeN (sa : Addr) : FSpec (Option Addr) := fun ds ω Q _ => ∃ (t : Addr) (n : Nat) (most : Int), ds = [.r (.ref sa), .r (.ref t), .d (nI n), .d (.int most)] ∧ ω = some t ∧ 1 ≤ n ∧ n ≤ 6 ∧ 0 ≤ most ∧ most ≤ 8 ∧
  ∀ c : List Nat, COk n c → (c.length : Int) ≤ most → Q (.d (cD c)) ω
/-- what a def leaves behind -/
abbrev DEq (Qc : QD (Option Addr)) : DEnds (Option Addr) := ⟨fun _ ω' => Qc (.d .none) ω', Qc, fun _ _ => False, fun _ _ => False⟩
theorem rd_task (hd : δ.fns 0 = some (3, spDraw sa)) {N : List Str} (hN : N.length = 10) : ∀ ds (ω : Option Addr) Qc Ec, ds.length = 4 → spTaskN sa ds ω Qc Ec → denS δ c__law_task Ec ⟨fun _ ω' => Qc (.d .none) ω', Qc, fun _ _ => False, fun _ _ => False⟩ (startE N ds) ω := by
  rintro ds ω Qc Ec hl ⟨t, most, many, rfl, rfl, a1, a2, b1, b2, q0⟩
  have q : ∀ (n : Int) (rs : List Rc), TaskOk n rs → n ≤ most → (rs.length : Int) ≤ many → Qc (.d (taskD n rs)) (some t) := fun n rs ok h1 h2 => by
    obtain ⟨m, ss, rfl, e, l, ok'⟩ := ok.num
    rw [e]
    exact q0 m ss ok' h1 (by rw [l]; exact h2)
  simp [c__law_task, denS, den, startE, hN, dFn_of hd]
  refine ⟨by omega, by omega, fun total t0 t1 => ⟨by omega, by omega, fun cnt c0 c1 => ⟨by omega, ?_⟩⟩⟩
  refine forL_ind (I := fun xs env ω => ω = some t ∧ ∃ (rs : List Rc) (s6 s7 s8 s9 : S), env = [.r (.ref sa), .r (.ref t), .d (.int most), .d (.int many), .d (.int (1 + total)), .own false (rs.map rcD), s6, s7, s8, s9] ∧ rs.length + xs.length = (1 + cnt).toNat ∧ ∀ r ∈ rs, RcOk (1 + total) r) ?_ ?_ _ _ _ ⟨rfl, [], _, _, _, _, rfl, by simp [rngD], by simp⟩
  · rintro env ω ⟨rfl, rs, s6, s7, s8, s9, rfl, hl, ok⟩
    simp at hl ⊢
    refine q (1 + total) rs ⟨by omega, by omega, by omega, by omega, ok⟩ (by omega) (by omega)
  · rintro x xs env ω ih ⟨rfl, rs, s6, s7, s8, s9, rfl, hl, ok⟩
    rw [forL_cons]
    simp at hl ⊢
    refine ⟨by omega, by omega, fun want w0 w1 => ⟨by omega, ?_⟩⟩
    refine compL_any (by simp) (fun x hx R hR => by simp; exact fun _ _ _ => hR _) fun zs sz => ?_
    obtain ⟨is, rfl, mo⟩ := sub_rng sz
    simp
    refine compL_pure (fun x => !PyData.eqv x (.int want)) id (fun x hx => ⟨_, by simp; rfl, fun R r => ?_, fun _ R r => by simpa using r⟩) ?_
    · obtain ⟨i, hi, rfl⟩ := List.mem_map.mp hx
      simpa using r
    · refine ⟨by omega, ih _ _ ⟨rfl, rs ++ [(want, is.filter fun i => decide (i ≠ want))], .d x, .d (.int want), .d (.list (iL is)), s9, ?_, by simp; omega, fun r hr => ?_⟩⟩
      · rw [List.nil_append, filt_ne, List.map_append]
        rfl
      · rcases List.mem_append.mp hr with z | z
        · exact ok r z
        · rw [List.mem_singleton.mp z]
          rw [show (((1 + total).toNat : Nat) : Int) = 1 + total by omega] at mo
          exact ⟨w0, w1, mo.sub List.filter_sublist, by simp⟩
theorem rd_sum (hd : δ.fns 0 = some (3, spDraw sa)) {N : List Str} (hN : N.length = 5) : ∀ ds (ω : Option Addr) Qc Ec, ds.length = 3 → spSumN sa ds ω Qc Ec → denS δ c__law_sum Ec ⟨fun _ ω' => Qc (.d .none) ω', Qc, fun _ _ => False, fun _ _ => False⟩ (startE N ds) ω := by
  rintro ds ω Qc Ec hl ⟨t, n, rfl, rfl, a1, a2, q0⟩
  have q : ∀ is : List Int, MsgOk n is → is ≠ [] → Qc (.d (.tuple (iL is))) (some t) := fun is mo ne => by
    obtain ⟨v, h1, h6, rfl⟩ := mo.num a2
    exact q0 v (fun z => ne (by rw [z]; rfl)) h1
  simp [c__law_sum, denS, den, startE, hN, dFn_of hd]
  refine ⟨by omega, ?_⟩
  refine compL_any (by simp) (fun x hx R hR => by simp; exact fun _ _ _ => hR _) fun zs sz => ?_
  obtain ⟨is, rfl, mo⟩ := sub_rng sz
  simp [PyData.depth, PyData.depthAll, PyData.eqv]
  cases is with
  | nil =>
    simp [PyData.eqvAll]
    exact ⟨by omega, by omega, fun r r0 r1 => q [r] ⟨by simp; omega, by simp⟩ (by simp)⟩
  | cons a r =>
    simp [PyData.eqvAll]
    exact q (a :: r) mo (by simp)
theorem mDs_of {n : Nat} : ∀ {zs : List PyData}, (∀ z ∈ zs, ∃ v : Nat, z = mD v ∧ v ≠ 0 ∧ v < 2 ^ n) → ∃ c : List Nat, zs = c.map mD ∧ COk n c
  | [], _ => ⟨[], rfl, ⟨by simp⟩⟩
  | z :: zs, h => by
    obtain ⟨v, rfl, a, b⟩ := h z List.mem_cons_self
    obtain ⟨c, rfl, hc⟩ := mDs_of fun y hy => h y (List.mem_cons_of_mem _ hy)
    exact ⟨v :: c, rfl, ⟨fun s hs => (List.mem_cons.mp hs).elim (fun e => e ▸ ⟨a, b⟩) (hc.ok s)⟩⟩
theorem rd_code (hd : δ.fns 0 = some (3, spDraw sa)) (hs : δ.fns 3 = some (3, spSumN sa)) {N : List Str} (hN : N.length = 5) : ∀ ds (ω : Option Addr) Qc Ec, ds.length = 4 → spCodeN sa ds ω Qc Ec → denS δ c__law_code Ec ⟨fun _ ω' => Qc (.d .none) ω', Qc, fun _ _ => False, fun _ _ => False⟩ (startE N ds) ω := by
  rintro ds ω Qc Ec hl ⟨t, n, most, rfl, rfl, a1, a2, b1, b2, q⟩
  simp [c__law_code, denS, den, startE, hN, dFn_of hd, dFn_of hs]
  refine ⟨by omega, by omega, fun cnt c0 c1 => ⟨by omega, ?_⟩⟩
  refine compL_rep (fun y => ∃ v : Nat, y = mD v ∧ v ≠ 0 ∧ v < 2 ^ n) (fun x hx => ⟨_, by simp; rfl, fun R hR => ?_⟩) fun zs hz hp => ?_
  · simp
    exact ⟨t, n, rfl, rfl, a1, a2, fun v h0 h1 => hR _ ⟨v, rfl, h0, h1⟩⟩
  · obtain ⟨c, rfl, hc⟩ := mDs_of hp
    simp [rngD] at hz ⊢
    exact q c hc (by omega)
/-- known messages, drawn -/
theorem sub_num {n : Nat} (hn : n ≤ 6) {zs : List PyData} (h : zs.Sublist (rngD 0 n)) : ∃ v, v < 2 ^ n ∧ .tuple zs = mD v := by
  obtain ⟨is, rfl, mo⟩ := sub_rng h
  obtain ⟨v, h1, h6, rfl⟩ := mo.num hn
  exact ⟨v, h1, rfl⟩
end
end Q
namespace Q
open PySem PySem.Spec PyProof.Rows L2
/-! ### from the defs to the law -/
theorem vals_len {vs : List V} {us : List Value} (r : Vals vs us) : vs.length = us.length := Paired.length r
theorem vals_app {vs zs : List V} {us ws : List Value} (a : Vals vs us) (b : Vals zs ws) : Vals (vs ++ zs) (us ++ ws) := by
  induction a with
  | nil => exact b
  | cons x _ ih => exact .cons x ih
theorem kb_of {K : PySem.W.Frag} {x qual : Str} {params : Arguments} {body : List Stmt} {scope : Scope} {kws : List (Str × V)} {f : Addr} {fd : FuncData} {ps ks : List Str} {n : Nat} (F : FunD K x qual params body scope [] kws f fd) (h0 : ps ≠ [])
    (h : ∀ (kV doc pm : Value) (an : Option Addr) (cdv ct : Value) (us ws : List Value), us.length = n → us.length + ws.length = ps.length → bindArgs (PySem.W.fnOf x qual params body scope .none kV doc pm an cdv ct) ⟨us, ks.zip ws⟩ = pure (ps.zip (us ++ ws))) : KBinds K fd ps ks (gN n) (gN n) := by
  obtain ⟨oc, od, dV, kV, doc, pm, an, cdv, ct, osl, rfl, lk, hcd, hD, hK⟩ := F.ex
  rcases hD with ⟨_, rfl⟩ | ⟨e, _⟩
  · refine ⟨fun s us ws X hl => ?_, fun {vs us zs ws} a b => ?_⟩
    · by_cases hn : us.length = n
      · have e : gN n us ws = us ++ ws := if_pos hn
        rw [e] at hl ⊢
        exact .of_eq (h kV doc pm an cdv ct us ws hn (by rw [← hl, List.length_append]))
      · have e : gN n us ws = [] := if_neg hn
        rw [e] at hl
        exact absurd (List.eq_nil_of_length_eq_zero hl.symm) h0
    · unfold gN
      rw [vals_len a]
      split
      · exact vals_app a b
      · exact .nil
  · exact absurd rfl e
def restr (H : Hp) (a : Addr) : Hp := fun b => if b = a then H a else none
theorem restr_w {K : PySem.W.Frag} {H : Hp} {sa : Addr} {ns : List Int} (ho : Only H) (h : SqL K H sa (ns.map V.int)) : Hw (Wd K sa ns none) none (fun _ => none) (restr H sa) H := by
  refine ⟨fun _ _ h => (by cases h), fun a o h => ?_, fun _ _ h => (by cases h), fun _ _ h => (by cases h), ?_, fun P z => by cases z⟩
  · unfold restr at h
    split at h
    · next e => rw [e]; exact h
    · cases h
  · rcases h with (h | ⟨o, h⟩) | h
    · exact .inl (.inl (by show (if sa = sa then H sa else none) = _; rw [if_pos rfl]; exact h))
    · exact .inl (.inr ⟨o, by show (if sa = sa then H sa else none) = _; rw [if_pos rfl]; exact h⟩)
    · exact .inr h
def spTop (K : PySem.W.Frag) : Sp := fun vs H Q _ => ∃ (a : Addr) (ns : List Int), vs = [.ref a] ∧ ns.length ≤ 63 ∧ Only H ∧ SqL K H a (ns.map V.int) ∧ ∀ H', Q (.bl true) H'
/-- what flies out, in whatever world -/
def CXA (P : Program) : CXT := fun outer H s E u s' => ∃ w, L2.CX P w outer H s E u s'
theorem top_ok {P : Program} {w : World} {K : PySem.W.Frag} {mg : Str → Option Value} {base : Heap} {k : Nat} {f : Addr} {fd : FuncData} {cx : Nat → Value}
    (h : ∀ (sa : Addr) (ns : List Int), ns.length ≤ 63 → FnOk P w K mg base (L2.CX P w) k f fd ["script"] (spOf (Wd K sa ns none) cx 1 (spLaw sa))) : FnOk P w K mg base (CXA P) k f fd ["script"] (spTop K) := by
  refine ⟨fun vs H Q E ⟨a, ns, e, _⟩ => by rw [e]; rfl, fun A outer s H args us vs Q E hr he hb hv ⟨a, ns, e, hl, hO, hS, hq⟩ => ?_⟩
  subst e
  refine codeAny_mono ((h a ns hl).run A outer s H args us [.ref a] Q E hr he hb hv ?_) fun r s' q => ?_
  · refine ⟨fun _ => none, restr H a, none, [.r (.ref a)], fun d _ => d = .d (.bool true), fun _ _ => False, restr_w hO hS, .cons rfl .nil, rfl, ⟨rfl, rfl, fun _ => rfl⟩, fun d ω' v H' F' M' e _ _ r => ?_, fun _ _ _ _ _ z => z.elim⟩
    subst e
    cases r
    exact hq H'
  · cases r with
    | ok c => cases c <;> exact q
    | error e => exact ⟨w, q⟩
theorem cx_no {P : Program} : ∀ (H : Hp) (s : Shared) (e : Value) (s' : Shared), CXA P [] H s (fun _ _ _ => False) e s' → False := by
  rintro H s e s' ⟨_, _, _, _, _, _, _, _, _, _, _, _, _, z⟩
  exact z
theorem funD_same {K : PySem.W.Frag} {x qual x2 qual2 : Str} {params params2 : Arguments} {body body2 : List Stmt} {scope scope2 : Scope} {dvs dvs2 : List V} {kws kws2 : List (Str × V)} {f : Addr} {fd fd2 : FuncData} (F : FunD K x qual params body scope dvs kws f fd) (F2 : FunD K x2 qual2 params2 body2 scope2 dvs2 kws2 f fd2) : fd = fd2 := by
  obtain ⟨_, _, _, _, _, _, _, _, _, _, _, l1, _⟩ := F.ex
  obtain ⟨_, _, _, _, _, _, _, _, _, _, _, l2, _⟩ := F2.ex
  rw [l1] at l2
  cases l2
  rfl
end Q
namespace Q
open PySem PySem.Spec PyProof.Rows L2
/-! ### an exception that is caught and kept in a name -/
/-- the object at a is an exception of the class cls -/
def ExcO (cls : Value) (d : Option Addr) (a : Addr) : HO := .ext fun h => ∃ (oe : Obj) (vs : Array Value), h.get? a = some oe ∧ Zc cls d oe ∧ oe.data = .fields vs
theorem excO_ok {P : Program} {w : World} {H : Hp} {h : Heap} {a : Addr} {cls : Value} {d : Option Addr} {oe : Obj} {vs : Array Value} (e : h.get? a = some oe) (z : Zc cls d oe) (hd : oe.data = .fields vs) : ObjOk P w H h a (ExcO cls d a) :=
  ⟨⟨oe, vs, e, z, hd⟩, ⟨oe, e⟩, fun h1 h2 ⟨o, v, e1, z1, d1⟩ k => ⟨o, v, k o e1, z1, d1⟩⟩
section
variable {X : Cx} {pins : List (Addr × Obj)} {σ : L2.St} {H : Hp} {s : Shared}
/-- a pinned exception, new since the entry, is tracked from now on -/
theorem inv_track {a : Addr} {oe : Obj} {vs : Array Value} {cls : Value} {d : Option Addr} (I : Inv X ((a, oe) :: pins) σ H s) (new : X.s_0.heap.get? a = none) (z : Zc cls d oe) (hd : oe.data = .fields vs) (hp : ∀ p ∈ X.pn ++ pins, p.1 ≠ a) : Inv X pins σ (upd H a (ExcO cls d a)) s := by
  obtain ⟨ha, na, nL, nF, _⟩ := I.pin (a, oe) (List.mem_append.mpr (.inr List.mem_cons_self))
  have sub : ∀ p, p ∈ X.pn ++ pins → p ∈ X.pn ++ ((a, oe) :: pins) := fun p hp => by
    rcases List.mem_append.mp hp with q | q
    · exact List.mem_append_left _ q
    · exact List.mem_append_right _ (List.mem_cons_of_mem _ q)
  have up : ∀ {b : Addr} {o : HO}, H b = some o → upd H a (ExcO cls d a) b = some o := fun {b o} e => by rw [upd_ne (fun q => by rw [q, na] at e; cases e)]; exact e
  refine ⟨I.ok, I.os, I.bare, ⟨I.base.keep, I.base.slot, fun b o e n x => ?_, I.base.there, fun b xs e => up (I.base.tups b xs e), fun b o u e => up (I.base.frzs b o u e), fun b ps e => ?_⟩, I.loc, I.cell, ?_, fun x c e => ?_, fun p q => ?_, ?_, I.len⟩
  · rw [upd_ne (fun q => by rw [q, new] at e; cases e)]; exact I.base.free b o e n x
  · obtain ⟨more, q⟩ := I.base.tbls b ps e
    exact ⟨more, up q⟩
  · rw [upd_ne (Ne.symm nL)]; exact I.free
  · have ne : c ≠ a := fun q => by
      obtain ⟨v, o, e2, e3⟩ := I.cell x c e
      rw [q] at e2
      have e4 : oe = o := Option.some.inj ((show s.heap.get? a = some oe from ha).symm.trans e2)
      rw [← e4, hd] at e3
      cases e3
    rw [upd_ne ne]; exact I.freeC x c e
  · obtain ⟨q1, q2, q3, q4, q5⟩ := I.pin p (sub p q)
    exact ⟨q1, by rw [upd_ne (hp p q)]; exact q2, q3, q4, q5⟩
  · exact HOk.laidN I.hok (fun _ _ q => q) na (excO_ok ha z hd)
end
/-- what such a clause wishes of the body's exceptions: they are of c; the suite runs to its end -/
def wKeep (K : PySem.W.Frag) (c : Value) (n i : Nat) (ts : Addr → TS) (D : Ends) : WX := fun cls d σ H =>
  PySem.W.exmOne K cls c = some true ∧ (σ.length = n → ∀ a, H a = none → ts a { nx := fun σ' H' => D.nx (σ'.set i none) (upd H' a (ExcO cls d a)), rt := fun _ _ => False, bk := fun _ _ => False, ct := fun _ _ => False } (σ.set i (some (.ref a))) H)
def tryXe (X : Cx) (pins : List (Addr × Obj)) (D : Ends) (hh : List ExceptHandler) : Value → Shared → Prop := fun u s1 => wpAny (model X.prog X.w) X.A (noteFrame u X.env) (fun _ s2 => wpAny (model X.prog X.w) X.A (setFlight u none) (fun _ s3 =>
  wpAny (model X.prog X.w) X.A (handleBy u X.env hh) (SP X pins D) X.xe s3) X.xe s2) X.xe s1
/-- try: body, except x as n: suite; behind it the exception is known at its address -/
theorem ps_try_keep {X : Cx} {x n : Str} {c : Value} {i : Nat} {body suite : List Stmt} {b₀ : Stmt} {np pos pos' : Pos} {tb : WX → TS} {ts : Addr → TS} (hs : X.stack = X.env :: X.outer) (hf : X.env.frame = some X.env.locals) (hN : X.N.Nodup) (hi : X.N[i]? = some n) (hln : X.env.kindOf n = some .local) (hc : Names X x c) (hx : X.ex = [])
    (hb : ∀ (W : WX) (pn : List (Addr × Obj)) (xe : Value → Shared → Prop), Takes (X.tr pn xe) W → PassesOwn (model X.prog X.w) X.A X.env xe → PSs (X.tr pn xe) body (tb W))
    (hsu : ∀ (a : Addr) (oe : Obj) (cls : Value) (d : Option Addr) (pn : List (Addr × Obj)), Zc cls d oe → (∃ vs, oe.data = .fields vs) → PSs (X.suite a ((a, oe) :: pn)) (b₀ :: suite) (ts a)) :
    PS X (.Try body [.ExceptHandler (some (.Name x np)) (some n) (b₀ :: suite) pos'] [] [] pos) (fun D σ H => tb (wKeep X.K c X.N.length i ts D) D σ H) := by
  constructor
  intro pins s σ H D I h
  have ok := I.ok
  have fr2 : X.A.frames = some (X.env :: X.outer) := hs ▸ ok.frames
  apply wpAny_Try_except
  have hbody := (hb (wKeep X.K c X.N.length i ts D) (X.pn ++ pins) (tryXe X pins D [.ExceptHandler (some (.Name x np)) (some n) (b₀ :: suite) pos']) ?tk PassesOwn.looking).run [] s σ H D (I.toTry _) h
  · exact wpAny_mono hbody (fun f s1 hsp => by
      cases f with
      | next => obtain ⟨σ1, H1, J1, q⟩ := hsp; exact wpAny_execs_nil ⟨σ1, H1, J1.ofTry ok, q⟩
      | brk => obtain ⟨σ1, H1, J1, q⟩ := hsp; exact ⟨σ1, H1, J1.ofTry ok, q⟩
      | cont => obtain ⟨σ1, H1, J1, q⟩ := hsp; exact ⟨σ1, H1, J1.ofTry ok, q⟩
      | ret u => obtain ⟨v, σ1, H1, J1, r, q⟩ := hsp; exact ⟨v, σ1, H1, J1.ofTry ok, r, q⟩) (fun e s1 he => he)
  rintro u s' ⟨a, B, sI, pins', σ', H', cls, d, rfl, J', nb, up, sky, na, os, ag, hexm, hyes⟩
  have J : Inv X pins σ' H' sI := J'.ofTry ok
  have skyE : Sky B (X.env :: X.outer) a (Zc cls d) X.env.locals s'.heap := by
    have q := sky
    rw [show (X.tr (X.pn ++ pins) (tryXe X pins D [.ExceptHandler (some (.Name x np)) (some n) (b₀ :: suite) pos'])).stack = X.env :: X.outer from hs] at q
    exact q
  refine Sky.land Zc.steady fr2 hf skyE fun h3 fl3 up3 => ?_
  have J3 : Inv X pins σ' H' { s' with heap := h3 } := J.landed nb fl3.1 (up.trans up3) os ag
  obtain ⟨o3, v3, g3, z3, d3⟩ := fl3.there
  have nfr : a ∉ frs (X.env :: X.outer) := fun hm => by
    obtain ⟨_, o', e', hnf⟩ := fl3.2.2.1.mem hm
    rw [g3] at e'
    cases e'
    exact hnf _ d3
  have nL : a ≠ X.env.locals := fun q => nfr (List.mem_filterMap.mpr ⟨X.env, List.mem_cons_self, by rw [hf, q]⟩)
  have nF : a ∉ X.fs := fun hm => by
    obtain ⟨e, he, q⟩ := List.mem_filterMap.mp hm
    exact nfr (List.mem_filterMap.mpr ⟨e, List.mem_cons_of_mem _ he, q⟩)
  have notI : sI.heap.get? a = none := by
    cases e : sI.heap.get? a with
    | none => rfl
    | some o =>
      have q := nb a o e (by show a ∉ frs X.stack; rw [hs]; exact nfr)
      rw [fl3.2.1] at q
      cases q
  have new : X.s_0.heap.get? a = none := by
    cases e : X.s_0.heap.get? a with
    | none => rfl
    | some o =>
      obtain ⟨o', q⟩ := J.base.there a o e (by rw [hx]; simp)
      rw [notI] at q
      cases q
  have hpn : ∀ p ∈ X.pn ++ pins, p.1 ≠ a := fun p hp q => by
    have e := (J.pin p hp).1
    rw [q, notI] at e
    cases e
  have S3 := J3.suite g3 d3 na nL nF
  refine wpAny_handleBy_cons (codeAny_handlers_test ?_) (by intro q; cases q)
  have LM := PySem.W.exm_one (M := model X.prog X.w) J3.kIn (fun A Q E s k q => wpAny_typeOf_ref (k _ _ g3) (by rw [z3.1]; exact q)) hexm
  have look : ∀ {Q : Value → Shared → Prop} {E : Value → Shared → Prop}, Q c { s' with heap := h3 } → wpAny (model X.prog X.w) (X.A.mark (some (.ref a))) (eval (.Name x np) X.env) Q E { s' with heap := h3 } := fun {Q E} q => by
    rcases hc with ⟨hg, hdb, hm | ⟨hm, hv, hnn⟩⟩
    · exact ld_glob S3 hg hm q hdb
    · exact ld_blt S3 hg hm hv q hnn hdb
  refine look (LM.here ?_)
  refine codeAny_handlers_suite_as (HandSPX.lands_againZ fl3 fun h4 fl4 up4 => ?_)
  have J4 : Inv X pins σ' H' { s' with heap := h4 } := J.landed nb fl4.1 ((up.trans up3).trans up4) os ag
  obtain ⟨o4, v4, g4, z4, d4⟩ := fl4.there
  have S4 := J4.suite g4 d4 na nL nF
  refine store_ok (X := X.suite a ((a, o4) :: (X.pn ++ pins))) (v := .ref a) S4 hN hi (.inl hln) rfl (fun s5 S5 => ?_) (.inr hln)
  refine wpAny_mono ((hsu a o4 cls d (X.pn ++ pins) z4 ⟨_, d4⟩).run [] s5 _ H' _ S5 (hyes J.len a na)) (fun f s6 hsp => ?_) (fun _ _ z => z.elim)
  cases f with
  | next =>
    obtain ⟨σ6, H6, S6, q6⟩ := hsp
    have J6 : Inv X ((a, o4) :: pins) σ6 H6 s6 := ⟨ok, S6.os, S6.bare, S6.base, S6.loc, S6.cell, S6.free, S6.freeC, fun p hp => S6.pin p (by
      rw [List.append_nil]
      rcases List.mem_append.mp hp with q | q
      · exact List.mem_cons_of_mem _ (List.mem_append_left _ q)
      · rcases List.mem_cons.mp q with q | q
        · rw [q]; exact List.mem_cons_self
        · exact List.mem_cons_of_mem _ (List.mem_append_right _ q)), S6.hok, S6.len⟩
    exact gone_ok J6 hN hi hln fun s7 J7 => ⟨_, _, inv_track J7 new z4 d4 hpn, q6⟩
  | brk => obtain ⟨_, _, _, q6⟩ := hsp; exact q6.elim
  | cont => obtain ⟨_, _, _, q6⟩ := hsp; exact q6.elim
  | ret u => obtain ⟨_, _, _, _, _, q6⟩ := hsp; exact q6.elim
/-- isinstance(e, c) of an exception that is kept -/
def rIsX (K : PySem.W.Frag) : List V → Hp → VK → Prop := fun xs H Q => ∃ (a C : Addr) (c : V) (cv : Value) (b : Bool), xs = [.ref a, c] ∧ H a = some (ExcO (.ref C) none a) ∧ ExcC K C ∧ (∀ u, RelV c u → u = cv) ∧ PySem.W.kitOne K (.ref C) cv = some b ∧ Q (.bl b) H
theorem call_isX {X : Cx} : CallR X (.builtin "isinstance") (rIsX X.K) := by
  rintro pins s σ H xs us Q I r ⟨a, C, c, cv, b, rfl, ha, hC, hcv, e, q⟩
  obtain ⟨⟨oe, vs, g, z, hd⟩, _⟩ := I.hok a _ ha
  cases r with
  | cons r1 r2 =>
    cases r2 with
    | cons r2 r3 =>
      cases r3
      cases r1
      cases hcv _ r2
      have J : PySem.W.InstAt s.heap a oe C none := by
        cases oe with
        | mk o1 o2 o3 o4 =>
          have z1 : o1 = .ref C := z.1
          have z2 : o2 = none := z.2
          have z3 : o3 = .fields vs := hd
          subst z1 z2 z3
          exact ⟨g, rfl, rfl, trivial⟩
      exact PySem.W.kia_one (PySem.W.handS_kitx_exc hC.hg hC.hk hC.hs hC.hd hC.ha hC.hn hC.ht hC.hm) I.kIn J e (fun z => nomatch z) fun tk => ⟨.bl b, H, I.kept (t' := tk) fun _ _ z => z, rfl, q⟩
/-- d.update(e), both dicts of plain keys -/
def tDUpd (td te : TE) : TE := fun σ H Q => td σ H fun x H1 => ∃ a, x = .ref a ∧ IsD H1 a ∧ te σ H1 fun y H2 => ∃ (b : Addr) (kvs more : List (Key × V)), y = .ref b ∧ a ≠ b ∧ H2 a = some (.dK kvs) ∧ H2 b = some (.dK more) ∧ kvs.length + more.length ≤ sizeLine ∧ Q .non (upd H2 a (.dK (mergeK kvs more)))
theorem pe_dupd {X : Cx} {o e : Expr} {apos cpos : Pos} {td ty : TE} (ho : PE X o td) (he : PE X e ty) (m : M1 X o "update" apos e cpos) : PE X (.Call (.Attribute o "update" apos) [e] [] cpos) (tDUpd td ty) := by
  constructor
  intro pins s σ H Q I h
  refine wpAny_Call_method m.base m.few m.line PySem.F.plainAttrs_dict PySem.F.slot_dict_update PySem.F.type_dict_update (thn (ho.run pins s σ H _ I h) fun u s1 hh => ?_)
  obtain ⟨x, H1, I1, rx, a, rfl, d, q1⟩ := hh
  cases (show u = Value.ref a from rx)
  refine ⟨(isD_at I1 d).1, (isD_at I1 d).2.1, ?_⟩
  rw [m.trees]
  refine Calls.callWith_builtin rfl (Calls.evalArgs_plain (Calls.spliced_cons (thn (he.run pins s1 σ H1 _ I1 q1) fun v s2 hh => Calls.spliced_nil ?_)))
  obtain ⟨y, H2, I2, ry, b, kvs, more, rfl, ne, ea, eb, hl, q2⟩ := hh
  cases (show v = Value.ref b from ry)
  obtain ⟨za, ha, vs, ra, da⟩ := dk_of I2.hok ea
  obtain ⟨zb, hb, ws, rb, db⟩ := dk_of I2.hok eb
  have lv : vs.length = kvs.length := (Paired.length ra).symm
  have lw : ws.length = more.length := (Paired.length rb).symm
  refine call_meetsIn PySem.F.slot_dict_update da.typeIs PySem.F.entry_dict_update (PySem.F.args_dict_update_2 _ _) (meets_dict_update (mixKind X.prog X.w) a b ne hb) ⟨vs, ws, da, db, by omega, fun h' d' _ same => ?_⟩
  have he' : ∃ q, h'.get? a = some q := by obtain ⟨q, _, _, hq, _⟩ := d'; exact ⟨q, hq⟩
  have hz : (mergeK kvs more).length ≤ sizeLine := by have := length_mergeK more kvs; omega
  exact ⟨.non, _, d_write I2 (by rw [ea]; exact True.intro) same he' (dk_new hz ha (rb.merge ra) d'), rfl, q2⟩
end Q
namespace Q
open PySem PySem.Spec PyProof.Rows L2 LamX
/-! ### the law's _law_result -/
def clsN : List Str := ["CastError", "InvalidTask", "InvalidMessages", "InvalidCode", "InvalidKnown", "InvalidReceiver", "InvalidDivision", "InvalidNumber", "InvalidSum", "InvalidText", "TooMany", "NothingToUndo"]
def resN : List Str := ["", "task", "messages", "code", "known", "receiver", "division", "number", "sum", "text", "many", "undo"]
/-- what is known of the classes -/
structure Errs (K : PySem.W.Frag) (Cl : Nat → Addr) : Prop where
  exm : ∀ c, 1 ≤ c → c ≤ 11 → PySem.W.exmOne K (.ref (Cl c)) (.ref (Cl 0)) = some true
  exc : ∀ c, 1 ≤ c → c ≤ 11 → ExcC K (Cl c)
  kit : ∀ c i, 1 ≤ c → c ≤ 11 → 1 ≤ i → i ≤ 11 → PySem.W.kitOne K (.ref (Cl c)) (.ref (Cl i)) = some (decide (i = c))
  ve : ∀ c, 1 ≤ c → c ≤ 11 → PySem.W.kitOne K (.ref (Cl c)) (.type "ValueError") = some true
def nmOf (Cl : Nat → Addr) (v : Value) (z : Str) : Prop := ∃ c, 1 ≤ c ∧ c ≤ 11 ∧ v = .ref (Cl c) ∧ resN[c]? = some z
abbrev isT (K : PySem.W.Frag) (Cl : Nat → Addr) (i : Nat) : TE := tCB (rIsX K) (tCons (tVar 1) (tCons (tC (V.ref (Cl i))) tNil))
section
variable {K : PySem.W.Frag} {Cl : Nat → Addr} {c : Nat} {a p1 : Addr} {H0 H : Hp} {σ : L2.St} {D : Ends}
abbrev Sub2 (H H' : Hp) : Prop := ∀ b o, H b = some o → H' b = some o
theorem isT_run {i : Nat} {Q : VK} (E : Errs K Cl) (c1 : 1 ≤ c) (c2 : c ≤ 11) (i1 : 1 ≤ i) (i2 : i ≤ 11) (s1 : σ[1]? = some (some (.ref a))) (ha : H a = some (ExcO (.ref (Cl c)) none a)) (q : Q (.bl (decide (i = c))) H) : isT K Cl i σ H Q :=
  ⟨_, s1, a, Cl c, .ref (Cl i), .ref (Cl i), _, rfl, ha, E.exc c c1 c2, fun u r => r, E.kit c i c1 c2 i1 i2, q⟩
theorem disp2 {i j : Nat} {z y : Str} {Q : VK} (E : Errs K Cl) (c1 : 1 ≤ c) (c2 : c ≤ 11) (i1 : 1 ≤ i) (i2 : i ≤ 11) (j1 : 1 ≤ j) (j2 : j ≤ 11) (s1 : σ[1]? = some (some (.ref a))) (ha : H a = some (ExcO (.ref (Cl c)) none a)) (zy : z ≠ y)
    (q : ∀ p, H p = none → Q (.ref p) (upd H p (.dK [(Sum.inr z, .bl (decide (i = c))), (Sum.inr y, .bl (decide (j = c)))]))) : tDisp [(tC (.str z), isT K Cl i), (tC (.str y), isT K Cl j)] σ H Q := by
  intro p np
  have pa : a ≠ p := fun e => by rw [e, np] at ha; cases ha
  have ha' : upd H p (.dK []) a = some (ExcO (.ref (Cl c)) none a) := by rw [upd_ne pa]; exact ha
  refine isT_run E c1 c2 i1 i2 s1 ha' ?_
  refine isT_run E c1 c2 j1 j2 s1 ha' ?_
  refine ⟨upd_same, [(Sum.inr z, .bl (decide (i = c))), (Sum.inr y, .bl (decide (j = c)))], rfl, Nat.le_of_ble_eq_true rfl, ?_⟩
  rw [upd_upd]
  have : mergeK [] [((Sum.inr z : Key), V.bl (decide (i = c))), (Sum.inr y, V.bl (decide (j = c)))] = [(Sum.inr z, .bl (decide (i = c))), (Sum.inr y, .bl (decide (j = c)))] := by
    have ne : ¬ ((Sum.inr z : Key) = Sum.inr y) := fun e => zy (Sum.inr.inj e)
    simp [mergeK, putK, ne]
  rw [this]
  exact q p np
theorem disp1 {i : Nat} {z : Str} {Q : VK} (E : Errs K Cl) (c1 : 1 ≤ c) (c2 : c ≤ 11) (i1 : 1 ≤ i) (i2 : i ≤ 11) (s1 : σ[1]? = some (some (.ref a))) (ha : H a = some (ExcO (.ref (Cl c)) none a))
    (q : ∀ p, H p = none → Q (.ref p) (upd H p (.dK [(Sum.inr z, .bl (decide (i = c)))]))) : tDisp [(tC (.str z), isT K Cl i)] σ H Q := by
  intro p np
  have pa : a ≠ p := fun e => by rw [e, np] at ha; cases ha
  have ha' : upd H p (.dK []) a = some (ExcO (.ref (Cl c)) none a) := by rw [upd_ne pa]; exact ha
  refine isT_run E c1 c2 i1 i2 s1 ha' ?_
  refine ⟨upd_same, [(Sum.inr z, .bl (decide (i = c)))], rfl, Nat.le_of_ble_eq_true rfl, ?_⟩
  rw [upd_upd]
  exact q p np
/-! the names whose flag is set -/
abbrev flK (kvs : List (Str × Bool)) : List (Key × V) := kvs.map fun p => (Sum.inr p.1, .bl p.2)
theorem flK_none : ∀ {kvs : List (Str × Bool)} {z : Str}, z ∉ kvs.map (·.1) → valV (flK kvs) (Sum.inr z : Key) = none
  | [], _, _ => rfl
  | (y, e) :: r, z, h => by
    have ne : ¬ ((Sum.inr y : Key) = Sum.inr z) := fun q => h (by rw [Sum.inr.inj q]; exact List.mem_cons_self)
    have ih := flK_none (kvs := r) (z := z) fun q => h (List.mem_cons_of_mem _ q)
    simp [valV, ne] at ih ⊢
    exact ih
theorem flK_merge : ∀ {more kvs : List (Str × Bool)}, ((kvs ++ more).map (·.1)).Nodup → mergeK (flK kvs) (flK more) = flK (kvs ++ more)
  | [], kvs, _ => by simp [mergeK]
  | (z, b) :: r, kvs, nd => by
    have hz : z ∉ kvs.map (·.1) := fun q => by
      rw [List.map_append, List.nodup_append] at nd
      exact nd.2.2 z q z List.mem_cons_self rfl
    have ih := flK_merge (more := r) (kvs := kvs ++ [(z, b)]) (by simpa using nd)
    have e : putK (flK kvs) (Sum.inr z) (.bl b) = flK (kvs ++ [(z, b)]) := by rw [putK_new _ (flK_none hz)]; simp [flK]
    show mergeK (putK (flK kvs) (Sum.inr z) (.bl b)) (flK r) = _
    rw [e, ih]
    simp
/-- some.update({..}): two names -/
theorem dupd2 {i j : Nat} {z y : Str} {kvs : List (Str × Bool)} (E : Errs K Cl) (c1 : 1 ≤ c) (c2 : c ≤ 11) (i1 : 1 ≤ i) (i2 : i ≤ 11) (j1 : 1 ≤ j) (j2 : j ≤ 11) (s1 : σ[1]? = some (some (.ref a))) (s4 : σ[4]? = some (some (.ref p1))) (ha0 : H0 a = some (ExcO (.ref (Cl c)) none a)) (hs : Sub2 H0 H) (n1 : H0 p1 = none) (h1 : H p1 = some (.dK (flK kvs))) (hl : kvs.length ≤ 100) (hn : ((kvs ++ [(z, decide (i = c)), (y, decide (j = c))]).map (·.1)).Nodup)
    (q : ∀ H', Sub2 H0 H' → H' p1 = some (.dK (flK (kvs ++ [(z, decide (i = c)), (y, decide (j = c))]))) → D.nx σ H') : tDrop (tDUpd (tVar 4) (tDisp [(tC (.str z), isT K Cl i), (tC (.str y), isT K Cl j)])) D σ H := by
  have zy : z ≠ y := fun q => by
    rw [List.map_append, List.nodup_append] at hn
    have := hn.2.1
    simp [q] at this
  refine ⟨_, s4, p1, rfl, .inl ⟨flK kvs, .inl h1⟩, disp2 E c1 c2 i1 i2 j1 j2 s1 (hs _ _ ha0) zy fun p np => ?_⟩
  have ne : p1 ≠ p := fun e => by rw [e, np] at h1; cases h1
  refine ⟨p, flK kvs, _, rfl, ne, by rw [upd_ne ne]; exact h1, upd_same, by rw [sizeLine_eq]; simp; omega, q _ (fun b o e => ?_) ?_⟩
  · have b1 : b ≠ p1 := fun z => by rw [z, n1] at e; cases e
    have b2 : b ≠ p := fun z => by rw [z] at e; rw [hs _ _ e] at np; cases np
    rw [upd_ne b1, upd_ne b2]
    exact hs _ _ e
  · rw [upd_same, ← flK_merge hn]; rfl
theorem dupd1 {i : Nat} {z : Str} {kvs : List (Str × Bool)} (E : Errs K Cl) (c1 : 1 ≤ c) (c2 : c ≤ 11) (i1 : 1 ≤ i) (i2 : i ≤ 11) (s1 : σ[1]? = some (some (.ref a))) (s4 : σ[4]? = some (some (.ref p1))) (ha0 : H0 a = some (ExcO (.ref (Cl c)) none a)) (hs : Sub2 H0 H) (n1 : H0 p1 = none) (h1 : H p1 = some (.dK (flK kvs))) (hl : kvs.length ≤ 100) (hn : ((kvs ++ [(z, decide (i = c))]).map (·.1)).Nodup)
    (q : ∀ H', Sub2 H0 H' → H' p1 = some (.dK (flK (kvs ++ [(z, decide (i = c))]))) → D.nx σ H') : tDrop (tDUpd (tVar 4) (tDisp [(tC (.str z), isT K Cl i)])) D σ H := by
  refine ⟨_, s4, p1, rfl, .inl ⟨flK kvs, .inl h1⟩, disp1 E c1 c2 i1 i2 s1 (hs _ _ ha0) fun p np => ?_⟩
  have ne : p1 ≠ p := fun e => by rw [e, np] at h1; cases h1
  refine ⟨p, flK kvs, _, rfl, ne, by rw [upd_ne ne]; exact h1, upd_same, by rw [sizeLine_eq]; simp; omega, q _ (fun b o e => ?_) ?_⟩
  · have b1 : b ≠ p1 := fun z => by rw [z, n1] at e; cases e
    have b2 : b ≠ p := fun z => by rw [z] at e; rw [hs _ _ e] at np; cases np
    rw [upd_ne b1, upd_ne b2]
    exact hs _ _ e
  · rw [upd_same, ← flK_merge hn]; rfl
theorem flK_val : ∀ {kvs : List (Str × Bool)} {i : Nat} {z : Str} {b : Bool}, (kvs.map (·.1)).Nodup → kvs[i]? = some (z, b) → valV (flK kvs) (Sum.inr z : Key) = some (.bl b)
  | [], i, z, b, _, h => by simp at h
  | (y, e) :: r, 0, z, b, _, h => by
    simp at h
    obtain ⟨rfl, rfl⟩ := h
    simp [valV]
  | (y, e) :: r, i + 1, z, b, nd, h => by
    have h' : r[i]? = some (z, b) := by simpa using h
    have nd' := List.nodup_cons.mp nd
    have ne : y ≠ z := fun q => nd'.1 (by rw [q]; exact List.mem_map.mpr ⟨(z, b), List.mem_of_getElem? h', rfl⟩)
    have ih := flK_val nd'.2 h'
    have n2 : ¬ ((Sum.inr y : Key) = Sum.inr z) := fun q => ne (Sum.inr.inj q)
    simp [valV, n2] at ih ⊢
    exact ih
abbrev tFlag (K : PySem.W.Frag) : TT := fun σ H Q => tDGet (tVar 4) (tVar 6) σ H fun x H' => ∃ k, TruV K x H' k ∧ Q k H'
theorem names_run {K : PySem.W.Frag} {p1 : Addr} {kvs : List (Str × Bool)} {H : Hp} {s0 s1 s2 s3 s5 s6 : Option V} {D : Ends} (nd : (kvs.map (·.1)).Nodup) (hl : kvs.length ≤ 100) (h1 : H p1 = some (.dK (flK kvs)))
    (q : ∀ d, H d = none → D.nx [s0, s1, s2, s3, some (.ref p1), some (.ref d), s6] (upd H d (.lst ((kvs.filter (·.2)).map fun p => .str p.1)))) :
    tLock (tAsg (tLc (iKeys (tVar 4)) (gName 6) (tFlag K) (tVar 6) [6]) (gName 5)) D [s0, s1, s2, s3, some (.ref p1), s5, s6] H := by
  refine ⟨p1, .dK (flK kvs), h1, True.intro, fun od => ?_⟩
  refine ⟨_, rfl, p1, od, rfl, .inl ⟨flK kvs, upd_same, fun d nd1 => ?_⟩⟩
  have dp : d ≠ p1 := fun e => by rw [e, upd_same] at nd1; cases nd1
  have Hd : H d = none := by rwa [upd_ne dp] at nd1
  refine ⟨fun i m H' => m = kvs.length - i ∧ i ≤ kvs.length ∧ H' = upd (upd H p1 (.frz od (.dK (flK kvs)))) d (.lst (((kvs.take i).filter (·.2)).map fun p => .str p.1)), ⟨_, rfl, Nat.zero_le _, rfl⟩, fun i m H' hW => ?_⟩
  obtain ⟨rfl, hi, rfl⟩ := hW
  have hp : ∀ o, upd (upd H p1 (.frz od (.dK (flK kvs)))) d o p1 = some (.frz od (.dK (flK kvs))) := fun o => by rw [upd_ne (Ne.symm dp), upd_same]
  have len : (flK kvs).length = kvs.length := List.length_map _
  by_cases hlt : i < kvs.length
  · refine .inr ⟨⟨hp _, by rw [len]; exact hlt⟩, fun H2 => H2 = upd (upd H p1 (.frz od (.dK (flK kvs)))) d (.lst (((kvs.take (i + 1)).filter (·.2)).map fun p => .str p.1)), fun H2 e => ⟨kvs.length - (i + 1), by omega, rfl, hlt, e⟩, ?_⟩
    rintro x H2 ⟨rfl, k, v, ek, rfl⟩
    obtain ⟨⟨z, b⟩, ez⟩ : ∃ p, kvs[i]? = some p := ⟨kvs[i], List.getElem?_eq_getElem hlt⟩
    have e2 : (flK kvs)[i]? = some (Sum.inr z, .bl b) := by rw [List.getElem?_map, ez]; rfl
    rw [e2] at ek
    cases ek
    refine ⟨rfl, _, rfl, _, rfl, p1, _, rfl, .inl ⟨flK kvs, Sum.inr z, .inr ⟨od, hp _⟩, rfl, (flK_val nd ez).symm⟩, b, rfl, ?_⟩
    have tk : kvs.take (i + 1) = kvs.take i ++ [(z, b)] := by rw [List.take_succ, ez]; rfl
    cases b with
    | true =>
      refine iteT ⟨_, rfl, _, upd_same, ?_, ?_⟩
      · rw [List.length_map]
        have := List.length_filter_le (fun p : Str × Bool => p.2) (kvs.take i)
        rw [List.length_take] at this
        rw [sizeLine_eq]
        omega
      · show upd _ _ _ = _
        rw [upd_upd, tk, List.filter_append, List.map_append]
        rfl
    | false =>
      refine iteF ?_
      show upd _ _ _ = _
      rw [tk, List.filter_append, List.map_append]
      simp
  · have e : i = kvs.length := by omega
    subst e
    refine .inl ⟨⟨hp _, by rw [len]; exact Nat.le_refl _⟩, ?_⟩
    refine ⟨hp _, ?_⟩
    rw [List.take_length]
    have fin : upd (upd (upd H p1 (.frz od (.dK (flK kvs)))) d (.lst ((kvs.filter (·.2)).map fun p => .str p.1))) p1 (.dK (flK kvs)) = upd H d (.lst ((kvs.filter (·.2)).map fun p => .str p.1)) := by
      funext b
      by_cases z1 : b = p1
      · rw [z1, upd_same, upd_ne (Ne.symm dp)]; exact h1.symm
      · rw [upd_ne z1]
        by_cases z2 : b = d
        · rw [z2, upd_same, upd_same]
        · rw [upd_ne z2, upd_ne z1, upd_ne z2]
    rw [fin]
    exact q d Hd
/-! the def's tail, behind the try -/
abbrev dsp2 (K : PySem.W.Frag) (Cl : Nat → Addr) (z y : Str) (i j : Nat) : TE := tDisp [(tC (.str z), isT K Cl i), (tC (.str y), isT K Cl j)]
abbrev tRes2 (K : PySem.W.Frag) : TS := tRet (tIf (tAnd (tTest (tOp rEq (tCB (fun xs H Q => ∃ p ys, xs = [V.ref p] ∧ (SqL K H p ys ∨ SqT K H p ys) ∧ Q (V.int ys.length) H) (tCons (tVar 5) tNil)) (tC (V.int 1))))
    fun σ H Q => tCB (rIsX K) (tCons (tVar 1) (tCons (tC (V.ty "ValueError")) tNil)) σ H fun x H' => ∃ k, TruV K x H' k ∧ Q k H')
  (tTup (tCons (tOp (rIxL K) (tVar 5) (tC (V.int 0))) tNil)) (tTup (tCons (tC (V.str "other error")) tNil)))
def tTail (K : PySem.W.Frag) (Cl : Nat → Addr) : TS :=
  tSeq (tIfS (tTest (tOp (fun x y H Q => y = V.non ∧ Q (V.bl (decide (x = V.non))) H) (tVar 1) (tC V.non))) (tRet (tTup (tCons (tC (V.str "returns")) (tCons (tVar 2) tNil)))) tNext)
  (tSeq (tAsg (dsp2 K Cl "task" "messages" 1 2) (gName 4))
  (tSeq (tDrop (tDUpd (tVar 4) (dsp2 K Cl "code" "known" 3 4)))
  (tSeq (tDrop (tDUpd (tVar 4) (dsp2 K Cl "receiver" "division" 5 6)))
  (tSeq (tDrop (tDUpd (tVar 4) (dsp2 K Cl "number" "sum" 7 8)))
  (tSeq (tDrop (tDUpd (tVar 4) (dsp2 K Cl "text" "many" 9 10)))
  (tSeq (tDrop (tDUpd (tVar 4) (tDisp [(tC (.str "undo"), isT K Cl 11)])))
  (tSeq (tLock (tAsg (tLc (iKeys (tVar 4)) (gName 6) (tFlag K) (tVar 6) [6]) (gName 5))) (tRes2 K))))))))
theorem tail_ret {K : PySem.W.Frag} {Cl : Nat → Addr} {s0 s3 s4 s5 s6 : Option V} {v : V} {H : Hp} {D : Ends} (q : ∀ p, H p = none → D.rt (.ref p) (upd H p (.tup [.str "returns", v]))) : tTail K Cl D [s0, some .non, some v, s3, s4, s5, s6] H := by
  refine ⟨_, rfl, rfl, _, rfl, iteT ?_⟩
  exact ⟨_, rfl, Nat.le_of_ble_eq_true rfl, q⟩
def flagL (c : Nat) : List (Str × Bool) := [("task", decide (1 = c)), ("messages", decide (2 = c)), ("code", decide (3 = c)), ("known", decide (4 = c)), ("receiver", decide (5 = c)), ("division", decide (6 = c)), ("number", decide (7 = c)), ("sum", decide (8 = c)), ("text", decide (9 = c)), ("many", decide (10 = c)), ("undo", decide (11 = c))]
theorem flagL_names {c : Nat} (c1 : 1 ≤ c) (c2 : c ≤ 11) {z : Str} (hz : resN[c]? = some z) : ((flagL c).filter (·.2)).map (fun p => V.str p.1) = [.str z] := by
  have : c = 1 ∨ c = 2 ∨ c = 3 ∨ c = 4 ∨ c = 5 ∨ c = 6 ∨ c = 7 ∨ c = 8 ∨ c = 9 ∨ c = 10 ∨ c = 11 := by omega
  rcases this with rfl | rfl | rfl | rfl | rfl | rfl | rfl | rfl | rfl | rfl | rfl <;> (cases hz; rfl)
theorem fl4 : (["task", "messages", "code", "known"] : List Str).Nodup := by decide +kernel
theorem fl6 : (["task", "messages", "code", "known", "receiver", "division"] : List Str).Nodup := by decide +kernel
theorem fl8 : (["task", "messages", "code", "known", "receiver", "division", "number", "sum"] : List Str).Nodup := by decide +kernel
theorem fl10 : (["task", "messages", "code", "known", "receiver", "division", "number", "sum", "text", "many"] : List Str).Nodup := by decide +kernel
theorem fl11 : (["task", "messages", "code", "known", "receiver", "division", "number", "sum", "text", "many", "undo"] : List Str).Nodup := by decide +kernel
theorem tail_exc {K : PySem.W.Frag} {Cl : Nat → Addr} {c : Nat} {a : Addr} {s0 s2 s3 s4 s5 s6 : Option V} {z : Str} {H0 : Hp} {D : Ends} (E : Errs K Cl) (c1 : 1 ≤ c) (c2 : c ≤ 11) (hz : resN[c]? = some z) (ha : H0 a = some (ExcO (.ref (Cl c)) none a))
    (q : ∀ H'' p, Sub2 H0 H'' → H0 p = none → H'' p = some (.tup [.str z]) → D.rt (.ref p) H'') : tTail K Cl D [s0, some (.ref a), s2, s3, s4, s5, s6] H0 := by
  refine ⟨_, rfl, rfl, _, rfl, iteF ?_⟩
  show tAsg (dsp2 K Cl "task" "messages" 1 2) (gName 4) { D with nx := _ } [s0, some (.ref a), s2, s3, s4, s5, s6] H0
  unfold tAsg
  refine disp2 (σ := [s0, some (.ref a), s2, s3, s4, s5, s6]) (z := "task") (y := "messages") (i := 1) (j := 2) E c1 c2 (by decide) (by decide) (by decide) (by decide) rfl ha (by decide) fun p1 n1 => ?_
  have sub1 : Sub2 H0 (upd H0 p1 (.dK [(Sum.inr ("task" : Str), .bl (decide (1 = c))), (Sum.inr ("messages" : Str), .bl (decide (2 = c)))])) := fun b o e => by rw [upd_ne (fun q => by rw [q, n1] at e; cases e)]; exact e
  unfold tSeq
  refine dupd2 (σ := [s0, some (.ref a), s2, s3, some (.ref p1), s5, s6]) (z := "code") (y := "known") (i := 3) (j := 4) E c1 c2 (by decide) (by decide) (by decide) (by decide) rfl rfl (kvs := [("task", decide (1 = c)), ("messages", decide (2 = c))]) ha sub1 n1 upd_same (Nat.le_of_ble_eq_true rfl) (by exact fl4) fun H2 sub2 e2 => ?_
  dsimp only
  refine dupd2 (σ := [s0, some (.ref a), s2, s3, some (.ref p1), s5, s6]) (z := "receiver") (y := "division") (i := 5) (j := 6) E c1 c2 (by decide) (by decide) (by decide) (by decide) rfl rfl ha sub2 n1 e2 (Nat.le_of_ble_eq_true rfl) (by exact fl6) fun H3 sub3 e3 => ?_
  dsimp only
  refine dupd2 (σ := [s0, some (.ref a), s2, s3, some (.ref p1), s5, s6]) (z := "number") (y := "sum") (i := 7) (j := 8) E c1 c2 (by decide) (by decide) (by decide) (by decide) rfl rfl ha sub3 n1 e3 (Nat.le_of_ble_eq_true rfl) (by exact fl8) fun H4 sub4 e4 => ?_
  dsimp only
  refine dupd2 (σ := [s0, some (.ref a), s2, s3, some (.ref p1), s5, s6]) (z := "text") (y := "many") (i := 9) (j := 10) E c1 c2 (by decide) (by decide) (by decide) (by decide) rfl rfl ha sub4 n1 e4 (Nat.le_of_ble_eq_true rfl) (by exact fl10) fun H5 sub5 e5 => ?_
  dsimp only
  refine dupd1 (σ := [s0, some (.ref a), s2, s3, some (.ref p1), s5, s6]) (z := "undo") (i := 11) E c1 c2 (by decide) (by decide) rfl rfl ha sub5 n1 e5 (Nat.le_of_ble_eq_true rfl) (by exact fl11) fun H6 sub6 e6 => ?_
  have e7 : H6 p1 = some (.dK (flK (flagL c))) := e6
  dsimp only
  refine names_run (by exact fl11) (Nat.le_of_ble_eq_true rfl) e7 fun d nd => ?_
  rw [flagL_names c1 c2 hz]
  have H0d : H0 d = none := by
    cases e : H0 d with
    | none => rfl
    | some o => rw [sub6 _ _ e] at nd; cases nd
  have sub7 : Sub2 H0 (upd H6 d (.lst [.str z])) := fun b o e => by rw [upd_ne (fun q => by rw [q, H0d] at e; cases e)]; exact sub6 _ _ e
  refine ⟨_, rfl, d, [.str z], rfl, .inl (.inl (.inl upd_same)), rfl, true, rfl, iteT ?_⟩
  refine ⟨_, rfl, a, Cl c, .ty "ValueError", .type "ValueError", true, rfl, sub7 _ _ ha, E.exc c c1 c2, fun u r => r, E.ve c c1 c2, true, rfl, iteT ?_⟩
  refine ⟨_, rfl, d, [.str z], 0, .str z, rfl, rfl, .inl (.inl upd_same), rfl, Nat.le_of_ble_eq_true rfl, fun p np => ?_⟩
  have H0p : H0 p = none := by
    cases e : H0 p with
    | none => rfl
    | some o => rw [sub7 _ _ e] at np; cases np
  refine q _ p (fun b o e => ?_) H0p upd_same
  rw [upd_ne (fun q => by rw [q, H0p] at e; cases e)]
  exact sub7 _ _ e
/-- the whole def -/
theorem res_read {K : PySem.W.Frag} {Cl : Nat → Addr} {f c' : Addr} {q : Str} {H : Hp} {Q : VK} {tl : XK → Hp → VK → Prop} (E : Errs K Cl) (hc : H c' = some (CodeO c' q)) (h : TTres (nmOf Cl) tl H Q) {D : Ends} (hD : D.rt = Q) :
    tSeq (tAsg (tTup (tCons (tC V.non) (tCons (tC V.non) tNil))) (gTup K 2 (gCons (gName 1) (gCons (gName 2) gNil))))
      (tSeq (fun D σ H => ∃ Ech : XK, (∀ cls d σ' H', Ech cls d H' → wKeep K (.ref (Cl 0)) 7 3 (fun _ => tAsg (tVar 3) (gName 1)) D cls d σ' H') ∧ σ[0]? = some (some (.ref f)) ∧ H c' = some (CodeO c' q) ∧ tl Ech H fun v H' => D.nx (σ.set 2 (some v)) H')
        (tTail K Cl)) D [some (.ref f), none, none, none, none, none, none] H := by
  refine ⟨Nat.le_of_ble_eq_true rfl, fun p0 np0 => ?_⟩
  refine ⟨p0, [.non, .non], rfl, .inl (.inl upd_same), rfl, _, _, rfl, _, _, rfl, rfl, ?_⟩
  refine ⟨fun cls d H' => ∀ σ', wKeep K (.ref (Cl 0)) 7 3 (fun _ => tAsg (tVar 3) (gName 1)) { D with nx := tTail K Cl D } cls d σ' H', fun cls d σ' H' e => e σ', rfl, ?_, ?_⟩
  · rw [upd_ne (fun e => by rw [e, np0] at hc; cases hc)]
    exact hc
  · refine h p0 _ _ np0 (fun v H' e => tail_ret fun p np => by rw [hD]; exact e p np) fun cls H' z hz e σ' => ?_
    obtain ⟨c, c1, c2, rfl, hz⟩ := hz
    refine ⟨E.exm c c1 c2, fun hl a na => ?_⟩
    match σ', hl with
    | [s0, s1, s2, s3, s4, s5, s6], _ =>
      refine ⟨_, rfl, ?_⟩
      have sb : Sub2 H' (upd H' a (ExcO (.ref (Cl c)) none a)) := fun b o q => by rw [upd_ne (fun z => by rw [z, na] at q; cases q)]; exact q
      refine tail_exc (c := c) (a := a) (H0 := upd H' a (ExcO (.ref (Cl c)) none a)) E c1 c2 hz upd_same fun H'' p s2 n2 e2 => ?_
      rw [hD]
      refine e H'' p (fun b o q => s2 _ _ (sb _ _ q)) ?_ e2
      cases k : H' p with
      | none => rfl
      | some o => rw [sb _ _ k] at n2; cases n2
end
end Q
namespace Q
open PySem PySem.Spec PyProof.Rows L2
/-! ### a law with lambdas: its start -/
def restr2 (H : Hp) (a P : Addr) : Hp := fun b => if b = a ∨ b = P then H b else none
theorem restr2_w {K : PySem.W.Frag} {H : Hp} {sa P : Addr} {ns : List Int} (ht : H P = some (.tbl #[])) (h : SqL K H sa (ns.map V.int)) : Hw (Wd K sa ns (some P)) none (fun _ => none) (restr2 H sa P) H := by
  refine ⟨fun _ _ h => (by cases h), fun a o h => ?_, fun _ _ h => (by cases h), fun _ _ h => (by cases h), ?_, fun P' z => ?_⟩
  · unfold restr2 at h
    split at h
    · exact h
    · cases h
  · have e : restr2 H sa P sa = H sa := if_pos (.inl rfl)
    rcases h with (h | ⟨o, h⟩) | h
    · exact .inl (.inl (e.trans h))
    · exact .inl (.inr ⟨o, e.trans h⟩)
    · exact .inr h
  · cases z
    exact LamX.TabS.nil ((if_pos (.inr rfl)).trans ht)
def spTopT (K : PySem.W.Frag) (P : Addr) : Sp := fun vs H Q _ => ∃ (a : Addr) (ns : List Int), vs = [.ref a] ∧ ns.length ≤ 63 ∧ H P = some (.tbl #[]) ∧ SqL K H a (ns.map V.int) ∧ ∀ H', Q (.bl true) H'
theorem top_okT {P : Program} {w : World} {K : PySem.W.Frag} {mg : Str → Option Value} {base : Heap} {k : Nat} {f Pt : Addr} {fd : FuncData} {cx : Nat → Value}
    (h : ∀ (sa : Addr) (ns : List Int), ns.length ≤ 63 → FnOk P w K mg base (L2.CX P w) k f fd ["script"] (spOf (Wd K sa ns (some Pt)) cx 1 (spLaw sa))) : FnOk P w K mg base (L2.CX P w) k f fd ["script"] (spTopT K Pt) := by
  refine ⟨fun vs H Q E ⟨a, ns, e, _⟩ => by rw [e]; rfl, fun A outer s H args us vs Q E hr he hb hv ⟨a, ns, e, hl, hT, hS, hq⟩ => ?_⟩
  subst e
  refine (h a ns hl).run A outer s H args us [.ref a] Q E hr he hb hv ?_
  refine ⟨fun _ => none, restr2 H a Pt, none, [.r (.ref a)], fun d _ => d = .d (.bool true), fun _ _ => False, restr2_w hT hS, .cons rfl .nil, rfl, ⟨rfl, rfl, fun _ => rfl⟩, fun d ω' v H' F' M' e _ _ r => ?_, fun _ _ _ _ _ z => z.elim⟩
  subst e
  cases r
  exact hq H'
theorem cx_noT {P : Program} : ∀ (w : World) (H : Hp) (s : Shared) (e : Value) (s' : Shared), L2.CX P w [] H s (fun _ _ _ => False) e s' → False := by
  rintro w H s e s' ⟨_, _, _, _, _, _, _, _, _, _, _, _, z⟩
  exact z
/-! ### the classes, by a look at the written part -/
def clA (K : PySem.W.Frag) (i : Nat) : Addr := He.ga K (clsN.getD i "")
def excCB (K : PySem.W.Frag) (D : Addr) : Bool :=
  decide (PySem.W.findIn K (.ref D) "__getattribute__" = some (some (.builtin "BaseException.__getattribute__"))) && (decide (PySem.W.findIn K (.ref D) "__getattr__" = some none) && (decide (PySem.W.subIn K (.ref D) (.type "BaseException") = some true) && (PySem.W.hasDictIn K D &&
  (decide (PySem.W.findIn K (.ref D) "__class__" = some (some (.builtin "object.__class__"))) && (decide (PySem.W.specialIn K (.builtin "object.__class__") "__get__" = some (some (.builtin "getset_descriptor.__get__"))) && (decide (PySem.W.takesIn K (.builtin "object.__class__") = some true) && decide (PySem.W.mroIn K D (.type "object") = some true)))))))
theorem excCB_ok {K : PySem.W.Frag} {D : Addr} (h : excCB K D = true) : ExcC K D := by
  unfold excCB at h
  simp only [Bool.and_eq_true, decide_eq_true_eq] at h
  obtain ⟨h1, h2, h3, h4, h5, h6, h7, h8⟩ := h
  exact ⟨h1, h2, h3, h4, h5, h6, h7, h8⟩
def errsB (K : PySem.W.Frag) : Bool := (List.range 11).all fun i => excCB K (clA K (i + 1)) && (decide (PySem.W.exmOne K (.ref (clA K (i + 1))) (.ref (clA K 0)) = some true) && (decide (PySem.W.kitOne K (.ref (clA K (i + 1))) (.type "ValueError") = some true) &&
  (List.range 11).all fun j => decide (PySem.W.kitOne K (.ref (clA K (i + 1))) (.ref (clA K (j + 1))) = some (decide (j + 1 = i + 1)))))
theorem errs_of {K : PySem.W.Frag} (h : errsB K = true) : Errs K (clA K) := by
  have key : ∀ c, 1 ≤ c → c ≤ 11 → ExcC K (clA K c) ∧ PySem.W.exmOne K (.ref (clA K c)) (.ref (clA K 0)) = some true ∧ PySem.W.kitOne K (.ref (clA K c)) (.type "ValueError") = some true ∧ ∀ i, 1 ≤ i → i ≤ 11 → PySem.W.kitOne K (.ref (clA K c)) (.ref (clA K i)) = some (decide (i = c)) := fun c c1 c2 => by
    obtain ⟨k, rfl⟩ : ∃ k, c = k + 1 := ⟨c - 1, by omega⟩
    have q := List.all_eq_true.mp h k (List.mem_range.mpr (by omega))
    simp only [Bool.and_eq_true, decide_eq_true_eq, List.all_eq_true] at q
    obtain ⟨q1, q2, q3, q4⟩ := q
    refine ⟨excCB_ok q1, q2, q3, fun i i1 i2 => ?_⟩
    obtain ⟨j, rfl⟩ : ∃ j, i = j + 1 := ⟨i - 1, by omega⟩
    exact q4 j (List.mem_range.mpr (by omega))
  exact ⟨fun c a b => (key c a b).2.1, fun c a b => (key c a b).1, fun c i a b d e => (key c a b).2.2.2 i d e, fun c a b => (key c a b).2.2.1⟩
end Q
namespace Q
open PySem PySem.Spec PyProof.Rows L2
/-! ### a law's lambdas: what is asked of its body -/
def cxU (K : PySem.W.Frag) (c : Nat) : Value := .ref (clA K c)
theorem uN_nm {K : PySem.W.Frag} {c : Nat} {z : Str} (h : uN c = some z) : nmOf (clA K) (cxU K c) z := by
  unfold uN at h
  split at h <;> first | (cases h; exact ⟨_, by decide, by decide, rfl, rfl⟩) | cases h
theorem lamI_mk {sa T gf : Addr} {ns : List Int} {δ : Den (Option Addr)} {g : Glob} {K : PySem.W.Frag} {mg : Str → Option Value} {base : Heap} {P : Program} {w : World} {n : Nat} {N Ng : List Str} {sc sg : Scope} {f c : Addr} {A : Around} {outer : List Env} {s : Shared} {H : Hp} {E : XK} {pg : Arguments} {bg : List Stmt} {fdR : FuncData}
    (hnm : ∀ c, δ.nm c = uN c) (hP : Prev (Wd K sa ns (some T)) δ g (cxU K) P w K mg base n)
    (FR : FunD K "_law_result" "_law_result" pg bg sg [] [] gf fdR) (hgf : mg "_law_result" = some (.ref gf)) (Sg : FnScope Ng ["call"] sg) (h0 : Ng[0]? = some ("call" : Str)) (hva : Vis sg "call") (bd : L2.Binds K fdR ["call"] [])
    (hG : ∀ (X : Cx) (k : Nat) (cdg : Value), X.K = K → X.mg = mg → Room (k + 1) X.A → LamX.GivesTo X Ng "_law_result" sg gf cdg bg "call" qLam (TTres (nmOf (clA K))))
    (TB : LamX.TabB base mg c T) (hr : Room (n + 2) (A.deeper (envOfC "law" sc s.heap.objs.size f (.ref c)))) :
    LamI (Wd K sa ns (some T)) δ (g.at n) ⟨cxU K, E⟩ (cxOf (L2.CX P w) P w K mg base N "law" sc f (.ref c) A outer s H E) := by
  obtain ⟨oc, od, dV, kV, doc, pm, an, cdv, ct, osl, rfl, lk, hcd, _, _⟩ := FR.ex
  refine ⟨gf, c, T, n, pg, bg, sg, dV, kV, doc, pm, cdv, ct, oc, an, od, osl, Ng, nmOf (clA K), hgf, FR.kp, lk, hcd, bd, Sg, h0, hva, hG _ (n + 1) cdv rfl rfl hr, TB, rfl, rfl, hr, fun ω M h => ?_, fun ω M M1 h s t => Wd.ext h s fun P z => by cases z; exact t, fun c z h => uN_nm (by rw [← hnm]; exact h), fun j x hj e => ?_⟩
  · cases ω with
    | none => exact h.2 _ rfl
    | some t => exact h.1.2 _ rfl
  · obtain ⟨m, sp, f', fd, ps, e1, q⟩ := hP j x hj e
    exact ⟨m, sp, f', fd, ps, n, Nat.le_refl _, e1, ⟨q.len, q.at_, q.kp, q.bd, q.kb, q.ok, hr.mono (Nat.le_add_right _ _)⟩⟩
/-! ### what the defs of a law are worth -/
def mkFns (imps : List (Nat × Nat × FSpec (Option Addr))) (TA : Tab) (k : Nat) : Option (Nat × FSpec (Option Addr)) := match imps.lookup k with
  | some x => some x
  | none => (TA.lookup k).map fun p => (p.1, spR p.2)
def mkDen (imps : List (Nat × Nat × FSpec (Option Addr))) (TA : Tab) : Den (Option Addr) := ⟨mkFns imps TA, uC, uN⟩
theorem lookup_mem {α : Type} : ∀ {l : List (Nat × α)} {k : Nat} {x : α}, l.lookup k = some x → (k, x) ∈ l
  | (j, y) :: l, k, x, h => by
    rw [List.lookup_cons] at h
    split at h
    · next e => cases h; rw [beq_iff_eq.mp e]; exact List.mem_cons_self
    · exact List.mem_cons_of_mem _ (lookup_mem h)
theorem mkDen_tab {imps : List (Nat × Nat × FSpec (Option Addr))} {TA : Tab} (h : (TA.all fun p => (imps.lookup p.1).isNone) = true) : TabOk (mkDen imps TA) TA := by
  refine ⟨fun k m F e => ⟨spR F, ?_, fun _ _ _ _ q => q⟩, rfl, fun _ => rfl⟩
  have q := List.all_eq_true.mp h _ (lookup_mem e)
  have q2 : imps.lookup k = none := Option.isNone_iff_eq_none.mp q
  show mkFns imps TA k = _
  unfold mkFns
  rw [q2, e]; rfl
theorem tab_sub {Ω : Type} {δ : Den Ω} {TA T : Tab} (h : TabOk δ TA) (s : ∀ p ∈ T, TA.lookup p.1 = some p.2) : TabOk δ T :=
  ⟨fun k m F e => h.fns k m F (s _ (lookup_mem e)), h.cns, h.nm⟩
theorem rd_pure {Ω : Type} {δ : Den Ω} {TA T : Tab} {c : CS} {N : List Str} {n : Nat} {F : Fn} {m : Nat} (h : TabOk δ TA) (s : ∀ p ∈ T, TA.lookup p.1 = some p.2) (hN : N.length = n) (hF : F = run T n c) : ∀ ds (ω : Ω) Qc Ec, ds.length = m → spR F ds ω Qc Ec → denS δ c Ec ⟨fun _ ω' => Qc (.d .none) ω', Qc, fun _ _ => False, fun _ _ => False⟩ (startE N ds) ω := by
  intro ds ω Qc Ec _ q
  subst hN
  rw [hF] at q
  exact rd_run (tab_sub h s) ds ω Qc Ec q
theorem sub_nil {TA : Tab} : ∀ p ∈ ([] : Tab), TA.lookup p.1 = some p.2 := fun _ h => by cases h
theorem sub_cons {TA T : Tab} {x : Nat × Nat × Fn} (e : TA.lookup x.1 = some x.2) (h : ∀ p ∈ T, TA.lookup p.1 = some p.2) : ∀ p ∈ x :: T, TA.lookup p.1 = some p.2 := fun p hp => (List.mem_cons.mp hp).elim (fun z => by rw [z]; exact e) (h p)
theorem Prev.gapB {Ω : Type} {W : Ω → Hp → Prop} {δ : Den Ω} {g : Glob} {cx : Nat → Value} {P : Program} {w : World} {K : PySem.W.Frag} {mg : Str → Option Value} {base : Heap} {n m : Nat} (h : Prev W δ g cx P w K mg base n) (e : ((List.range (m - n)).all fun i => (g.fns (n + i)).isNone) = true) (hm : n ≤ m) : Prev W δ g cx P w K mg base m :=
  h.gap hm fun k h1 h2 => by
    have q := List.all_eq_true.mp e (k - n) (List.mem_range.mpr (by omega))
    rw [show n + (k - n) = k by omega] at q
    exact Option.isNone_iff_eq_none.mp q
end Q
namespace Q
open PySem PySem.Spec PyProof.Rows L2 GF
/-! ### for the laws' bodies -/
@[simp] theorem tD_ix0 (n : Nat) (rs : List Rn) : f2 .ix (.d (tD n rs)) (.d (.int 0)) = .ok (.d (nI n)) := by simp [tD]
@[simp] theorem tD_ix1 (n : Nat) (rs : List Rn) : f2 .ix (.d (tD n rs)) (.d (.int 1)) = .ok (.d (.tuple (rs.map rD))) := by simp [tD]
@[simp] theorem tD_pat (n : Nat) (rs : List Rn) (i j : Nat) (env : List S) : bindP (.cons (.nm i) (.cons (.nm j) .nil)) (tD n rs) env = some ((env.set i (.d (nI n))).set j (.d (.tuple (rs.map rD)))) := by simp [tD]
@[simp] theorem cD_len (c : List Nat) : fBl .len [.d (cD c)] = .ok (.d (.int (c.length : Int))) := by simp [cD]
@[simp] theorem cD_seq (c : List Nat) : fSeq (.d (cD c)) = .ok (c.map mD) := rfl
@[simp] theorem mD_seq (v : Nat) : fSeq (.d (mD v)) = .ok (iL (msgs v)) := rfl
@[simp] theorem sh_cD (n : Nat) (c : List Nat) : sh (n + 2) (cD c) = true := by simp [cD, Function.comp_def, sh_mD]
@[simp] theorem sh_mD' (n v : Nat) : sh (n + 1) (mD v) = true := sh_mD n v
@[simp] theorem all_shn (n : Nat) (l : List Nat) : l.all (sh n ∘ nI) = true := by simp [Function.comp_def]
@[simp] theorem all_shi (n : Nat) (l : List Int) : l.all (sh n ∘ PyData.int) = true := by simp [Function.comp_def]
@[simp] theorem all_shm (n : Nat) (l : List Nat) : l.all (sh (n + 1) ∘ mD) = true := by simp [Function.comp_def, sh_mD]
/-- it goes on, with such slots -/
def Out.is (o : Out) (P : List S → Prop) : Prop := match o with
  | .nx env => P env
  | _ => False
@[simp] theorem is_nx (env : List S) (P : List S → Prop) : (Out.nx env).is P = P env := rfl
theorem Out.is_wp {Ω : Type} {o : Out} {P : List S → Prop} {E : XD Ω} {Dc : DEnds Ω} {ω : Ω} (h : o.is P) (q : ∀ env, P env → Dc.nx env ω) : o.wp E Dc ω := by
  cases o with
  | nx env => exact q env h
  | _ => exact h.elim
@[simp] theorem eqv_1s (a b : Str) : PyData.eqv (.tuple [.str a]) (.tuple [.str b]) = decide (a = b) := by
  rw [PyData.eqv, PyData.eqvAll, PyData.eqv, PyData.eqvAll]
  by_cases h : a = b <;> simp [h]
@[simp] theorem fLam_e1 : fLam (.ex 1) = .ok (.d (.tuple [.str "task"])) := rfl
@[simp] theorem fLam_e2 : fLam (.ex 2) = .ok (.d (.tuple [.str "messages"])) := rfl
@[simp] theorem fLam_e3 : fLam (.ex 3) = .ok (.d (.tuple [.str "code"])) := rfl
@[simp] theorem fLam_e4 : fLam (.ex 4) = .ok (.d (.tuple [.str "known"])) := rfl
@[simp] theorem fLam_e5 : fLam (.ex 5) = .ok (.d (.tuple [.str "receiver"])) := rfl
@[simp] theorem fLam_e6 : fLam (.ex 6) = .ok (.d (.tuple [.str "division"])) := rfl
@[simp] theorem fLam_e7 : fLam (.ex 7) = .ok (.d (.tuple [.str "number"])) := rfl
@[simp] theorem fLam_e8 : fLam (.ex 8) = .ok (.d (.tuple [.str "sum"])) := rfl
@[simp] theorem fLam_e9 : fLam (.ex 9) = .ok (.d (.tuple [.str "text"])) := rfl
@[simp] theorem fLam_e10 : fLam (.ex 10) = .ok (.d (.tuple [.str "many"])) := rfl
@[simp] theorem fLam_e11 : fLam (.ex 11) = .ok (.d (.tuple [.str "undo"])) := rfl
theorem eqvAll_nL : ∀ (a b : List Nat), PyData.eqvAll (nL a) (nL b) = decide (a = b) := fun a b => by
  have e : ∀ l : List Nat, nL l = iL (l.map fun (i : Nat) => (i : Int)) := fun l => by simp [nL, iL, Function.comp_def]
  rw [e, e, eqvAll_ints]
  by_cases h : a = b
  · simp [h]
  · have : a.map (fun (i : Nat) => (i : Int)) ≠ b.map (fun (i : Nat) => (i : Int)) := fun q => h (List.map_inj_right (fun x y z => by omega) |>.mp q)
    simp [h, this]
@[simp] theorem eqv_nT (a b : List Nat) : PyData.eqv (.tuple (nL a)) (.tuple (nL b)) = decide (a = b) := by rw [PyData.eqv, eqvAll_nL]
@[simp] theorem sh_nT (n : Nat) (a : List Nat) : sh (n + 1) (.tuple (nL a)) = true := by simp
@[simp] theorem eqv_list (xs ys : List PyData) : PyData.eqv (.list xs) (.list ys) = PyData.eqvAll xs ys := by rw [PyData.eqv]
@[simp] theorem eqvAll_cons (x y : PyData) (xs ys : List PyData) : PyData.eqvAll (x :: xs) (y :: ys) = (PyData.eqv x y && PyData.eqvAll xs ys) := by rw [PyData.eqvAll]
@[simp] theorem eqvAll_nil : PyData.eqvAll [] [] = true := by rw [PyData.eqvAll]
end Q
namespace Q
open PySem PySem.Spec PyProof.Rows L2 GF
/-! ### the order of data -/
theorem dle_iff (x y : PyData) : dle x y = !PyProof.Rows.lexLt PyProof.Rows.itemOrd (PySem.W.keyToks y) (PySem.W.keyToks x) := rfl
theorem dle_total (x y : PyData) : (dle x y || dle y x) = true := by
  rw [dle_iff, dle_iff]
  cases h : PyProof.Rows.lexLt PyProof.Rows.itemOrd (PySem.W.keyToks y) (PySem.W.keyToks x) with
  | false => rfl
  | true =>
    cases h2 : PyProof.Rows.lexLt PyProof.Rows.itemOrd (PySem.W.keyToks x) (PySem.W.keyToks y) with
    | false => rfl
    | true =>
      have := lex_trans _ _ _ h h2
      rw [lex_irrefl] at this
      cases this
theorem dle_trans (x y z : PyData) (h1 : dle x y = true) (h2 : dle y z = true) : dle x z = true := by
  rw [dle_iff, Bool.not_eq_true'] at h1 h2 ⊢
  cases h : PyProof.Rows.lexLt PyProof.Rows.itemOrd (PySem.W.keyToks z) (PySem.W.keyToks x) with
  | false => rfl
  | true =>
    rcases lex_negTrans _ (PySem.W.keyToks y) _ h with q | q
    · rw [h2] at q; cases q
    · rw [h1] at q; cases q
theorem dle_eqv {x y : PyData} (a : PySem.W.alike x y = true) (h1 : dle x y = true) (h2 : dle y x = true) : PyData.eqv x y = true := by
  rw [dle_iff, Bool.not_eq_true'] at h1 h2
  have e := lex_total _ _ h2 h1
  cases q : PyData.eqv x y with
  | true => rfl
  | false =>
    have z := (PySem.W.toks_eqv x y a).2 q [.inl 0] [.inl 1]
    rw [e, PySem.W.lex_pre, lex_irrefl] at z
    exact absurd z (by decide)
section
variable {α : Type}
/-- a total order -/
structure Ord (le : α → α → Bool) : Prop where
  total : ∀ a b, (le a b || le b a) = true
  trans : ∀ a b c, le a b = true → le b c = true → le a c = true
theorem Ord.of (enc : α → PyData) : Ord fun a b => dle (enc a) (enc b) := ⟨fun _ _ => dle_total _ _, fun _ _ _ => dle_trans _ _ _⟩
theorem srt_map (enc : α → PyData) (l : List α) : (l.map enc).mergeSort dle = (l.mergeSort fun a b => dle (enc a) (enc b)).map enc := by
  rw [List.map_mergeSort]
  intro a _ b _
  rfl
/-- the least of some -/
def minA (le : α → α → Bool) (x : α) (xs : List α) : α := xs.foldl (fun a y => if le a y = true then a else y) x
theorem minD_map (enc : α → PyData) : ∀ (xs : List α) (x : α), PySem.W.minD (enc x) (xs.map enc) = enc (minA (fun a b => dle (enc a) (enc b)) x xs)
  | [], x => rfl
  | y :: xs, x => by
    have ih := minD_map enc xs
    unfold PySem.W.minD minA at ih ⊢
    rw [List.map_cons, List.foldl_cons, List.foldl_cons, ← ih]
    congr 1
    unfold dle
    cases q : PySem.W.dataLt (enc y) (enc x) <;> simp [q]
theorem minA_ok {le : α → α → Bool} (o : Ord le) : ∀ (xs : List α) (x : α), minA le x xs ∈ x :: xs ∧ ∀ y ∈ x :: xs, le (minA le x xs) y = true
  | [], x => ⟨List.mem_cons_self, fun y hy => by
      rw [List.mem_singleton.mp hy]
      have := o.total x x
      show le x x = true
      simpa using this⟩
  | z :: xs, x => by
    have e : minA le x (z :: xs) = minA le (if le x z = true then x else z) xs := rfl
    rw [e]
    obtain ⟨h1, h2⟩ := minA_ok o xs (if le x z = true then x else z)
    refine ⟨?_, fun y hy => ?_⟩
    · rcases List.mem_cons.mp h1 with q | q
      · rw [q]
        split
        · exact List.mem_cons_self
        · exact List.mem_cons_of_mem _ List.mem_cons_self
      · exact List.mem_cons_of_mem _ (List.mem_cons_of_mem _ q)
    · have h0 := h2 _ List.mem_cons_self
      by_cases n : le x z = true
      · rw [if_pos n] at h0 h2 ⊢
        rcases List.mem_cons.mp hy with q | q
        · rw [q]; exact h0
        · rcases List.mem_cons.mp q with q | q
          · rw [q]; exact o.trans _ _ _ h0 n
          · exact h2 y (List.mem_cons_of_mem _ q)
      · rw [if_neg n] at h0 h2 ⊢
        have tz := o.total x z
        rw [Bool.or_eq_true] at tz
        rcases List.mem_cons.mp hy with q | q
        · rw [q]; exact o.trans _ _ _ h0 (tz.resolve_left n)
        · rcases List.mem_cons.mp q with q | q
          · rw [q]; exact h0
          · exact h2 y (List.mem_cons_of_mem _ q)
/-- the first of the sorted ones that is so -/
theorem find_srt {le : α → α → Bool} (o : Ord le) {l : List α} {p : α → Bool} {z : α} (h : (l.mergeSort le).find? p = some z) : z ∈ l ∧ p z = true ∧ ∀ y ∈ l, p y = true → le z y = true := by
  have pm := List.mergeSort_perm l le
  have srt := List.pairwise_mergeSort (le := le) o.trans o.total l
  have key : ∀ {m : List α}, m.Pairwise (fun a b => le a b = true) → m.find? p = some z → ∀ y ∈ m, p y = true → le z y = true := by
    intro m
    induction m with
    | nil => intro _ h; cases h
    | cons a m ih =>
      intro hp h y hy py
      rw [List.pairwise_cons] at hp
      rw [List.find?_cons] at h
      split at h
      · next pa =>
        have e : a = z := Option.some.inj h
        subst e
        rcases List.mem_cons.mp hy with q | q
        · rw [q]
          have := o.total a a
          simpa using this
        · exact hp.1 y q
      · next pa =>
        rcases List.mem_cons.mp hy with q | q
        · rw [q, pa] at py; cases py
        · exact ih hp.2 h y q py
  exact ⟨pm.mem_iff.mp (List.mem_of_find?_eq_some h), List.find?_some h, fun y hy => key srt h y (pm.mem_iff.mpr hy)⟩
theorem find_none {le : α → α → Bool} {l : List α} {p : α → Bool} : (l.mergeSort le).find? p = none ↔ l.filter p = [] := by
  rw [List.find?_eq_none, List.filter_eq_nil_iff]
  exact ⟨fun h x hx => h x ((List.mergeSort_perm l le).mem_iff.mpr hx), fun h x hx => h x ((List.mergeSort_perm l le).mem_iff.mp hx)⟩
/-- the first of the sorted ones is the least of those that are so -/
theorem find_min {le : α → α → Bool} (o : Ord le) {l : List α} {p : α → Bool} (anti : ∀ a ∈ l, ∀ b ∈ l, le a b = true → le b a = true → a = b) : (l.mergeSort le).find? p = match l.filter p with | [] => none | x :: xs => some (minA le x xs) := by
  cases e : (l.mergeSort le).find? p with
  | none => rw [find_none.mp e]
  | some z =>
    obtain ⟨h1, h2, h3⟩ := find_srt o e
    cases q : l.filter p with
    | nil => rw [find_none.mpr q] at e; cases e
    | cons x xs =>
      obtain ⟨m1, m2⟩ := minA_ok o xs x
      rw [← q] at m1 m2
      obtain ⟨a1, a2⟩ := List.mem_filter.mp m1
      simp only [Option.some.injEq]
      exact anti _ h1 _ a1 (h3 _ a1 a2) (m2 z (List.mem_filter.mpr ⟨h1, h2⟩))
end
end Q
namespace Q
open PySem PySem.Spec PyProof.Rows L2
def c_survives : CS := (.cons (.ret (.call 30 (.cons (.var 0) (.cons (.call 24 (.cons (.comp false (.enum (.var 1)) (.cons (.nm 3) (.cons (.nm 4) .nil)) (.bin .notin (.var 3) (.var 2)) (.var 4)) .nil)) .nil)))) .nil)
def F_survives : Fn := run [(24, 1, F_basis_for), (30, 2, F_does_serve)] 5 c_survives
def c_is_safe : CS := (.cons (.drop (.call 28 (.cons (.var 0) (.cons (.var 1) .nil)))) (.cons (.ifS (.not (.call 13 (.cons (.var 2) (.cons (.con (.int 0)) (.cons (.con (.int 8)) .nil))))) (.cons (.raise 7) .nil) .nil) (.cons (.set 3 (.blt .min2 (.cons (.var 2) (.cons (.blt .len (.cons (.var 1) .nil)) .nil)))) (.cons (.ret (.blt .all (.cons (.comp false (.call 34 (.cons (.blt .len (.cons (.var 1) .nil)) .nil)) (.nm 4) (.bin .eq (.blt .len (.cons (.var 4) .nil)) (.var 3)) (.call 72 (.cons (.var 0) (.cons (.var 1) (.cons (.var 4) .nil))))) .nil))) .nil))))
def F_is_safe : Fn := run [(13, 3, F_is_between), (28, 2, F_check_both), (34, 1, F_choices_of), (72, 3, F_survives)] 5 c_is_safe
def c_weakest : CS := (.cons (.drop (.call 28 (.cons (.var 0) (.cons (.var 1) .nil)))) (.cons (.ifS (.not (.call 72 (.cons (.var 0) (.cons (.var 1) (.cons (.tup .nil) .nil))))) (.cons (.ret (.con .none)) .nil) .nil) (.cons (.forS (.call 34 (.cons (.blt .len (.cons (.var 1) .nil)) .nil)) (.nm 2) (.cons (.ifS (.not (.call 72 (.cons (.var 0) (.cons (.var 1) (.cons (.var 2) .nil))))) (.cons (.ret (.var 2)) .nil) .nil) .nil)) (.cons (.ret (.con .none)) .nil))))
def F_weakest : Fn := run [(28, 2, F_check_both), (34, 1, F_choices_of), (72, 3, F_survives)] 3 c_weakest
def c__law_without : CS := (.cons (.set 3 (.blt .tup (.cons (.comp false (.enum (.var 1)) (.cons (.nm 4) (.cons (.nm 5) .nil)) (.bin .notin (.var 4) (.var 2)) (.var 5)) .nil))) (.cons (.ret (.bin .eq (.blt .len (.cons (.call 88 (.cons (.var 0) (.cons (.var 3) .nil))) .nil)) (.blt .len (.cons (.bin .ix (.var 0) (.con (.int 1))) .nil)))) .nil))
def F__law_without : Fn := run [(88, 2, F__law_serves)] 6 c__law_without
end Q
namespace Q
open PySem PySem.Spec PyProof.Rows L2 GF
/-! ### choices of indices -/
def rws : Nat → List (List Nat)
  | 0 => [[]]
  | m + 1 => rws m ++ (rws m).map fun l => l ++ [m]
theorem rws_len : ∀ m, (rws m).length = 2 ^ m
  | 0 => rfl
  | m + 1 => by simp [rws, rws_len m, Nat.pow_succ]; omega
theorem rws_len8 {m : Nat} (h : m ≤ 8) : (rws m).length ≤ 256 := by
  rw [rws_len]
  exact Nat.pow_le_pow_right (n := 2) (i := m) (by omega) h
theorem mem_rws : ∀ {m : Nat} {l : List Nat}, l ∈ rws m ↔ l.Pairwise (· < ·) ∧ ∀ x ∈ l, x < m
  | 0, l => by
    show l ∈ [[]] ↔ _
    rw [List.mem_singleton]
    constructor
    · intro e; subst e; simp
    · rintro ⟨_, h⟩
      cases l with
      | nil => rfl
      | cons x l => have := h x List.mem_cons_self; omega
  | m + 1, l => by
    rw [rws, List.mem_append, List.mem_map, mem_rws]
    constructor
    · rintro (⟨h1, h2⟩ | ⟨k, hk, rfl⟩)
      · exact ⟨h1, fun x hx => by have := h2 x hx; omega⟩
      · obtain ⟨h1, h2⟩ := mem_rws.mp hk
        refine ⟨List.pairwise_append.mpr ⟨h1, List.pairwise_singleton _ _, fun x hx y hy => by rw [List.mem_singleton.mp hy]; exact h2 x hx⟩, fun x hx => ?_⟩
        rcases List.mem_append.mp hx with z | z
        · have := h2 x z; omega
        · rw [List.mem_singleton.mp z]; omega
    · rintro ⟨h1, h2⟩
      by_cases q : m ∈ l
      · right
        obtain ⟨a, b, rfl⟩ := List.append_of_mem q
        rw [List.pairwise_append] at h1
        obtain ⟨p1, p2, p3⟩ := h1
        rw [List.pairwise_cons] at p2
        have hb : b = [] := by
          cases b with
          | nil => rfl
          | cons y b =>
            have := p2.1 y List.mem_cons_self
            have := h2 y (by simp)
            omega
        subst hb
        refine ⟨a, mem_rws.mpr ⟨p1, fun x hx => p3 x hx m List.mem_cons_self⟩, rfl⟩
      · left
        exact ⟨h1, fun x hx => by
          have := h2 x hx
          have : x ≠ m := fun e => q (e ▸ hx)
          omega⟩
theorem rws_bd {m : Nat} {l : List Nat} (h : l ∈ rws m) : l.length ≤ m := by
  obtain ⟨h1, h2⟩ := mem_rws.mp h
  have := nodup_le (l := l) (m := List.range m) (h1.imp fun q => Nat.ne_of_lt q) fun x hx => List.mem_range.mpr (h2 x hx)
  simpa using this
def iD (l : List Nat) : PyData := .tuple (nL l)
def kD (l : List Nat) : PyData := .tuple [nI l.length, iD l]
def cle (a b : List Nat) : Bool := dle (kD a) (kD b)
def cho (m : Nat) : List (List Nat) := (rws m).mergeSort cle
theorem alike_nL (a b : List Nat) : PySem.W.alikeAll (nL a) (nL b) = true := by
  have e : ∀ l : List Nat, nL l = (l.map fun (i : Nat) => (i : Int)).map PyData.int := fun l => by simp [nL, Function.comp_def]
  rw [e, e]
  exact PySem.W.alike_ints _ _
theorem alike_iD (a b : List Nat) : PySem.W.alike (iD a) (iD b) = true := by unfold iD; rw [PySem.W.alike]; exact alike_nL a b
theorem alike_kD (a b : List Nat) : PySem.W.alike (kD a) (kD b) = true := by simp [kD, PySem.W.alike, PySem.W.alikeAll, alike_iD]
theorem eqv_iD (a b : List Nat) : PyData.eqv (iD a) (iD b) = decide (a = b) := eqv_nT a b
theorem cle_anti {a b : List Nat} (h1 : cle a b = true) (h2 : cle b a = true) : a = b := by
  have := dle_eqv (alike_kD a b) h1 h2
  unfold kD at this
  rw [PyData.eqv, eqvAll_cons, eqvAll_cons, eqv_iD] at this
  simp only [Bool.and_eq_true, decide_eq_true_eq] at this
  exact this.2.1
theorem sh_kD (n : Nat) (l : List Nat) : sh (n + 2) (kD l) = true := by simp [kD, iD]
theorem srtB_kD (ls : List (List Nat)) : srtB (ls.map kD) = true := by
  have h1 : ∀ l, isTup (kD l) = true := fun _ => rfl
  have h2 : ∀ l, sh 50 (kD l) = true := fun l => sh_kD 48 l
  simp [srtB, alB, h1, h2, alike_kD]
theorem srt_kD (ls : List (List Nat)) : (ls.map kD).mergeSort dle = (ls.mergeSort cle).map kD := srt_map kD ls
theorem choices_loop {s0 : S} : ∀ (k : Nat) {m : Nat} {s2 s3 s4 : S}, m + k ≤ 8 → ∃ t2,
    evFor (.nm 2) (evS [] (.cons (.set 1 (.bin .add (.var 1) (.comp false (.var 1) (.nm 4) .yes (.bin .add (.var 4) (.tup (.cons (.var 2) .nil)))))) .nil)) (nL (List.range' m k)) [s0, .d (.list ((rws m).map iD)), s2, s3, s4] = .nx [s0, .d (.list ((rws (m + k)).map iD)), t2, s3, s4]
  | 0, m, s2, s3, s4, _ => ⟨s2, rfl⟩
  | k + 1, m, s2, s3, s4, h => by
    obtain ⟨t2, e⟩ := choices_loop (s0 := s0) k (m := m + 1) (s2 := .d (nI m)) (s3 := s3) (s4 := s4) (by omega)
    have hl := rws_len8 (m := m) (by omega)
    refine ⟨t2, ?_⟩
    rw [List.range'_succ, show nL (m :: List.range' (m + 1) k) = nI m :: nL (List.range' (m + 1) k) from rfl, evFor_nm]
    simp
    rw [cmpL_map iD (fun l => iD (l ++ [m])) fun l hl => ⟨_, by simp; rfl, ?_⟩]
    · have lk : lenOk ((rws m).length + (rws m).length) = true := by simp [lenOk]; omega
      simp [lk]
      have e2 : (rws m).map iD ++ (rws m).map (fun l => iD (l ++ [m])) = (rws (m + 1)).map iD := by simp [rws, Function.comp_def]
      rw [e2]
      rw [show m + (k + 1) = m + 1 + k by omega]
      exact e
    · have := rws_bd hl
      have lk : lenOk (l.length + 1) = true := by simp [lenOk]; omega
      simp [iD, lk]
theorem choices_eq {m : Nat} (h : m ≤ 8) : F_choices_of [.d (nI m)] = .ok (.d (.list ((cho m).map iD))) := by
  obtain ⟨t2, e⟩ := choices_loop (s0 := .d (nI m)) m (m := 0) (s2 := .no) (s3 := .no) (s4 := .no) (by omega)
  have h1 : ((m : Int) ≤ 1000000) := by omega
  have h2 : (-1000000 : Int) ≤ (m : Int) := by omega
  simp [F_choices_of, c_choices_of, h1, h2, rng_nL]
  rw [List.range_eq_range', show [PyData.tuple []] = (rws 0).map iD from rfl, e]
  simp
  rw [cmpL_map iD kD fun l hl => ⟨_, by simp; rfl, by simp [iD, kD]⟩]
  simp [srtB_kD, srt_kD]
  rw [cmpL_map kD iD fun l hl => ⟨_, by simp [kD]; rfl, by simp⟩]
  simp [cho]
/-! ### codes that lose sums -/
def dl (c l : List Nat) : List Nat := (c.zipIdx.filter fun p => !decide (p.2 ∈ l)).map fun p => p.1
theorem dl_mem {c l : List Nat} {v : Nat} (h : v ∈ dl c l) : v ∈ c := by
  obtain ⟨p, hp, rfl⟩ := List.mem_map.mp h
  exact List.fst_mem_of_mem_zipIdx (List.mem_filter.mp hp).1
theorem memD_nL {m : Nat} {l : List Nat} : memD (nI m) (nL l) = decide (m ∈ l) := by
  have e : nL l = iL (l.map fun (i : Nat) => (i : Int)) := by simp [nL, iL, Function.comp_def]
  rw [e, memD_ints]
  by_cases q : m ∈ l
  · have : (m : Int) ∈ l.map fun (i : Nat) => (i : Int) := List.mem_map.mpr ⟨m, q, rfl⟩
    simp [q, this]
  · have : (m : Int) ∉ l.map fun (i : Nat) => (i : Int) := fun z => by
      obtain ⟨j, hj, e⟩ := List.mem_map.mp z
      have : j = m := by omega
      exact q (this ▸ hj)
    simp [q, this]
def svv (rs : List Rn) (c l : List Nat) : Bool := decide ((srv rs (bas (dl c l))).length = rs.length)
theorem survives_eq {n : Nat} {rs : List Rn} {c l : List Nat} (hr : ∀ r ∈ rs, r.1 < 6 ∧ r.2 < 64) (hc : ∀ v ∈ c, v < 64) : F_survives [.d (tD n rs), .d (cD c), .d (iD l)] = .ok (.d (.bool (svv rs c l))) := by
  have hd : ∀ v ∈ dl c l, v < 64 := fun v hv => hc v (dl_mem hv)
  simp [F_survives, c_survives, cD, enumF_map]
  rw [cmpL_pure (fun p : Nat × Nat => .tuple [nI p.2, mD p.1]) (fun p => !decide (p.2 ∈ l)) (fun p => mD p.1) fun p hp => ⟨_, by simp; rfl, by simp [iD, memD_nL], fun _ => by simp⟩]
  have e : ((c.zipIdx).filter fun p => !decide (p.2 ∈ l)).map (fun p => mD p.1) = (dl c l).map mD := by simp [dl, Function.comp_def]
  rw [e]
  simp [basis_for_eqL hd, does_serve_eq hr (bas_red hd).lt, svv, srv]
  rfl
theorem law_without_eq {n : Nat} {rs : List Rn} {c l : List Nat} (hr : ∀ r ∈ rs, r.1 < 6 ∧ r.2 < 64) (hc : ∀ v ∈ c, v < 64) : F__law_without [.d (tD n rs), .d (cD c), .d (iD l)] = .ok (.d (.bool (svv rs c l))) := by
  have hd : ∀ v ∈ dl c l, v < 64 := fun v hv => hc v (dl_mem hv)
  have hsv : whr (fun r => tlls ((spl (dl c l)).mergeSort mle) r.2 r.1) rs = srv rs (bas (dl c l)) := by
    unfold srv
    congr 1
    funext r
    exact tlls_tld hd _ _
  have hls := law_serves_eq (n := n) hr hd
  rw [hsv] at hls
  unfold cD at hls
  simp [F__law_without, c__law_without, cD, enumF_map]
  rw [cmpL_pure (fun p : Nat × Nat => .tuple [nI p.2, mD p.1]) (fun p => !decide (p.2 ∈ l)) (fun p => mD p.1) fun p hp => ⟨_, by simp; rfl, by simp [iD, memD_nL], fun _ => by simp⟩]
  have e : ((c.zipIdx).filter fun p => !decide (p.2 ∈ l)).map (fun p => mD p.1) = (dl c l).map mD := by simp [dl, Function.comp_def]
  rw [e]
  simp [hls, svv]
  omega
/-! ### the same in a law's own body -/
theorem dbl_loop {T : Tab} {i j k : Nat} (hij : i ≠ j) (hik : i ≠ k) (hjk : j ≠ k) : ∀ (cnt : Nat) {m : Nat} {env : List S}, m + cnt ≤ 8 → i < env.length → k < env.length → env[j]? = some (.d (.list ((rws m).map iD))) → ∃ t,
    evFor (.nm i) (evS T (.cons (.set j (.bin .add (.var j) (.comp false (.var j) (.nm k) .yes (.bin .add (.var k) (.tup (.cons (.var i) .nil)))))) .nil)) (nL (List.range' m cnt)) env = .nx ((env.set j (.d (.list ((rws (m + cnt)).map iD)))).set i t)
  | 0, m, env, _, hi, hk, ej => by
    have hj : j < env.length := (List.getElem?_eq_some_iff.mp ej).1
    refine ⟨env[i], ?_⟩
    have e1 : env.set j (.d (.list ((rws m).map iD))) = env := by
      refine List.ext_getElem? fun q => ?_
      by_cases z : j = q
      · subst z; rw [List.getElem?_set_self hj, ej]
      · rw [List.getElem?_set_ne z]
    show Out.nx env = _
    rw [Nat.add_zero, e1, List.set_getElem_self]
  | cnt + 1, m, env, h, hi, hk, ej => by
    have hj : j < env.length := (List.getElem?_eq_some_iff.mp ej).1
    have hl := rws_len8 (m := m) (by omega)
    obtain ⟨t, e⟩ := dbl_loop (T := T) hij hik hjk cnt (m := m + 1) (env := (env.set i (.d (nI m))).set j (.d (.list ((rws (m + 1)).map iD)))) (by omega) (by simpa using hi) (by simpa using hk) (by rw [List.getElem?_set_self (by simpa using hj)])
    refine ⟨t, ?_⟩
    rw [List.range'_succ, show nL (m :: List.range' (m + 1) cnt) = nI m :: nL (List.range' (m + 1) cnt) from rfl, evFor_nm]
    have a1 : (env.set i (.d (nI m)))[j]? = some (.d (.list ((rws m).map iD))) := by rw [List.getElem?_set_ne hij]; exact ej
    have cm : cmpL (.nm k) (ev T .yes).b (ev T (.bin .add (.var k) (.tup (.cons (.var i) .nil)))).e ((env.set i (.d (nI m))).set k .no) ((rws m).map iD) = .ok ((rws m).map fun l => iD (l ++ [m])) := by
      refine cmpL_map iD (fun l => iD (l ++ [m])) fun l hl => ⟨((env.set i (.d (nI m))).set k .no).set k (.d (iD l)), bind_nm _ _, ?_⟩
      have := rws_bd hl
      have lk : lenOk (l.length + 1) = true := by simp [lenOk]; omega
      have b1 : (((env.set i (.d (nI m))).set k .no).set k (.d (iD l)))[k]? = some (.d (iD l)) := by rw [List.getElem?_set_self (by simpa using hk)]
      have b2 : (((env.set i (.d (nI m))).set k .no).set k (.d (iD l)))[i]? = some (.d (nI m)) := by rw [List.getElem?_set_ne (Ne.symm hik), List.getElem?_set_ne (Ne.symm hik), List.getElem?_set_self hi]
      simp only [ev_bin_e, ev_var_e, ev_tup_e, ev_cons_a, ev_nil_a, b1, b2, fSlot_1, Rs.bind_ok, fDats_1]
      simp [iD, lk]
    have lk : lenOk ((rws m).length + (rws m).length) = true := by simp [lenOk]; omega
    have e2 : (rws m).map iD ++ (rws m).map (fun l => iD (l ++ [m])) = (rws (m + 1)).map iD := by simp [rws, Function.comp_def]
    simp only [evS_cons, evS_set, ev_bin_e, ev_var_e, ev_comp_e, ev_var_i, a1, fSlot_1, Rs.bind_ok, fSeq_1, slots_nm, wipeE_cons, wipeE_nil, cm, Bool.false_eq_true, if_false, f2_3, List.length_map, lk, gd_t, Rs.th_ok, Out.seq_nx, evS_nil, e2, sl_d]
    rw [e, show m + (cnt + 1) = m + 1 + cnt by omega]
    congr 1
    refine List.ext_getElem? fun q => ?_
    by_cases z1 : i = q
    · subst z1
      rw [List.getElem?_set_self (by simpa using hi), List.getElem?_set_self (by simpa using hi)]
    · rw [List.getElem?_set_ne z1, List.getElem?_set_ne z1]
      by_cases z2 : j = q
      · subst z2
        rw [List.getElem?_set_self (by simpa using hj), List.getElem?_set_self hj]
      · rw [List.getElem?_set_ne z2, List.getElem?_set_ne z2, List.getElem?_set_ne z2, List.getElem?_set_ne z1]
/-! ### is_safe, weakest -/
theorem is_safe_eq {n : Nat} {rs : List Rn} {c : List Nat} {j : Int} (ht : TOk n rs) (hc : COk n c) (l : c.length ≤ 8) (j0 : 0 ≤ j) (j8 : j ≤ 8) : F_is_safe [.d (tD n rs), .d (cD c), .d (.int j)] = .ok (.d (.bool (((cho c.length).filter fun l => decide ((l.length : Int) = if (c.length : Int) < j then (c.length : Int) else j)).all (svv rs c)))) := by
  have hb : btw (.int j) 0 8 = true := by simp [btw]; omega
  simp [F_is_safe, c_is_safe, check_both_ok ht hc l, is_between_eq, hb, choices_eq l]
  rw [cmpL_pure iD (fun l => decide ((l.length : Int) = if (c.length : Int) < j then (c.length : Int) else j)) (fun l => .bool (svv rs c l)) fun l hl => ⟨_, by simp; rfl, by simp [iD], fun _ => by simp [survives_eq ht.lt (hc.lt ht.n6)]⟩]
  simp [List.all_map, Function.comp_def, isB, tru]
theorem is_safe_n {n : Nat} {rs : List Rn} {c : List Nat} {x : PyData} (ht : TOk n rs) (hc : COk n c) (l : c.length ≤ 8) (hx : btw x 0 8 = false) : F_is_safe [.d (tD n rs), .d (cD c), .d x] = .ex 7 := by
  simp [F_is_safe, c_is_safe, check_both_ok ht hc l, is_between_eq, hx]
theorem is_safe_t {t c x : PyData} (h : isTask t = false) : F_is_safe [.d t, .d c, .d x] = .ex 1 := by simp [F_is_safe, c_is_safe, check_both_t h]
theorem is_safe_c {n : Nat} {rs : List Rn} {c x : PyData} (ht : TOk n rs) (h : isCode n c = false) : F_is_safe [.d (tD n rs), .d c, .d x] = .ex 3 := by simp [F_is_safe, c_is_safe, check_both_c ht h]
def wk (rs : List Rn) (c : List Nat) : Option (List Nat) := if svv rs c [] = true then (cho c.length).find? (fun l => !svv rs c l) else none
def optD (o : Option (List Nat)) : PyData := match o with
  | some l => iD l
  | none => .none
theorem weak_loop {n : Nat} {rs : List Rn} {c : List Nat} (ht : TOk n rs) (hc : COk n c) : ∀ (ls : List (List Nat)) {s : S}, ∃ t,
    evFor (.nm 2) (evS [(28, 2, F_check_both), (34, 1, F_choices_of), (72, 3, F_survives)] (.cons (.ifS (.not (.call 72 (.cons (.var 0) (.cons (.var 1) (.cons (.var 2) .nil))))) (.cons (.ret (.var 2)) .nil) .nil) .nil)) (ls.map iD) [.d (tD n rs), .d (cD c), s] =
      match ls.find? (fun l => !svv rs c l) with | some l => .rt (.d (iD l)) | none => .nx [.d (tD n rs), .d (cD c), t]
  | [], s => ⟨s, rfl⟩
  | l :: ls, s => by
    obtain ⟨t, e⟩ := weak_loop ht hc ls (s := .d (iD l))
    refine ⟨t, ?_⟩
    rw [List.map_cons, evFor_nm, List.find?_cons]
    simp [survives_eq ht.lt (hc.lt ht.n6)]
    cases q : svv rs c l with
    | false => simp
    | true => simpa using e
theorem weakest_eq {n : Nat} {rs : List Rn} {c : List Nat} (ht : TOk n rs) (hc : COk n c) (l : c.length ≤ 8) : F_weakest [.d (tD n rs), .d (cD c)] = .ok (.d (optD (wk rs c))) := by
  obtain ⟨t, e⟩ := weak_loop ht hc (cho c.length) (s := .no)
  have h0 := survives_eq (n := n) (l := []) ht.lt (hc.lt ht.n6)
  rw [show iD [] = PyData.tuple [] from rfl] at h0
  unfold wk
  simp [F_weakest, c_weakest, check_both_ok ht hc l, choices_eq l, h0]
  cases q : svv rs c [] with
  | false => simp [optD]
  | true =>
    simp
    rw [e]
    cases (cho c.length).find? (fun l => !svv rs c l) <;> simp [optD]
theorem weakest_t {t c : PyData} (h : isTask t = false) : F_weakest [.d t, .d c] = .ex 1 := by simp [F_weakest, c_weakest, check_both_t h]
theorem weakest_c {n : Nat} {rs : List Rn} {c : PyData} (ht : TOk n rs) (h : isCode n c = false) : F_weakest [.d (tD n rs), .d c] = .ex 3 := by simp [F_weakest, c_weakest, check_both_c ht h]
theorem cle_ord : Ord cle := Ord.of kD
theorem cho_find (m : Nat) (p : List Nat → Bool) : (cho m).find? p = match (rws m).filter p with | [] => none | x :: xs => some (minA cle x xs) := by
  unfold cho
  rw [find_min cle_ord fun a _ b _ => cle_anti]
  cases (rws m).filter p <;> rfl
theorem cho_mem {m : Nat} {l : List Nat} : l ∈ cho m ↔ l ∈ rws m := (List.mergeSort_perm _ _).mem_iff
theorem minB_kD (x : List Nat) (xs : List (List Nat)) : minB (kD x :: xs.map kD) = true := by
  have h1 : ∀ l, isNo (kD l) = false := fun _ => rfl
  have h2 : ∀ l, sh 50 (kD l) = true := fun l => sh_kD 48 l
  simp [minB, alB, h1, h2, alike_kD]
theorem min_kD (x : List Nat) (xs : List (List Nat)) : PySem.W.minD (kD x) (xs.map kD) = kD (minA cle x xs) := minD_map kD xs x
theorem eqv_iN (l : List Nat) : PyData.eqv (iD l) .none = false := by unfold iD; simp [PyData.eqv]
theorem eqv_Ni (l : List Nat) : PyData.eqv .none (iD l) = false := by unfold iD; simp [PyData.eqv]
@[simp] theorem sh_opt (n : Nat) (d : Option (List Nat)) : sh (n + 1) (optD d) = true := by cases d <;> simp [optD, iD]
@[simp] theorem eqv_opt (a b : Option (List Nat)) : PyData.eqv (optD a) (optD b) = decide (a = b) := by
  cases a <;> cases b <;> simp [optD, eqv_iD, eqv_iN, eqv_Ni, PyData.eqv]
end Q
namespace Q
open PySem PySem.Spec PyProof.Rows L2
def c__law_reduced : CS := (.cons (.set 1 (.comp false (.call 86 (.cons (.var 0) .nil)) (.nm 7) (.bin .ne (.var 7) (.tup .nil)) (.var 7))) (.cons (.set 2 (.bb .srtSet (.comp false (.var 1) (.nm 7) .yes (.bin .ix (.var 7) (.con (.int 0)))))) (.cons (.set 3 (.lst true .nil)) (.cons (.forS (.var 2) (.nm 4) (.cons (.set 5 (.comp false (.var 2) (.nm 8) (.bin .ne (.var 8) (.var 4)) (.var 8))) (.cons (.set 6 (.comp false (.var 1) (.nm 9) (.bin .eq (.bin .ix (.var 9) (.con (.int 0))) (.var 4)) (.var 9))) (.cons (.ext 3 (.comp false (.var 6) (.nm 9) (.bin .eq (.comp false (.var 5) (.nm 10) (.bin .isin (.var 10) (.var 9)) (.var 10)) (.lst false .nil)) (.var 9))) .nil)))) (.frz 3 (.cons (.ret (.blt .tup (.cons (.var 3) .nil))) .nil))))))
def F__law_reduced : Fn := run [(86, 1, F__law_span)] 11 c__law_reduced
def c__law_mixed : CS := (.cons (.set 2 (.call 85 (.cons (.sl (.var 1) .no (.con (.int 2))) .nil))) (.cons (.ifS (.and (.bin .ne (.var 2) (.tup .nil)) (.not (.call 39 (.cons (.bin .ix (.var 0) (.con (.int 0))) (.cons (.var 1) (.cons (.bin .add (.sl (.var 1) (.con (.int 1)) .no) (.tup (.cons (.var 2) .nil))) .nil)))))) (.cons (.ret (.con (.bool false))) .nil) .nil) (.cons (.ret (.bin .eq (.call 29 (.cons (.var 0) (.cons (.rev (.var 1)) .nil))) (.call 29 (.cons (.var 0) (.cons (.var 1) .nil))))) .nil)))
def F__law_mixed : Fn := run [(29, 2, F_served), (39, 3, F_are_equal), (85, 1, F__law_added)] 3 c__law_mixed
end Q
namespace Q
open PySem PySem.Spec PyProof.Rows L2 GF
/-! ### reduced codes, ranks -/
theorem eqvAll_mD : ∀ {a b : List Nat}, (∀ v ∈ a, v < 64) → (∀ v ∈ b, v < 64) → PyData.eqvAll (a.map mD) (b.map mD) = decide (a = b)
  | [], [], _, _ => by simp
  | [], _ :: _, _, _ => by simp [PyData.eqvAll]
  | _ :: _, [], _, _ => by simp [PyData.eqvAll]
  | x :: a, y :: b, ha, hb => by
    rw [List.map_cons, List.map_cons, eqvAll_cons, eqv_mD (ha x List.mem_cons_self) (hb y List.mem_cons_self), eqvAll_mD (fun v hv => ha v (List.mem_cons_of_mem _ hv)) fun v hv => hb v (List.mem_cons_of_mem _ hv)]
    simp only [List.cons.injEq]
    by_cases h : x = y <;> simp [h]
theorem eqv_cD {a b : List Nat} (ha : ∀ v ∈ a, v < 64) (hb : ∀ v ∈ b, v < 64) : PyData.eqv (cD a) (cD b) = decide (a = b) := by
  unfold cD
  rw [PyData.eqv, eqvAll_mD ha hb]
theorem code_of_eq {b : List Nat} (hb : ∀ v ∈ b, v < 64) : F_code_of [.d (.tuple (nL b))] = .ok (.d (cD b)) := by
  simp [F_code_of, c_code_of]
  rw [cmpL_map nI mD fun v hv => ⟨_, by simp; rfl, by simp [messages_of_eq (hb v hv)]⟩]
  simp [cD]
theorem reduced_eq {n : Nat} {c : List Nat} (h1 : 1 ≤ n) (hn : n ≤ 6) (hc : COk n c) (l : c.length ≤ 8) : F_reduced [.d (nI n), .d (cD c)] = .ok (.d (cD (bas c))) := by
  have hb := (bas_red (hc.lt hn)).lt
  simp [F_reduced, c_reduced, check_messages_eq, btw16 h1 hn, check_code_eq, isCode_cD hn hc l, basis_for_eq (hc.lt hn), code_of_eq hb]
theorem reduced_m {m c : PyData} (h : btw m 1 6 = false) : F_reduced [.d m, .d c] = .ex 2 := by simp [F_reduced, c_reduced, check_messages_eq, h]
theorem reduced_c {n : Nat} {c : PyData} (h1 : 1 ≤ n) (hn : n ≤ 6) (h : isCode n c = false) : F_reduced [.d (nI n), .d c] = .ex 3 := by
  simp [F_reduced, c_reduced, check_messages_eq, btw16 h1 hn, check_code_eq, h]
theorem rank_eq {n : Nat} {c : List Nat} (h1 : 1 ≤ n) (hn : n ≤ 6) (hc : COk n c) (l : c.length ≤ 8) : F_rank [.d (nI n), .d (cD c)] = .ok (.d (nI (bas c).length)) := by
  simp [F_rank, c_rank, check_messages_eq, btw16 h1 hn, check_code_eq, isCode_cD hn hc l, basis_for_eq (hc.lt hn)]
theorem rank_m {m c : PyData} (h : btw m 1 6 = false) : F_rank [.d m, .d c] = .ex 2 := by simp [F_rank, c_rank, check_messages_eq, h]
theorem rank_c {n : Nat} {c : PyData} (h1 : 1 ≤ n) (hn : n ≤ 6) (h : isCode n c = false) : F_rank [.d (nI n), .d c] = .ex 3 := by
  simp [F_rank, c_rank, check_messages_eq, btw16 h1 hn, check_code_eq, h]
theorem are_equal_eq {n : Nat} {c d : List Nat} (h1 : 1 ≤ n) (hn : n ≤ 6) (hc : COk n c) (l : c.length ≤ 8) (hd : COk n d) (l' : d.length ≤ 8) : F_are_equal [.d (nI n), .d (cD c), .d (cD d)] = .ok (.d (.bool (decide (bas c = bas d)))) := by
  simp [F_are_equal, c_are_equal, check_messages_eq, btw16 h1 hn, check_code_eq, isCode_cD hn hc l, isCode_cD hn hd l', basis_for_eq (hc.lt hn), basis_for_eq (hd.lt hn)]
theorem are_equal_m {m c d : PyData} (h : btw m 1 6 = false) : F_are_equal [.d m, .d c, .d d] = .ex 2 := by simp [F_are_equal, c_are_equal, check_messages_eq, h]
theorem are_equal_c {n : Nat} {c d : PyData} (h1 : 1 ≤ n) (hn : n ≤ 6) (h : isCode n c = false) : F_are_equal [.d (nI n), .d c, .d d] = .ex 3 := by
  simp [F_are_equal, c_are_equal, check_messages_eq, btw16 h1 hn, check_code_eq, h]
theorem are_equal_d {n : Nat} {c d : PyData} (h1 : 1 ≤ n) (hn : n ≤ 6) (h : isCode n c = true) (h' : isCode n d = false) : F_are_equal [.d (nI n), .d c, .d d] = .ex 3 := by
  simp [F_are_equal, c_are_equal, check_messages_eq, btw16 h1 hn, check_code_eq, h, h']
/-! ### spans -/
theorem spl_pow : ∀ {c fs d b : List Nat}, SpOk fs d → Red b → (∀ v, GF.Sp b v ↔ GF.Sp d v) → (∀ v ∈ c, v < 64) → fs.length = 2 ^ b.length → (c.foldl spS fs).length = 2 ^ (c.foldl jn b).length
  | [], fs, d, b, _, _, _, _, h => h
  | v :: c, fs, d, b, hs, hb, he, hc, h => by
    have hv := hc v List.mem_cons_self
    have j := jn_ok hb hv
    refine spl_pow (c := c) (hs.step hv) j.1 (fun u => ?_) (fun w hw => hc w (List.mem_cons_of_mem _ hw)) ?_
    · rw [j.2, Sp.cons_iff, Sp.cons_iff, he, he]
    · rw [jn_len]
      have q : v ∈ fs ↔ clr b v = 0 := by rw [hs.mem, ← he, clr_zero hb]
      unfold spS
      by_cases z : v ∈ fs
      · rw [if_pos z, if_pos (q.mp z)]; exact h
      · rw [if_neg z, if_neg (fun y => z (q.mpr y)), List.length_append, List.length_map, h, Nat.pow_succ]; omega
theorem spl_len {c : List Nat} (hc : ∀ v ∈ c, v < 64) : (spl c).length = 2 ^ (bas c).length :=
  spl_pow (b := []) SpOk.nil Red.nil (fun v => Iff.rfl) hc rfl
theorem mle_anti {u v : Nat} (hu : u < 64) (hv : v < 64) (h1 : mle u v = true) (h2 : mle v u = true) : u = v := by
  have := dle_eqv (alike_mD u v) h1 h2
  rw [eqv_mD hu hv] at this
  exact of_decide_eq_true this
theorem mle_ord : Ord mle := Ord.of mD
theorem srt_uniq {α : Type} {le : α → α → Bool} : ∀ {l m : List α}, (∀ a ∈ l, ∀ b ∈ l, le a b = true → le b a = true → a = b) → l.Pairwise (fun a b => le a b = true) → m.Pairwise (fun a b => le a b = true) → l.Perm m → l = m
  | [], m, _, _, _, p => (List.Perm.nil_eq p)
  | x :: l, [], _, _, _, p => by simpa using p.length_eq
  | x :: l, y :: m, an, hl, hm, p => by
    rw [List.pairwise_cons] at hl hm
    have e : x = y := by
      have h1 : y ∈ x :: l := p.mem_iff.mpr List.mem_cons_self
      have h2 : x ∈ y :: m := p.mem_iff.mp List.mem_cons_self
      rcases List.mem_cons.mp h1 with z | z
      · exact z.symm
      · rcases List.mem_cons.mp h2 with z2 | z2
        · exact z2
        · exact an x List.mem_cons_self y h1 (hl.1 y z) (hm.1 x z2)
    subst e
    rw [srt_uniq (fun a ha b hb => an a (List.mem_cons_of_mem _ ha) b (List.mem_cons_of_mem _ hb)) hl.2 hm.2 (List.Perm.cons_inv p)]
def spn (c : List Nat) : List Nat := (spl c).mergeSort mle
theorem spn_lt {c : List Nat} (hc : ∀ v ∈ c, v < 64) : ∀ v ∈ spn c, v < 64 := fun v hv => (spl_ok hc).lt v ((List.mergeSort_perm _ _).mem_iff.mp hv)
theorem spn_nd {c : List Nat} (hc : ∀ v ∈ c, v < 64) : (spn c).Nodup := (List.mergeSort_perm _ _).nodup_iff.mpr (spl_ok hc).nd
theorem spn_pw (c : List Nat) : (spn c).Pairwise fun a b => mle a b = true := List.pairwise_mergeSort (fun a b c h1 h2 => mle_ord.trans a b c h1 h2) (fun a b => mle_ord.total a b) _
theorem mem_spn {c : List Nat} (hc : ∀ v ∈ c, v < 64) (v : Nat) : v ∈ spn c ↔ GF.Sp c v := mem_spl hc v
theorem spn_len {c : List Nat} (hc : ∀ v ∈ c, v < 64) : (spn c).length = 2 ^ (bas c).length := by
  unfold spn
  rw [List.length_mergeSort, spl_len hc]
theorem spn_iff {a b : List Nat} (ha : ∀ v ∈ a, v < 64) (hb : ∀ v ∈ b, v < 64) : spn a = spn b ↔ bas a = bas b := by
  constructor
  · intro h
    refine (bas_red ha).uniq (bas_red hb) fun v => ?_
    rw [bas_sp ha, bas_sp hb, ← mem_spn ha, ← mem_spn hb, h]
  · intro h
    refine srt_uniq (fun x hx y hy => mle_anti (spn_lt ha x hx) (spn_lt ha y hy)) (spn_pw a) (spn_pw b) ((List.perm_ext_iff_of_nodup (spn_nd ha) (spn_nd hb)).mpr fun v => ?_)
    rw [mem_spn ha, mem_spn hb, ← bas_sp ha, ← bas_sp hb, h]
theorem bas_bas {c : List Nat} (hc : ∀ v ∈ c, v < 64) : bas (bas c) = bas c := by
  have r := bas_red hc
  exact (bas_red r.lt).uniq r fun v => bas_sp r.lt v
theorem spn_bas {c : List Nat} (hc : ∀ v ∈ c, v < 64) : spn (bas c) = spn c := (spn_iff (bas_red hc).lt hc).mpr (bas_bas hc)
theorem law_span_eq' {c : List Nat} (hc : ∀ v ∈ c, v < 64) : F__law_span [.d (cD c)] = .ok (.d (.list ((spn c).map mD))) := law_span_eq hc (.inl rfl)
/-! ### the law's own reduced code -/
theorem msgs_hd : ∀ v : Nat, v < 64 → v ≠ 0 → (msgs v)[0]? = some (hd v : Int) := by decide +kernel
theorem mD_ix0 {v : Nat} (h : v < 64) (h0 : v ≠ 0) : f2 .ix (.d (mD v)) (.d (.int 0)) = .ok (.d (nI (hd v))) := by
  have := msgs_hd v h h0
  unfold mD
  cases e : msgs v with
  | nil => rw [e] at this; simp at this
  | cons x xs =>
    rw [e] at this
    simp at this
    subst this
    simp [iL]
theorem single {l : List Nat} {x : Nat} (nd : l.Nodup) (h : ∀ v, v ∈ l ↔ v = x) : l = [x] := by
  cases l with
  | nil => have := (h x).mpr rfl; cases this
  | cons y l =>
    have e : y = x := (h y).mp List.mem_cons_self
    subst e
    cases l with
    | nil => rfl
    | cons z l =>
      have e : z = y := (h z).mp (by simp)
      subst e
      simp at nd
def nzs (c : List Nat) : List Nat := (spn c).filter fun v => decide (v ≠ 0)
theorem the_one {c : List Nat} (hc : ∀ v ∈ c, v < 64) {x : Nat} (hx : x ∈ bas c) :
    ((nzs c).filter fun v => decide (hd v = hd x)).filter (fun v => (((bas c).map hd).filter fun h => !decide (h = hd x)).all fun h => !v.testBit h) = [x] := by
  have r := bas_red hc
  have nd : (nzs c).Nodup := (spn_nd hc).sublist List.filter_sublist
  refine single ((nd.sublist List.filter_sublist).sublist List.filter_sublist) fun v => ?_
  simp only [List.mem_filter, nzs, decide_eq_true_eq, List.all_eq_true, List.mem_map, Bool.not_eq_true', and_imp, forall_exists_index, mem_spn hc, decide_eq_false_iff_not]
  constructor
  · rintro ⟨⟨⟨sv, v0⟩, hv⟩, q⟩
    have vl : v < 64 := Sp.lt (n := 6) (fun x hx => hc x hx) sv
    have xl := r.lt x hx
    have x0 := r.nz x hx
    have z : v ^^^ x = 0 := r.none (Sp.xor ((bas_sp hc v).mpr sv) (Sp.mem hx)) fun y hy => by
      rw [Nat.testBit_xor]
      by_cases e : hd y = hd x
      · rw [e, (hd_spec x0 xl).2.1, ← hv, (hd_spec v0 vl).2.1]; rfl
      · rw [q (hd y) y hy rfl e, r.off hx hy (fun z => e (by rw [z]))]; rfl
    have := congrArg (· ^^^ x) z
    simpa [xor_self_right] using this
  · rintro rfl
    refine ⟨⟨⟨(bas_sp hc v).mp (Sp.mem hx), r.nz v hx⟩, rfl⟩, ?_⟩
    rintro h y hy rfl hne
    exact r.off hx hy fun z => hne (by rw [z])
theorem heads_eq {c : List Nat} (hc : ∀ v ∈ c, v < 64) : QSe.srtI ((nzs c).map fun v => (hd v : Int)) = (bas c).map fun x => (hd x : Int) := by
  have r := bas_red hc
  refine QSe.pw_uniq (QSe.pw_srtI _) ?_ fun j => ?_
  · rw [List.pairwise_map]
    exact r.srt.imp fun h => by omega
  · rw [QSe.mem_srtI, List.mem_map, List.mem_map]
    constructor
    · rintro ⟨v, hv, rfl⟩
      obtain ⟨h1, h2⟩ := List.mem_filter.mp hv
      obtain ⟨x, hx, e⟩ := r.head_mem ((bas_sp hc v).mpr ((mem_spn hc v).mp h1)) (of_decide_eq_true h2)
      exact ⟨x, hx, by rw [e]⟩
    · rintro ⟨x, hx, rfl⟩
      exact ⟨x, List.mem_filter.mpr ⟨(mem_spn hc x).mpr ((bas_sp hc x).mp (Sp.mem hx)), decide_eq_true (r.nz x hx)⟩, rfl⟩
theorem intsOf_map : ∀ l : List Int, intsOf (l.map PyData.int) = some l
  | [] => rfl
  | x :: l => by simp [intsOf, intsOf_map l]
theorem intsOf_nL (l : List Nat) : intsOf (nL l) = some (l.map fun (i : Nat) => (i : Int)) := by
  have := intsOf_map (l.map fun (i : Nat) => (i : Int))
  rwa [List.map_map] at this
theorem mD_nil {v : Nat} (h : v < 64) : PyData.eqv (mD v) (.tuple []) = decide (v = 0) := by
  have := eqv_mD h (v := 0) (by decide)
  rwa [show mD 0 = PyData.tuple [] from rfl] at this
theorem hds_len {c : List Nat} (hc : ∀ v ∈ c, v < 64) : (nzs c).length ≤ 64 := by
  have h1 : (nzs c).length ≤ (spn c).length := List.length_filter_le _ _
  have h2 := (spl_ok hc).len
  unfold spn at h1
  rw [List.length_mergeSort] at h1
  omega
theorem eqv_nLnil (l : List Nat) : PyData.eqvAll (nL l) [] = decide (l = []) := by cases l <;> simp [PyData.eqvAll]
theorem red_loop {c : List Nat} (hc : ∀ v ∈ c, v < 64) {s0 s7 s8 s9 s10 : S} : ∀ {bs fs : List Nat} {s4 s5 s6 : S}, (∀ x ∈ bs, x ∈ bas c) → fs.length + bs.length ≤ 1000 → ∃ t4 t5 t6,
    evFor (.nm 4) (evS [(86, 1, F__law_span)] (.cons (.set 5 (.comp false (.var 2) (.nm 8) (.bin .ne (.var 8) (.var 4)) (.var 8))) (.cons (.set 6 (.comp false (.var 1) (.nm 9) (.bin .eq (.bin .ix (.var 9) (.con (.int 0))) (.var 4)) (.var 9))) (.cons (.ext 3 (.comp false (.var 6) (.nm 9) (.bin .eq (.comp false (.var 5) (.nm 10) (.bin .isin (.var 10) (.var 9)) (.var 10)) (.lst false .nil)) (.var 9))) .nil)))) (nL (bs.map hd)) [s0, .d (.list ((nzs c).map mD)), .d (.list (nL ((bas c).map hd))), .own false (fs.map mD), s4, s5, s6, s7, s8, s9, s10] =
      .nx [s0, .d (.list ((nzs c).map mD)), .d (.list (nL ((bas c).map hd))), .own false ((fs ++ bs).map mD), t4, t5, t6, s7, s8, s9, s10]
  | [], fs, s4, s5, s6, _, _ => ⟨s4, s5, s6, by simp⟩
  | x :: bs, fs, s4, s5, s6, hx, hl => by
    have hz : ∀ v ∈ nzs c, v < 64 ∧ v ≠ 0 := fun v hv => ⟨spn_lt hc v (List.mem_filter.mp hv).1, of_decide_eq_true (List.mem_filter.mp hv).2⟩
    obtain ⟨t4, t5, t6, e⟩ := red_loop hc (s0 := s0) (s7 := s7) (s8 := s8) (s9 := s9) (s10 := s10) (bs := bs) (fs := fs ++ [x]) (s4 := .d (nI (hd x))) (s5 := .d (.list (nL (((bas c).map hd).filter fun h => !decide (h = hd x))))) (s6 := .d (.list (((nzs c).filter fun v => decide (hd v = hd x)).map mD))) (fun y hy => hx y (List.mem_cons_of_mem _ hy)) (by simp at hl ⊢; omega)
    refine ⟨t4, t5, t6, ?_⟩
    have o := the_one hc (hx x List.mem_cons_self)
    simp only [List.map_cons, evFor_nm]
    simp [-List.map_map]
    rw [cmpL_pure nI (fun h => !decide (h = hd x)) nI fun h hh => ⟨_, by simp; rfl, by simp [Int.natCast_inj], fun _ => by simp⟩]
    simp [-List.map_map]
    rw [cmpL_pure mD (fun v => decide (hd v = hd x)) mD fun v hv => ⟨_, by simp; rfl, by simp [mD_ix0 (hz v hv).1 (hz v hv).2, Int.natCast_inj], fun _ => by simp⟩]
    simp [-List.map_map]
    rw [cmpL_pure mD (fun v => (((bas c).map hd).filter fun h => !decide (h = hd x)).all fun h => !v.testBit h) mD fun v hv => ⟨_, by simp; rfl, ?_, fun _ => by simp⟩]
    · rw [o]
      have l1 : fs.length + 1 ≤ 1000000 := by simp at hl; omega
      simp [-List.map_map, l1]
      simp [-List.map_map] at e
      exact e
    · have v64 := (hz v (List.mem_filter.mp hv).1).1
      generalize ((bas c).map hd).filter (fun h => !decide (h = hd x)) = R
      simp
      rw [cmpL_pure nI (fun h => v.testBit h) nI fun h hh => ⟨_, by simp; rfl, by simp [mD, memD_bit v64], fun _ => by simp⟩]
      simp [eqv_nLnil]
      rw [Bool.eq_iff_iff]
      simp
theorem law_reduced_eq {c : List Nat} (hc : ∀ v ∈ c, v < 64) : F__law_reduced [.d (cD c)] = .ok (.d (cD (bas c))) := by
  have hz : ∀ v ∈ nzs c, v < 64 ∧ v ≠ 0 := fun v hv => ⟨spn_lt hc v (List.mem_filter.mp hv).1, of_decide_eq_true (List.mem_filter.mp hv).2⟩
  have r := bas_red hc
  have l6 := r.len6
  simp [F__law_reduced, c__law_reduced, law_span_eq' hc]
  rw [cmpL_pure mD (fun v => decide (v ≠ 0)) mD fun v hv => ⟨_, by simp; rfl, by simp [mD_nil (spn_lt hc v hv)], fun _ => by simp⟩]
  rw [show (spn c).filter (fun v => decide (v ≠ 0)) = nzs c from rfl]
  simp
  rw [cmpL_map mD (fun v => nI (hd v)) fun v hv => ⟨_, by simp; rfl, by simp [mD_ix0 (hz v hv).1 (hz v hv).2]⟩]
  have e1 : (nzs c).map (fun v => nI (hd v)) = nL ((nzs c).map hd) := by simp
  have e2 := heads_eq hc
  have l1 := hds_len hc
  have g1 : (nzs c).length ≤ 4000 := by omega
  have g2 : (bas c).length < 64 := by omega
  have q : fSrtSet (intsOf (nL ((nzs c).map hd))) = .ok (.d (.list (nL ((bas c).map hd)))) := by
    rw [intsOf_nL, List.map_map, show ((fun (i : Nat) => (i : Int)) ∘ hd) = fun v => (hd v : Int) from rfl]
    unfold fSrtSet
    simp only [e2, List.length_map]
    simp [g1, g2]
  rw [e1]
  simp [-List.map_map, q]
  obtain ⟨t4, t5, t6, e⟩ := red_loop hc (s0 := .d (cD c)) (s4 := .no) (s5 := .no) (s6 := .no) (s7 := .no) (s8 := .no) (s9 := .no) (s10 := .no) (bs := bas c) (fs := []) (fun _ h => h) (by simp; omega)
  simp [-List.map_map] at e
  rw [e]
  simp [cD]
end Q
namespace Q
open PySem PySem.Spec PyProof.Rows L2 GF
/-! ### decoders -/
def gt (c : List Nat) (i : Nat) : Nat := c.getD i 0
theorem gt_of {c : List Nat} {i : Nat} (h : i < c.length) : gt c i = c[i] := by unfold gt; rw [List.getD_eq_getElem?_getD, List.getElem?_eq_getElem h]; rfl
def pick (c l : List Nat) : List Nat := l.map (gt c)
def dcd (r : Rn) (v : Nat) : Bool := v.testBit r.1 && decide (((msgs v).filter fun x => !decide (x = (r.1 : Int)) && !decide (x ∈ msgs r.2)) = [])
def dec (c : List Nat) (r : Rn) (l : List Nat) : Bool := dcd r (xorL (pick c l) 0)
theorem dcd_iff {r : Rn} {v : Nat} (hv : v < 64) (hk : r.2 < 64) : dcd r v = true ↔ v.testBit r.1 = true ∧ ∀ i, i ≠ r.1 → v.testBit i = true → r.2.testBit i = true := by
  unfold dcd
  rw [Bool.and_eq_true, decide_eq_true_eq, rest_nil hv hk]
theorem xorL_lt {c : List Nat} {n : Nat} (h : ∀ v ∈ c, v < 2 ^ n) : ∀ {a : Nat}, a < 2 ^ n → xorL c a < 2 ^ n := by
  induction c with
  | nil => intro a ha; exact ha
  | cons x c ih =>
    intro a ha
    exact ih (fun v hv => h v (List.mem_cons_of_mem _ hv)) (Nat.xor_lt_two_pow ha (h x List.mem_cons_self))
theorem pick_lt {c l : List Nat} (h : ∀ v ∈ c, v < 64) : ∀ v ∈ pick c l, v < 64 := fun v hv => by
  obtain ⟨i, _, rfl⟩ := List.mem_map.mp hv
  by_cases q : i < c.length
  · rw [gt_of q]; exact h _ (List.getElem_mem q)
  · unfold gt; simp [show c[i]? = none from List.getElem?_eq_none (by omega)]
theorem ix_map {α : Type} (enc : α → PyData) {l : List α} {i : Nat} {x : α} (h : l[i]? = some x) : f2 .ix (.d (.tuple (l.map enc))) (.d (nI i)) = .ok (.d (enc x)) := by
  rw [show f2 .ix (.d (.tuple (l.map enc))) (.d (nI i)) = optR (atI (l.map enc) (i : Int)) .d from rfl]
  have e : atI (l.map enc) (i : Int) = some (enc x) := by
    have hi : i < l.length := (List.getElem?_eq_some_iff.mp h).1
    unfold atI L2.ixN
    simp [hi]
    rw [List.getElem?_eq_getElem hi] at h
    rw [Option.some.inj h]
  rw [e]
  rfl
theorem cD_ix {c : List Nat} {i : Nat} (h : i < c.length) : f2 .ix (.d (cD c)) (.d (nI i)) = .ok (.d (mD (gt c i))) := by
  unfold cD
  rw [ix_map mD (List.getElem?_eq_getElem h), gt_of h]
theorem tD_ixr {rs : List Rn} {a : Nat} {r : Rn} (h : rs[a]? = some r) : f2 .ix (.d (.tuple (rs.map rD))) (.d (nI a)) = .ok (.d (rD r)) := ix_map rD h
theorem law_decodes_eq {n a : Nat} {rs : List Rn} {c l : List Nat} {r : Rn} (hr : rs[a]? = some r) (hk : r.2 < 64) (hc : ∀ v ∈ c, v < 64) (hl : ∀ i ∈ l, i < c.length) : F__law_decodes [.d (tD n rs), .d (cD c), .d (nI a), .d (iD l)] = .ok (.d (.bool (dec c r l))) := by
  have hp := pick_lt (l := l) hc
  have ha := added_eq hp (.inr rfl)
  have hx : xorL (pick c l) 0 < 64 := xorL_lt (n := 6) hp (by decide)
  simp [F__law_decodes, c__law_decodes, tD_ixr hr, rD]
  rw [show fSeq (.d (iD l)) = .ok (nL l) from rfl]
  simp
  rw [cmpL_map nI (fun i => mD (gt c i)) fun i hi => ⟨_, by simp; rfl, by simp [cD_ix (hl i hi)]⟩]
  rw [show (l.map fun i => mD (gt c i)) = (pick c l).map mD by simp [pick]]
  simp [ha]
  simp only [mD]
  rw [cmpL_pure PyData.int (fun x => !decide (x = (r.1 : Int)) && !decide (x ∈ msgs r.2)) PyData.int fun x hx => ⟨_, by simp; rfl, ?_, fun _ => by simp⟩]
  · have hmb := memD_bit (m := r.1) hx
    have ee := eqvAll_ints ((msgs (xorL (pick c l) 0)).filter fun x => !decide (x = (r.1 : Int)) && !decide (x ∈ msgs r.2)) []
    simp only [iL, List.map_nil] at ee
    simp [hmb, dec, dcd, ee]
    cases (xorL (pick c l) 0).testBit r.1 <;> simp
  · simp [memD_ints]
    by_cases z : x = (r.1 : Int) <;> simp [z]
theorem dec_loop {c : List Nat} (hc : ∀ v ∈ c, v < 64) {T : Tab} {s0 s2 s3 s4 s5 s8 s9 : S} (hT : ∀ v : Nat, v < 64 → fCall T 6 (.ok [.d (mD v)]) = .ok (.d (nI v))) : ∀ {l : List Nat} {s7 : S} {a : Nat}, a < 64 → (∀ i ∈ l, i < c.length) → ∃ t7,
    evFor (.nm 7) (evS T (.cons (.aug .xor 6 (.call 6 (.cons (.bin .ix (.var 1) (.var 7)) .nil))) .nil)) (nL l) [s0, .d (cD c), s2, s3, s4, s5, .d (nI a), s7, s8, s9] = .nx [s0, .d (cD c), s2, s3, s4, s5, .d (nI (xorL (pick c l) a)), t7, s8, s9]
  | [], s7, a, _, _ => ⟨s7, rfl⟩
  | i :: l, s7, a, ha, hl => by
    have hi := hl i List.mem_cons_self
    have hv : gt c i < 64 := by
      rw [gt_of hi]
      exact hc _ (List.getElem_mem hi)
    obtain ⟨t7, e⟩ := dec_loop hc hT (s0 := s0) (s2 := s2) (s3 := s3) (s4 := s4) (s5 := s5) (s8 := s8) (s9 := s9) (l := l) (s7 := .d (nI i)) (a := a ^^^ gt c i) (Nat.xor_lt_two_pow (n := 6) ha hv) fun j hj => hl j (List.mem_cons_of_mem _ hj)
    refine ⟨t7, ?_⟩
    rw [show nL (i :: l) = nI i :: nL l from rfl, evFor_nm]
    simp [cD_ix hi, hT _ hv, xor_eq ha hv]
    exact e
theorem does_decode_eq {n a : Nat} {rs : List Rn} {c l : List Nat} {r : Rn} (hr : rs[a]? = some r) (hk : r.2 < 64) (hc : ∀ v ∈ c, v < 64) (hl : ∀ i ∈ l, i < c.length) : F_does_decode [.d (tD n rs), .d (cD c), .d (nI a), .d (iD l)] = .ok (.d (.bool (dec c r l))) := by
  have hp := pick_lt (l := l) hc
  have hx : xorL (pick c l) 0 < 64 := xorL_lt (n := 6) hp (by decide)
  simp [F_does_decode, c_does_decode, tD_ixr hr, rD]
  rw [show fSeq (.d (iD l)) = .ok (nL l) from rfl]
  simp
  obtain ⟨t7, e⟩ := dec_loop hc (T := [(6, 1, F_number_of), (7, 1, F_messages_of)]) (s0 := .d (tD n rs)) (s2 := .d (nI a)) (s3 := .d (iD l)) (s4 := .d (nI r.1)) (s5 := .d (mD r.2)) (s8 := .no) (s9 := .no) (fun v hv => by simp [number_of_eq hv]) (l := l) (s7 := .no) (a := 0) (by decide) hl
  rw [show PyData.int 0 = nI 0 from rfl, e]
  simp [messages_of_eq hx]
  simp only [mD]
  rw [cmpL_map PyData.int (fun x => .bool (decide (x = (r.1 : Int)) || decide (x ∈ msgs r.2))) fun x hx => ⟨_, by simp; rfl, ?_⟩]
  · have hmb := memD_bit (m := r.1) hx
    have e1 : (((msgs (xorL (pick c l) 0)).map fun x => PyData.bool (decide (x = (r.1 : Int)) || decide (x ∈ msgs r.2))).all isB) = true := by simp [isB]
    have e2 : (((msgs (xorL (pick c l) 0)).map fun x => PyData.bool (decide (x = (r.1 : Int)) || decide (x ∈ msgs r.2))).all tru) = decide (((msgs (xorL (pick c l) 0)).filter fun x => !decide (x = (r.1 : Int)) && !decide (x ∈ msgs r.2)) = []) := by
      rw [Bool.eq_iff_iff, decide_eq_true_eq, List.filter_eq_nil_iff]
      simp [tru]
      exact ⟨fun h x hx n => (h x hx).resolve_left n, fun h x hx => Decidable.or_iff_not_imp_left.mpr (h x hx)⟩
    simp only [Rs.th_ok, e1, e2, gd_t]
    simp [hmb, dec, dcd]
    cases (xorL (pick c l) 0).testBit r.1 <;> simp
  · simp [memD_ints]
    by_cases z : x = (r.1 : Int) <;> simp [z]
/-! ### decoder, is_decoder -/
theorem check_receiver_eq {n : Nat} {rs : List Rn} (x : PyData) : F_check_receiver [.d (tD n rs), .d x] = if btw x 0 ((rs.length : Int) - 1) = true then .ok (.d .none) else .ex 5 := by
  simp [F_check_receiver, c_check_receiver, is_between_eq]
  cases btw x 0 ((rs.length : Int) - 1) <;> simp
theorem check_receiver_ok {n a : Nat} {rs : List Rn} (h : a < rs.length) : F_check_receiver [.d (tD n rs), .d (nI a)] = .ok (.d .none) := by
  rw [check_receiver_eq, if_pos]
  simp [btw]; omega
def fdec (c : List Nat) (r : Rn) : Option (List Nat) := (cho c.length).find? (dec c r)
theorem decoder_loop {n a : Nat} {rs : List Rn} {c : List Nat} {r : Rn} (hr : rs[a]? = some r) (hk : r.2 < 64) (hc : ∀ v ∈ c, v < 64) {T : Tab} (hT : ∀ l : List Nat, (∀ i ∈ l, i < c.length) → fCall T 33 (.ok [.d (tD n rs), .d (cD c), .d (nI a), .d (iD l)]) = .ok (.d (.bool (dec c r l)))) : ∀ (ls : List (List Nat)), (∀ l ∈ ls, ∀ i ∈ l, i < c.length) → ∀ {s : S}, ∃ t,
    evFor (.nm 3) (evS T (.cons (.ifS (.call 33 (.cons (.var 0) (.cons (.var 1) (.cons (.var 2) (.cons (.var 3) .nil))))) (.cons (.ret (.var 3)) .nil) .nil) .nil)) (ls.map iD) [.d (tD n rs), .d (cD c), .d (nI a), s] =
      (match ls.find? (dec c r) with | some l => .rt (.d (iD l)) | none => .nx [.d (tD n rs), .d (cD c), .d (nI a), t])
  | [], _, s => ⟨s, rfl⟩
  | l :: ls, h, s => by
    obtain ⟨t, e⟩ := decoder_loop hr hk hc hT ls (fun l hl => h l (List.mem_cons_of_mem _ hl)) (s := .d (iD l))
    refine ⟨t, ?_⟩
    rw [List.map_cons, evFor_nm]
    cases q : dec c r l with
    | true => simp [hT l (h l List.mem_cons_self), q]
    | false =>
      simp [hT l (h l List.mem_cons_self), q]
      rw [e]
theorem decoder_eq {n a : Nat} {rs : List Rn} {c : List Nat} {r : Rn} (ht : TOk n rs) (hc : COk n c) (l : c.length ≤ 8) (hr : rs[a]? = some r) : F_decoder [.d (tD n rs), .d (cD c), .d (nI a)] = .ok (.d (optD (fdec c r))) := by
  have hk := (ht.lt r (List.mem_of_getElem? hr)).2
  have ha : a < rs.length := (List.getElem?_eq_some_iff.mp hr).1
  have hc6 := hc.lt ht.n6
  obtain ⟨t, e⟩ := decoder_loop (n := n) hr hk hc6 (T := [(28, 2, F_check_both), (32, 2, F_check_receiver), (33, 4, F_does_decode), (34, 1, F_choices_of)]) (fun l hl => by simp [does_decode_eq hr hk hc6 hl]) (cho c.length) (fun l hl => (mem_rws.mp (cho_mem.mp hl)).2) (s := .no)
  simp [F_decoder, c_decoder, check_both_ok ht hc l, check_receiver_ok ha, choices_eq l]
  rw [e]
  unfold fdec
  cases (cho c.length).find? (dec c r) <;> simp [optD]
theorem decoder_t {t c x : PyData} (h : isTask t = false) : F_decoder [.d t, .d c, .d x] = .ex 1 := by simp [F_decoder, c_decoder, check_both_t h]
theorem decoder_c {n : Nat} {rs : List Rn} {c x : PyData} (ht : TOk n rs) (h : isCode n c = false) : F_decoder [.d (tD n rs), .d c, .d x] = .ex 3 := by simp [F_decoder, c_decoder, check_both_c ht h]
theorem decoder_r {n : Nat} {rs : List Rn} {c : List Nat} {x : PyData} (ht : TOk n rs) (hc : COk n c) (l : c.length ≤ 8) (h : btw x 0 ((rs.length : Int) - 1) = false) : F_decoder [.d (tD n rs), .d (cD c), .d x] = .ex 5 := by
  simp [F_decoder, c_decoder, check_both_ok ht hc l, check_receiver_eq, h]
theorem is_decoder_t {t c x y : PyData} (h : isTask t = false) : F_is_decoder [.d t, .d c, .d x, .d y] = .ex 1 := by simp [F_is_decoder, c_is_decoder, check_both_t h]
theorem is_decoder_c {n : Nat} {rs : List Rn} {c x y : PyData} (ht : TOk n rs) (h : isCode n c = false) : F_is_decoder [.d (tD n rs), .d c, .d x, .d y] = .ex 3 := by simp [F_is_decoder, c_is_decoder, check_both_c ht h]
theorem is_decoder_r {n : Nat} {rs : List Rn} {c : List Nat} {x y : PyData} (ht : TOk n rs) (hc : COk n c) (l : c.length ≤ 8) (h : btw x 0 ((rs.length : Int) - 1) = false) : F_is_decoder [.d (tD n rs), .d (cD c), .d x, .d y] = .ex 5 := by
  simp [F_is_decoder, c_is_decoder, check_both_ok ht hc l, check_receiver_eq, h]
/-- a value that is an ascending tuple of indices -/
def isIx (m : Nat) (x : PyData) : Bool := areM m x
theorem isIx_iff {m : Nat} {x : PyData} : isIx m x = true ↔ ∃ l ∈ rws m, x = iD l := by
  unfold isIx
  constructor
  · intro h
    cases x with
    | tuple xs =>
      have h' := h
      simp only [areM, Bool.and_eq_true] at h'
      have nn : ∃ l : List Nat, xs = nL l := by
        have := h'.1
        clear h h'
        induction xs with
        | nil => exact ⟨[], rfl⟩
        | cons y xs ih =>
          rw [List.all_cons, Bool.and_eq_true] at this
          obtain ⟨l, rfl⟩ := ih this.2
          cases y with
          | int i =>
            have q := this.1
            simp only [btw, Bool.and_eq_true, decide_eq_true_eq] at q
            exact ⟨i.toNat :: l, by simp only [nL, List.map_cons, nI]; rw [Int.toNat_of_nonneg q.1]⟩
          | _ => simp [btw] at this
      obtain ⟨l, rfl⟩ := nn
      refine ⟨l, mem_rws.mpr ?_, rfl⟩
      rw [show nL l = iL (l.map fun (i : Nat) => (i : Int)) by simp [iL, nL]] at h
      have q := areM_ints.mp h
      refine ⟨?_, fun i hi => ?_⟩
      · have := q.up
        rw [List.pairwise_map] at this
        exact this.imp fun z => by omega
      · have := (q.bd (i : Int) (List.mem_map.mpr ⟨i, hi, rfl⟩)).2
        omega
    | _ => cases h
  · rintro ⟨l, hl, rfl⟩
    obtain ⟨h1, h2⟩ := mem_rws.mp hl
    rw [show iD l = .tuple (iL (l.map fun (i : Nat) => (i : Int))) by simp [iD, iL, nL]]
    refine areM_ints.mpr ⟨fun i hi => ?_, ?_⟩
    · obtain ⟨j, hj, rfl⟩ := List.mem_map.mp hi
      have := h2 j hj
      omega
    · rw [List.pairwise_map]
      exact h1.imp fun z => by omega
theorem is_decoder_eq {n a : Nat} {rs : List Rn} {c : List Nat} {r : Rn} (ht : TOk n rs) (hc : COk n c) (l : c.length ≤ 8) (hr : rs[a]? = some r) (x : PyData) : ∃ b, F_is_decoder [.d (tD n rs), .d (cD c), .d (nI a), .d x] = .ok (.d (.bool b)) ∧ (b = true ↔ ∃ l ∈ rws c.length, x = iD l ∧ dec c r l = true) := by
  have hk := (ht.lt r (List.mem_of_getElem? hr)).2
  have ha : a < rs.length := (List.getElem?_eq_some_iff.mp hr).1
  have hc6 := hc.lt ht.n6
  by_cases q : isIx c.length x = true
  · obtain ⟨l', hl', rfl⟩ := isIx_iff.mp q
    refine ⟨dec c r l', ?_, fun h => ⟨l', hl', rfl, h⟩, ?_⟩
    · have q' := q
      unfold isIx at q'
      simp only [iD, areM, Bool.and_eq_true] at q'
      have h1 : (nL l').all isI = true := by simp [isI]
      have dd := does_decode_eq (n := n) hr hk hc6 (mem_rws.mp hl').2
      unfold iD at dd
      simp [F_is_decoder, c_is_decoder, check_both_ok ht hc l, check_receiver_ok ha, iD, isaT]
      rw [cmpL_mapD (fun x => .bool (btw x 0 ((c.length : Int) - 1))) fun x hx => ⟨_, by simp; rfl, by simp [is_between_eq]⟩]
      have e1 : ((nL l').map fun x => PyData.bool (btw x 0 ((c.length : Int) - 1))).all isB = true := by simp [isB]
      have e2 : ((nL l').map fun x => PyData.bool (btw x 0 ((c.length : Int) - 1))).all tru = true := by
        rw [List.all_map]
        simpa [Function.comp_def, tru] using q'.1
      simp only [Rs.th_ok, e1, e2, gd_t]
      simp [is_ascending_eq h1, q'.2, dd]
    · rintro ⟨l2, _, e, h⟩
      have : l' = l2 := by
        have e' := congrArg (fun z => PyData.eqv (iD l') z) e
        simp only [eqv_iD] at e'
        simpa using e'.symm
      rw [this]; exact h
  · have q : isIx c.length x = false := by simpa using q
    refine ⟨false, ?_, fun h => (by cases h), fun ⟨l', hl', e, _⟩ => absurd (isIx_iff.mpr ⟨l', hl', e⟩) (by simp [q])⟩
    cases x with
    | tuple xs =>
      unfold isIx at q
      simp only [areM, Bool.and_eq_false_iff] at q
      simp [F_is_decoder, c_is_decoder, check_both_ok ht hc l, check_receiver_ok ha, isaT]
      rw [cmpL_mapD (fun x => .bool (btw x 0 ((c.length : Int) - 1))) fun x hx => ⟨_, by simp; rfl, by simp [is_between_eq]⟩]
      have e1 : (xs.map fun x => PyData.bool (btw x 0 ((c.length : Int) - 1))).all isB = true := by simp [isB]
      have e2 : (xs.map fun x => PyData.bool (btw x 0 ((c.length : Int) - 1))).all tru = xs.all fun x => btw x 0 ((c.length : Int) - 1) := by
        rw [List.all_map]
        rfl
      simp only [Rs.th_ok, e1, e2, gd_t]
      cases z : xs.all fun x => btw x 0 ((c.length : Int) - 1) with
      | false => simp
      | true =>
        rw [z] at q
        have q2 : asc xs = false := by simpa using q
        have h1 : xs.all isI = true := List.all_eq_true.mpr fun y hy => by
          have := List.all_eq_true.mp z y hy
          cases y <;> simp [btw, isI] at *
        simp [is_ascending_eq h1, q2]
    | _ => simp [F_is_decoder, c_is_decoder, check_both_ok ht hc l, check_receiver_ok ha, isaT]
end Q
namespace Q
open PySem PySem.Spec PyProof.Rows L2 GF
/-! ### sums of a code -/
theorem xorL_app (a : List Nat) (x b : Nat) : xorL (a ++ [x]) b = xorL a b ^^^ x := by unfold xorL; rw [List.foldl_append]; rfl
theorem gt_app {c : List Nat} {x i : Nat} (h : i < c.length) : gt (c ++ [x]) i = gt c i := by
  rw [gt_of h, gt_of (by simp; omega), List.getElem_append_left h]
theorem pick_app {c l : List Nat} {x : Nat} (h : ∀ i ∈ l, i < c.length) : pick (c ++ [x]) l = pick c l := by
  unfold pick
  exact List.map_congr_left fun i hi => gt_app (h i hi)
theorem pick_end {c l : List Nat} {x : Nat} (h : ∀ i ∈ l, i < c.length) : pick (c ++ [x]) (l ++ [c.length]) = pick c l ++ [x] := by
  have e : pick (c ++ [x]) (l ++ [c.length]) = pick (c ++ [x]) l ++ [gt (c ++ [x]) c.length] := by unfold pick; rw [List.map_append]; rfl
  rw [e, pick_app h, gt_of (by simp)]
  simp
theorem pick_sp : ∀ {l c : List Nat} {a : Nat}, (∀ i ∈ l, i < c.length) → GF.Sp c a → GF.Sp c (xorL (pick c l) a)
  | [], c, a, _, h => h
  | i :: l, c, a, hl, h => by
    have hi := hl i List.mem_cons_self
    exact pick_sp (l := l) (fun j hj => hl j (List.mem_cons_of_mem _ hj)) (h.xor (Sp.mem (by rw [gt_of hi]; exact List.getElem_mem hi)))
theorem bas_app (c : List Nat) (x : Nat) : bas (c ++ [x]) = jn (bas c) x := by unfold bas; rw [List.foldl_append]; rfl
theorem sp_app {c : List Nat} {x v : Nat} : GF.Sp (c ++ [x]) v ↔ GF.Sp c v ∨ GF.Sp c (v ^^^ x) := by
  rw [Sp.perm (List.perm_append_comm : (c ++ [x]).Perm ([x] ++ c))]
  exact Sp.cons_iff
/-- a sum of the code's sums is one of few of them -/
theorem sp_pick : ∀ (m : Nat) {c : List Nat} {v : Nat}, c.length = m → (∀ x ∈ c, x < 64) → GF.Sp c v → ∃ l ∈ rws c.length, xorL (pick c l) 0 = v ∧ l.length ≤ (bas c).length
  | 0, c, v, h, _, s => by
    have : c = [] := by cases c <;> simp at h ⊢
    subst this
    exact ⟨[], by simp [rws], s.symm, by simp⟩
  | m + 1, c, v, h, hc, s => by
    rcases List.eq_nil_or_concat c with rfl | ⟨d, x, rfl⟩
    · simp at h
    · rw [List.concat_eq_append] at *
      have hm : d.length = m := by simpa using h
      have hd : ∀ y ∈ d, y < 64 := fun y hy => hc y (by simp [hy])
      have hx : x < 64 := hc x (by simp)
      have r := bas_red hd
      have bl := jn_len (bas d) x
      have key : ∀ l ∈ rws d.length, l ∈ rws (d ++ [x]).length := fun l hl => by
        obtain ⟨h1, h2⟩ := mem_rws.mp hl
        exact mem_rws.mpr ⟨h1, fun i hi => by have := h2 i hi; simp; omega⟩
      have up : ∀ l ∈ rws d.length, l ++ [d.length] ∈ rws (d ++ [x]).length := fun l hl => by
        have : (d ++ [x]).length = d.length + 1 := by simp
        rw [this, rws]
        exact List.mem_append.mpr (.inr (List.mem_map.mpr ⟨l, hl, rfl⟩))
      by_cases q : clr (bas d) x = 0
      · have sx : GF.Sp d x := (bas_sp hd x).mp ((clr_zero r).mp q)
        have sv : GF.Sp d v := by
          rcases sp_app.mp s with z | z
          · exact z
          · have := z.xor sx
            rwa [xor_self_right] at this
        obtain ⟨l, h1, h2, h3⟩ := sp_pick m hm hd sv
        refine ⟨l, key l h1, by rw [pick_app (mem_rws.mp h1).2]; exact h2, ?_⟩
        rw [bas_app, bl, if_pos q]; exact h3
      · rcases sp_app.mp s with z | z
        · obtain ⟨l, h1, h2, h3⟩ := sp_pick m hm hd z
          refine ⟨l, key l h1, by rw [pick_app (mem_rws.mp h1).2]; exact h2, ?_⟩
          rw [bas_app, bl, if_neg q]; omega
        · obtain ⟨l, h1, h2, h3⟩ := sp_pick m hm hd z
          refine ⟨l ++ [d.length], up l h1, ?_, ?_⟩
          · rw [pick_end (mem_rws.mp h1).2, xorL_app, h2, xor_self_right]
          · rw [bas_app, bl, if_neg q]; simp; omega
theorem cle_len {a b : List Nat} (h : cle a b = true) : a.length ≤ b.length := by
  unfold cle kD at h
  rw [dle_iff] at h
  simp only [PySem.W.keyToks, PySem.W.keyToksAll, List.cons_append, List.nil_append] at h
  rw [Bool.not_eq_true', PyProof.Rows.lex_self, PyProof.Rows.lex_false] at h
  have h1 : decide ((b.length : Int) < (a.length : Int)) = false := h.1
  have := of_decide_eq_false h1
  omega
/-- the first decoder is no longer than the rank -/
theorem fdec_iff {n : Nat} {c : List Nat} {r : Rn} (hc : ∀ x ∈ c, x < 64) (hk : r.2 < 64) (nw : r.2.testBit r.1 = false) : (fdec c r).isSome = tld (bas c) r.2 r.1 := by
  rw [Bool.eq_iff_iff, tld_iff (bas_red hc).lt]
  unfold fdec
  rw [List.find?_isSome]
  constructor
  · rintro ⟨l, hl, h⟩
    have hl' := cho_mem.mp hl
    have hx : xorL (pick c l) 0 < 64 := xorL_lt (n := 6) (pick_lt hc) (by decide)
    obtain ⟨h1, h2⟩ := (dcd_iff hx hk).mp h
    exact .inr ⟨_, (bas_sp hc _).mpr (pick_sp (mem_rws.mp hl').2 (Sp.zero c)), h1, h2⟩
  · rintro (h | ⟨v, s, h1, h2⟩)
    · rw [nw] at h; cases h
    · obtain ⟨l, hl, e, _⟩ := sp_pick _ rfl hc ((bas_sp hc v).mp s)
      have hv : v < 64 := Sp.lt (n := 6) (fun x hx => hc x hx) ((bas_sp hc v).mp s)
      exact ⟨l, cho_mem.mpr hl, by unfold dec; rw [e]; exact (dcd_iff hv hk).mpr ⟨h1, h2⟩⟩
theorem fdec_len {c : List Nat} {r : Rn} {l : List Nat} (hc : ∀ x ∈ c, x < 64) (hk : r.2 < 64) (h : fdec c r = some l) : l ∈ rws c.length ∧ dec c r l = true ∧ l.length ≤ (bas c).length := by
  unfold fdec cho at h
  obtain ⟨h1, h2, h3⟩ := find_srt cle_ord h
  refine ⟨h1, h2, ?_⟩
  obtain ⟨l', hl', e, hb⟩ := sp_pick _ rfl hc (pick_sp (mem_rws.mp h1).2 (Sp.zero c))
  have := cle_len (h3 l' hl' (by unfold dec at h2 ⊢; rw [e]; exact h2))
  omega
theorem bas_congr {a b : List Nat} (ha : ∀ x ∈ a, x < 64) (hb : ∀ x ∈ b, x < 64) (h : ∀ v, GF.Sp a v ↔ GF.Sp b v) : bas a = bas b :=
  (bas_red ha).uniq (bas_red hb) fun v => by rw [bas_sp ha, bas_sp hb]; exact h v
theorem bas_ok {n : Nat} {c : List Nat} (hn : n ≤ 6) (hc : COk n c) : COk n (bas c) := ⟨fun v hv => ⟨(bas_red (hc.lt hn)).nz v hv, Sp.lt (fun x hx => (hc.ok x hx).2) ((bas_sp (hc.lt hn) v).mp (Sp.mem hv))⟩⟩
theorem mem_whr {α : Type} {f : α → Bool} {l : List α} {i : Nat} : i ∈ whr f l ↔ ∃ x, l[i]? = some x ∧ f x = true := by
  unfold whr
  simp only [List.mem_map, List.mem_filter, Prod.exists, exists_eq_right]
  constructor
  · rintro ⟨x, h1, h2⟩
    exact ⟨x, List.mem_zipIdx_iff_getElem?.mp h1, h2⟩
  · rintro ⟨x, h1, h2⟩
    exact ⟨x, List.mem_zipIdx_iff_getElem?.mpr h1, h2⟩
theorem srv_mono {rs : List Rn} {a b : List Nat} (ha : ∀ x ∈ a, x < 64) (hb : ∀ x ∈ b, x < 64) (h : ∀ v, GF.Sp a v → GF.Sp b v) : ∀ i ∈ srv rs a, i ∈ srv rs b := fun i hi => by
  obtain ⟨r, h1, h2⟩ := mem_whr.mp hi
  exact mem_whr.mpr ⟨r, h1, (tld_iff hb).mpr (((tld_iff ha).mp h2).mono h)⟩
theorem COk.app {n : Nat} {a b : List Nat} (ha : COk n a) (hb : COk n b) : COk n (a ++ b) := ⟨fun v hv => (List.mem_append.mp hv).elim (ha.ok v) (hb.ok v)⟩
theorem COk.take {n k : Nat} {a : List Nat} (ha : COk n a) : COk n (a.take k) := ⟨fun v hv => ha.ok v (List.mem_of_mem_take hv)⟩
theorem COk.rev {n : Nat} {a : List Nat} (ha : COk n a) : COk n a.reverse := ⟨fun v hv => ha.ok v (List.mem_reverse.mp hv)⟩
theorem cD_rev (c : List Nat) : fRev (.d (cD c)) = .ok (.d (cD c.reverse)) := by unfold cD; simp
theorem cD_to (c : List Nat) (k : Nat) : fSl (.d (cD c)) none (some (k : Int)) = .ok (.d (cD (c.take k))) := by
  have e : Q.cutD (c.map mD) none (some (k : Int)) = (c.take k).map mD := by
    unfold Q.cutD
    rw [show HT.sIx (c.map mD).length 0 none = 0 from rfl, HT.sIx_nat, List.drop_zero, Nat.sub_zero, List.map_take, List.length_map]
    by_cases h : k ≤ c.length
    · rw [Nat.min_eq_left h]
    · rw [Nat.min_eq_right (by omega), List.take_of_length_le (by simp), List.take_of_length_le (by simp; omega)]
  unfold cD
  rw [← e]
  rfl
theorem cD_from (c : List Nat) (k : Nat) : fSl (.d (cD c)) (some (k : Int)) none = .ok (.d (cD (c.drop k))) := by
  have e : Q.cutD (c.map mD) (some (k : Int)) none = (c.drop k).map mD := by
    unfold Q.cutD
    rw [show HT.sIx (c.map mD).length (c.map mD).length none = (c.map mD).length from rfl, HT.sIx_nat, List.map_drop, List.length_map]
    by_cases h : k ≤ c.length
    · rw [Nat.min_eq_left h, List.take_of_length_le (by simp)]
    · rw [Nat.min_eq_right (by omega), List.drop_of_length_le (by simp), List.drop_of_length_le (by simp; omega), List.take_nil]
  unfold cD
  rw [← e]
  rfl
theorem cD_add {a b : List Nat} (h : a.length + b.length ≤ 1000) : f2 .add (.d (cD a)) (.d (cD b)) = .ok (.d (cD (a ++ b))) := by
  have lk : lenOk (a.length + b.length) = true := by simp [lenOk]; omega
  unfold cD
  simp [lk]
theorem law_mixed_eq {n : Nat} {rs : List Rn} {c : List Nat} (ht : TOk n rs) (hc : COk n c) (l : c.length ≤ 8) (l2 : 1 < c.length) : F__law_mixed [.d (tD n rs), .d (cD c)] = .ok (.d (.bool true)) := by
  have h1 := ht.n1
  have h6 := ht.n6
  have hc6 := hc.lt h6
  have sr := served_eq ht hc.rev (by simpa using l)
  have eb : bas c.reverse = bas c := bas_congr (hc.rev.lt h6) hc6 fun v => Sp.perm (List.reverse_perm c)
  rw [eb] at sr
  have ha := added_eq (vs := c.take 2) (fun v hv => hc6 v (List.mem_of_mem_take hv)) (.inl rfl)
  rw [show PyData.tuple ((c.take 2).map mD) = cD (c.take 2) from rfl] at ha
  have hx : xorL (c.take 2) 0 < 2 ^ n := xorL_lt (fun v hv => (hc.ok v (List.mem_of_mem_take hv)).2) (Nat.two_pow_pos n)
  have c2 := cD_to c 2
  have c1 := cD_from c 1
  simp only [show ((2 : Nat) : Int) = 2 from rfl, show ((1 : Nat) : Int) = 1 from rfl] at c1 c2
  have ad := cD_add (a := c.drop 1) (b := [xorL (c.take 2) 0]) (by simp; omega)
  have m1 : PyData.tuple [mD (xorL (c.take 2) 0)] = cD [xorL (c.take 2) 0] := rfl
  have e0 := mD_nil (pow64 h6 hx)
  by_cases z : xorL (c.take 2) 0 = 0
  · have e00 : PyData.eqv (mD 0) (.tuple []) = true := by rw [mD_nil (by decide)]; rfl
    simp [F__law_mixed, c__law_mixed, c2, ha, z, e00, cD_rev, sr, served_eq ht hc l]
  · have ok2 : COk n (c.drop 1 ++ [xorL (c.take 2) 0]) := ⟨fun v hv => by
      rcases List.mem_append.mp hv with q | q
      · exact hc.ok v (List.mem_of_mem_drop q)
      · rw [List.mem_singleton.mp q]; exact ⟨z, hx⟩⟩
    have eq := are_equal_eq h1 h6 hc l ok2 (by simp; omega)
    have e3 : bas c = bas (c.drop 1 ++ [xorL (c.take 2) 0]) := bas_congr hc6 (ok2.lt h6) fun v => by
      cases c with
      | nil => simp at l2
      | cons x c =>
        cases c with
        | nil => simp at l2
        | cons y c =>
          have e : xorL ((x :: y :: c).take 2) 0 = x ^^^ y := by simp [xorL]
          rw [e]
          constructor
          · refine Sp.sub fun u hu => ?_
            rcases List.mem_cons.mp hu with rfl | hu
            · have h1 : GF.Sp ((u :: y :: c).drop 1 ++ [u ^^^ y]) (u ^^^ y) := Sp.mem (by simp)
              have h2 : GF.Sp ((u :: y :: c).drop 1 ++ [u ^^^ y]) y := Sp.mem (by simp)
              have := h1.xor h2
              rwa [xor_self_right] at this
            · exact Sp.mem (List.mem_append.mpr (.inl hu))
          · refine Sp.sub fun u hu => ?_
            rcases List.mem_append.mp hu with hu | hu
            · exact Sp.mem (List.mem_cons_of_mem _ hu)
            · rw [List.mem_singleton.mp hu]
              exact (Sp.mem (by simp)).xor (Sp.mem (by simp))
    simp [-List.drop_one, F__law_mixed, c__law_mixed, c2, c1, ha, e0, z, m1, ad, eq, ← e3, cD_rev, sr, served_eq ht hc l]
end Q
namespace Q
open PySem PySem.Spec PyProof.Rows L2 GF
/-! ### runs of statements, one behind the other -/
def CS.thn : CS → CS → CS
  | .cons s r, t => .cons s (r.thn t)
  | .frz i r, t => .frz i (r.thn t)
  | _, t => t
def CS.isRun : CS → Bool
  | .nil => true
  | .cons _ r => r.isRun
  | .frz _ r => r.isRun
  | _ => false
section
variable {Ω : Type} {δ : Den Ω} {T : Tab}
/-- a run that is computed, then the rest -/
theorem run_nx (hT : TabOk δ T) {t : CS} {E : XD Ω} {Dc : DEnds Ω} {env' : List S} {ω : Ω} : ∀ {a : CS} {env : List S}, a.isRun = true → evS T a env = .nx env' → denS δ t E Dc env' ω → denS δ (a.thn t) E Dc env ω
  | .nil, env, _, h, k => by cases h; exact k
  | .cons s r, env, hr, h, k => by
    show sSeq (denS δ s) (denS δ (r.thn t)) E Dc env ω
    rw [show evS T (.cons s r) env = (evS T s env).seq (evS T r) from rfl] at h
    cases e : evS T s env with
    | nx env1 =>
      rw [e] at h
      exact evS_ok hT s _ _ _ _ (by rw [e]; exact run_nx hT (a := r) hr h k)
    | _ => rw [e] at h; cases h
  | .frz i r, env, hr, h, k => by
    show sFrz i (denS δ (r.thn t)) E Dc env ω
    rw [show evS T (.frz i r) env = (fFrz env[i]?).th fun s => evS T r (env.set i s) from rfl] at h
    cases e : fFrz env[i]? with
    | ok s =>
      rw [e] at h
      rw [sFrz_k]
      refine fFrz_ok (E := fun _ => False) ?_
      rw [e]
      exact run_nx hT (a := r) hr h k
    | _ => rw [e] at h; cases h
theorem run_is (hT : TabOk δ T) {a t : CS} {E : XD Ω} {Dc : DEnds Ω} {env : List S} {ω : Ω} {P : List S → Prop} (hr : a.isRun = true) (h : (evS T a env).is P) (k : ∀ env', P env' → denS δ t E Dc env' ω) : denS δ (a.thn t) E Dc env ω := by
  cases e : evS T a env with
  | nx env' => rw [e] at h; exact run_nx hT hr e (k env' h)
  | _ => rw [e] at h; exact h.elim
end
end Q
namespace Q
open PySem PySem.Spec PyProof.Rows L2
def c_wishes : CS := (.cons (.set 2 (.lst false (.cons (.call 5 (.cons (.var 0) .nil)) .nil))) (.cons (.forS (.var 1) (.nm 3) (.cons (.set 2 (.bin .add (.var 2) (.comp false (.var 2) (.nm 4) .yes (.bin .add (.var 4) (.call 5 (.cons (.var 3) .nil)))))) .nil)) (.cons (.ret (.var 2)) .nil)))
def F_wishes : Fn := run [(5, 1, F_bit)] 5 c_wishes
def c_extended : CS := (.cons (.set 3 (.done (.var 1))) (.frz 3 (.cons (.forS (.bin .ix (.var 0) (.con (.int 1))) (.cons (.nm 4) (.cons (.nm 5) .nil)) (.cons (.par 6 7 (.call 41 (.cons (.var 4) (.cons (.var 5) .nil))) .dnew) (.cons (.forS (.var 3) (.nm 8) (.cons (.ifS (.call 12 (.cons (.var 8) (.cons (.call 6 (.cons (.var 5) .nil)) (.cons (.var 4) .nil)))) (.cons (.dput 7 (.var 8)) .nil) (.cons (.ifS (.bin .lt (.blt .len (.cons (.var 8) .nil)) (.var 2)) (.cons (.dupd 7 (.dof (.comp false (.var 6) (.nm 9) .yes (.tup (.cons (.call 10 (.cons (.var 8) (.cons (.var 9) .nil))) (.cons (.con (.bool true)) .nil)))))) .nil) .nil) .nil)) .nil)) (.frz 7 (.cons (.set 3 (.var 7)) .nil))))) (.cons (.ret (.var 3)) .nil))))
def F_extended : Fn := run [(6, 1, F_number_of), (10, 2, F_joined), (12, 3, F_told), (41, 2, F_wishes)] 10 c_extended
def c_least_many : CS := (.cons (.set 2 (.blt .len (.cons (.var 1) .nil))) (.cons (.whileS (.bin .eq (.call 42 (.cons (.var 0) (.cons (.var 1) (.cons (.var 2) .nil)))) .dnew) (.cons (.aug .add 2 (.con (.int 1))) .nil)) (.cons (.ret (.var 2)) .nil)))
def F_least_many : Fn := run [(42, 3, F_extended)] 3 c_least_many
def c_fewest : CS := (.cons (.drop (.call 18 (.cons (.var 0) .nil))) (.cons (.ret (.call 43 (.cons (.var 0) (.cons (.tup .nil) .nil)))) .nil))
def F_fewest : Fn := run [(18, 1, F_check_task), (43, 2, F_least_many)] 1 c_fewest
def c_all_found : CS := (.cons (.ret (.blt .srt (.cons (.comp false (.call 42 (.cons (.var 0) (.cons (.tup .nil) (.cons (.call 43 (.cons (.var 0) (.cons (.tup .nil) .nil))) .nil)))) (.nm 1) .yes (.call 37 (.cons (.var 1) .nil))) .nil))) .nil)
def F_all_found : Fn := run [(37, 1, F_code_of), (42, 3, F_extended), (43, 2, F_least_many)] 2 c_all_found
def c_best_code : CS := (.cons (.drop (.call 18 (.cons (.var 0) .nil))) (.cons (.ret (.bin .ix (.call 45 (.cons (.var 0) .nil)) (.con (.int 0)))) .nil))
def F_best_code : Fn := run [(18, 1, F_check_task), (45, 1, F_all_found)] 1 c_best_code
def c_count_best : CS := (.cons (.drop (.call 18 (.cons (.var 0) .nil))) (.cons (.ret (.blt .len (.cons (.call 45 (.cons (.var 0) .nil)) .nil))) .nil))
def F_count_best : Fn := run [(18, 1, F_check_task), (45, 1, F_all_found)] 1 c_count_best
def c_all_best : CS := (.cons (.drop (.call 18 (.cons (.var 0) .nil))) (.cons (.set 1 (.call 45 (.cons (.var 0) .nil))) (.cons (.ifS (.bin .gt (.blt .len (.cons (.var 1) .nil)) (.con (.int 200))) (.cons (.raise 10) .nil) .nil) (.cons (.ret (.blt .tup (.cons (.var 1) .nil))) .nil))))
def F_all_best : Fn := run [(18, 1, F_check_task), (45, 1, F_all_found)] 2 c_all_best
def c_is_enough : CS := (.cons (.ret (.bin .ne (.call 42 (.cons (.var 0) (.cons (.tup .nil) (.cons (.var 1) .nil)))) .dnew)) .nil)
def F_is_enough : Fn := run [(42, 3, F_extended)] 2 c_is_enough
end Q
namespace GF
open PySem
/-! ### all reduced bases; their hashes differ -/
/-- the rows with the head p = 5 - j that fit ahead of b -/
def rows (j : Nat) (b : List Nat) : List Nat := ((List.range (2 ^ j)).map fun m => 2 ^ (5 - j) + m * 2 ^ (6 - j)).filter fun x => b.all fun y => !x.testBit (hd y)
def genB : Nat → List (List Nat)
  | 0 => [[]]
  | j + 1 => genB j ++ (genB j).flatMap fun b => (rows j b).map fun x => x :: b
def dst (i : Nat) : List Nat → Nat → Bool
  | [], _ => true
  | [_], _ => true
  | _, 0 => false
  | l, f + 1 => dst (i + 1) (l.filter fun x => x.testBit i) f && dst (i + 1) (l.filter fun x => !x.testBit i) f
theorem nodup_split {l : List Nat} (p : Nat → Bool) (h1 : (l.filter p).Nodup) (h2 : (l.filter fun x => !p x).Nodup) : l.Nodup := by
  induction l with
  | nil => exact List.nodup_nil
  | cons x l ih =>
    have h1' : (l.filter p).Nodup := by
      rw [List.filter_cons] at h1
      split at h1
      · exact (List.nodup_cons.mp h1).2
      · exact h1
    have h2' : (l.filter fun x => !p x).Nodup := by
      rw [List.filter_cons] at h2
      split at h2
      · exact (List.nodup_cons.mp h2).2
      · exact h2
    refine List.nodup_cons.mpr ⟨fun hx => ?_, ih h1' h2'⟩
    cases e : p x with
    | true =>
      rw [List.filter_cons, if_pos e] at h1
      exact (List.nodup_cons.mp h1).1 (List.mem_filter.mpr ⟨hx, e⟩)
    | false =>
      rw [List.filter_cons, if_pos (by rw [e]; rfl)] at h2
      exact (List.nodup_cons.mp h2).1 (List.mem_filter.mpr ⟨hx, by rw [e]; rfl⟩)
theorem dst_ok : ∀ {f i : Nat} {l : List Nat}, dst i l f = true → l.Nodup
  | _, _, [], _ => List.nodup_nil
  | _, _, [x], _ => by simp
  | 0, i, x :: y :: l, h => by simp [dst] at h
  | f + 1, i, x :: y :: l, h => by
    simp only [dst, Bool.and_eq_true] at h
    exact nodup_split _ (dst_ok h.1) (dst_ok h.2)
def hk (b : List Nat) : Nat := (QD.thash (b.map Int.ofNat) + 2 ^ 63).toNat
theorem gen_dst : dst 0 ((genB 6).map hk) 64 = true := by decide +kernel
theorem gen_len : (genB 6).length = 2825 := by decide +kernel
theorem rows_key : ∀ j < 6, ∀ x < 64, x ≠ 0 → hd x = 5 - j → x ∈ (List.range (2 ^ j)).map fun m => 2 ^ (5 - j) + m * 2 ^ (6 - j) := by
  have key : ∀ j < 6, ∀ x < 64, (x == 0 || !(hd x == 5 - j) || ((List.range (2 ^ j)).map fun m => 2 ^ (5 - j) + m * 2 ^ (6 - j)).contains x) = true := by decide +kernel
  intro j hj x hx h0 hh
  have := key j hj x hx
  simp [h0, hh] at this
  simpa using this
theorem mem_gen : ∀ {j : Nat} {b : List Nat}, j ≤ 6 → Red b → (∀ x ∈ b, 6 - j ≤ hd x) → b ∈ genB j
  | 0, b, _, r, h => by
    cases b with
    | nil => simp [genB]
    | cons x b =>
      have h1 := h x List.mem_cons_self
      have h2 := (hd_spec (r.nz x List.mem_cons_self) (r.lt x List.mem_cons_self)).1
      omega
  | j + 1, b, hj, r, h => by
    unfold genB
    rw [List.mem_append]
    by_cases z : ∀ x ∈ b, 6 - j ≤ hd x
    · exact .inl (mem_gen (by omega) r z)
    · refine .inr ?_
      cases b with
      | nil => exact absurd (by simp) z
      | cons x b =>
        have pw := List.pairwise_cons.mp r.pw
        have hx := h x List.mem_cons_self
        have e : hd x = 5 - j := by
          by_cases y : 6 - j ≤ hd x
          · refine absurd (fun u hu => ?_) z
            rcases List.mem_cons.mp hu with rfl | hu
            · exact y
            · have := (pw.1 u hu).1; omega
          · omega
        rw [List.mem_flatMap]
        refine ⟨b, mem_gen (by omega) r.tail fun u hu => ?_, List.mem_map.mpr ⟨x, ?_, rfl⟩⟩
        · have := (pw.1 u hu).1
          omega
        · unfold rows
          rw [List.mem_filter]
          refine ⟨rows_key j (by omega) x (r.lt x List.mem_cons_self) (r.nz x List.mem_cons_self) e, ?_⟩
          rw [List.all_eq_true]
          intro y hy
          rw [(pw.1 y hy).2.1]
          rfl
theorem red_gen {b : List Nat} (r : Red b) : b ∈ genB 6 := mem_gen (Nat.le_refl _) r fun x _ => by omega
theorem inj_on {α β : Type} {f : α → β} : ∀ {l : List α}, (l.map f).Nodup → ∀ a ∈ l, ∀ b ∈ l, f a = f b → a = b
  | [], _, a, ha, _, _, _ => by cases ha
  | x :: l, h, a, ha, b, hb, e => by
    rw [List.map_cons, List.nodup_cons] at h
    rcases List.mem_cons.mp ha with e1 | h1
    · rcases List.mem_cons.mp hb with e2 | h2
      · rw [e1, e2]
      · exact absurd (List.mem_map.mpr ⟨b, h2, by rw [← e1]; exact e.symm⟩) h.1
    · rcases List.mem_cons.mp hb with e2 | h2
      · exact absurd (List.mem_map.mpr ⟨a, h1, by rw [← e2]; exact e⟩) h.1
      · exact inj_on h.2 a h1 b h2 e
theorem hash_inj {a b : List Nat} (ha : Red a) (hb : Red b) (h : QD.thash (a.map Int.ofNat) = QD.thash (b.map Int.ofNat)) : a = b :=
  inj_on (dst_ok gen_dst) a (red_gen ha) b (red_gen hb) (by unfold hk; rw [h])
theorem nodup_leA {α : Type} [DecidableEq α] : ∀ {l m : List α}, l.Nodup → (∀ x ∈ l, x ∈ m) → l.length ≤ m.length
  | [], m, _, _ => Nat.zero_le _
  | x :: l, m, h, s => by
    have h' := List.nodup_cons.mp h
    have hx := s x List.mem_cons_self
    have ih := nodup_leA (l := l) (m := m.erase x) h'.2 fun y hy => by
      have : y ≠ x := fun e => h'.1 (e ▸ hy)
      exact (List.mem_erase_of_ne this).mpr (s y (List.mem_cons_of_mem _ hy))
    rw [List.length_erase_of_mem hx] at ih
    have : 0 < m.length := List.length_pos_of_mem hx
    rw [List.length_cons]; omega
theorem reds_len {l : List (List Nat)} (h : l.Nodup) (r : ∀ b ∈ l, Red b) : l.length ≤ 2825 := by
  rw [← gen_len]
  exact nodup_leA h fun b hb => red_gen (r b hb)
end GF
namespace GF
/-! ### bases that serve, made of wishes -/
def bits (k : Nat) : List Nat := (List.range 6).filter fun i => k.testBit i
def wsh (w k : Nat) : List Nat := (bits k).foldl (fun rows i => rows ++ rows.map (· + 2 ^ i)) [2 ^ w]
theorem wsh_key : ∀ w < 6, ∀ k < 64, (k.testBit w || ((wsh w k).all fun v => decide (v < 64) && ((v ^^^ 2 ^ w) &&& k == v ^^^ 2 ^ w)) && (List.range 64).all fun v => !((v ^^^ 2 ^ w) &&& k == v ^^^ 2 ^ w) || (wsh w k).contains v) = true := by decide +kernel
theorem and_sub {v k w : Nat} (hw : k.testBit w = false) : (v ^^^ 2 ^ w) &&& k = v ^^^ 2 ^ w ↔ v.testBit w = true ∧ ∀ i, i ≠ w → v.testBit i = true → k.testBit i = true := by
  constructor
  · intro e
    have b : ∀ i, ((v.testBit i ^^ decide (w = i)) && k.testBit i) = (v.testBit i ^^ decide (w = i)) := fun i => by
      have := congrArg (fun z => z.testBit i) e
      simpa only [Nat.testBit_and, Nat.testBit_xor, Nat.testBit_two_pow] using this
    refine ⟨?_, fun i hi hv => ?_⟩
    · have := b w
      rw [hw] at this
      cases e : v.testBit w with
      | true => rfl
      | false => rw [e] at this; simp at this
    · have := b i
      rw [hv] at this
      have n : ¬ w = i := fun z => hi z.symm
      simpa [n] using this
  · rintro ⟨h1, h2⟩
    refine Nat.eq_of_testBit_eq fun i => ?_
    rw [Nat.testBit_and, Nat.testBit_xor, Nat.testBit_two_pow]
    by_cases z : w = i
    · subst z; simp [h1]
    · have := h2 i fun q => z q.symm
      cases e : v.testBit i with
      | false => simp [z]
      | true => simp [z, this e]
theorem mem_wsh {w k v : Nat} (hw : w < 6) (hk : k < 64) (nw : k.testBit w = false) : v ∈ wsh w k ↔ v < 64 ∧ v.testBit w = true ∧ ∀ i, i ≠ w → v.testBit i = true → k.testBit i = true := by
  have key := wsh_key w hw k hk
  rw [nw, Bool.false_or, Bool.and_eq_true, List.all_eq_true, List.all_eq_true] at key
  rw [← and_sub nw]
  constructor
  · intro h
    have := key.1 v h
    simpa using this
  · rintro ⟨h1, h2⟩
    have := key.2 v (List.mem_range.mpr h1)
    simpa [h2] using this
theorem wsh_lt {n w k v : Nat} (hn : n ≤ 6) (hw : w < n) (hk : k < 2 ^ n) (nw : k.testBit w = false) (h : v ∈ wsh w k) : v < 2 ^ n ∧ v ≠ 0 := by
  have hk6 : k < 64 := Nat.lt_of_lt_of_le hk (Nat.pow_le_pow_right (n := 2) (by decide) hn)
  obtain ⟨h1, h2, h3⟩ := (mem_wsh (by omega) hk6 nw).mp h
  refine ⟨Nat.lt_pow_two_of_testBit v fun i hi => ?_, fun e => by rw [e] at h2; simp at h2⟩
  cases e : v.testBit i with
  | false => rfl
  | true =>
    have : k.testBit i = true := h3 i (by omega) e
    rw [Nat.testBit_lt_two_pow (Nat.lt_of_lt_of_le hk (Nat.pow_le_pow_right (by decide) hi))] at this
    cases this
theorem wsh_len {w k : Nat} (hw : w < 6) (hk : k < 64) : (wsh w k).length ≤ 64 := by
  have key : ∀ w < 6, ∀ k < 64, (wsh w k).length ≤ 64 := by decide +kernel
  exact key w hw k hk
/-! lists as sets -/
section
variable {α : Type} [DecidableEq α]
def put (acc : List α) (b : α) : List α := if b ∈ acc then acc else acc ++ [b]
def puts (acc l : List α) : List α := l.foldl put acc
theorem mem_put {acc : List α} {b x : α} : x ∈ put acc b ↔ x ∈ acc ∨ x = b := by
  unfold put
  split
  · exact ⟨.inl, fun h => h.elim id fun e => by rw [e]; assumption⟩
  · simp
theorem mem_puts {x : α} : ∀ {l acc : List α}, x ∈ puts acc l ↔ x ∈ acc ∨ x ∈ l
  | [], acc => by simp [puts]
  | b :: l, acc => by
    rw [show puts acc (b :: l) = puts (put acc b) l from rfl, mem_puts (l := l), mem_put, List.mem_cons, or_assoc]
theorem nodup_put {acc : List α} {b : α} (h : acc.Nodup) : (put acc b).Nodup := by
  unfold put
  split
  · exact h
  · rw [List.nodup_append]
    exact ⟨h, by simp, fun a ha c hc => by rw [List.mem_singleton.mp hc]; intro e; rw [e] at ha; contradiction⟩
theorem nodup_puts : ∀ {l acc : List α}, acc.Nodup → (puts acc l).Nodup
  | [], acc, h => h
  | b :: l, acc, h => nodup_puts (l := l) (nodup_put h)
end
abbrev Rcv := Nat × Nat
def stepB (most : Nat) (r : Rcv) (acc : List (List Nat)) (b : List Nat) : List (List Nat) := if tld b r.2 r.1 = true then put acc b else if b.length < most then puts acc (puts [] ((wsh r.1 r.2).map (jn b))) else acc
def stepE (most : Nat) (rows : List (List Nat)) (r : Rcv) : List (List Nat) := rows.foldl (stepB most r) []
def ext (rs : List Rcv) (beg : List Nat) (most : Nat) : List (List Nat) := rs.foldl (stepE most) [beg]
/-- b' comes of b at the receiver r -/
def From (most : Nat) (r : Rcv) (b b' : List Nat) : Prop := (tld b r.2 r.1 = true ∧ b' = b) ∨ (tld b r.2 r.1 = false ∧ b.length < most ∧ ∃ v ∈ wsh r.1 r.2, b' = jn b v)
theorem mem_stepB {most : Nat} {r : Rcv} {acc : List (List Nat)} {b x : List Nat} : x ∈ stepB most r acc b ↔ x ∈ acc ∨ From most r b x := by
  unfold stepB From
  cases e : tld b r.2 r.1 with
  | true => simp [mem_put]
  | false =>
    by_cases h : b.length < most
    · simp [h, mem_puts, eq_comm]
    · simp [h]
theorem mem_foldB {most : Nat} {r : Rcv} {x : List Nat} : ∀ {rows acc : List (List Nat)}, x ∈ rows.foldl (stepB most r) acc ↔ x ∈ acc ∨ ∃ b ∈ rows, From most r b x
  | [], acc => by simp
  | b :: rows, acc => by
    rw [List.foldl_cons, mem_foldB (rows := rows), mem_stepB, or_assoc]
    simp
theorem mem_stepE {most : Nat} {r : Rcv} {rows : List (List Nat)} {x : List Nat} : x ∈ stepE most rows r ↔ ∃ b ∈ rows, From most r b x := by
  unfold stepE
  rw [mem_foldB]
  simp
theorem nodup_foldB {most : Nat} {r : Rcv} : ∀ {rows acc : List (List Nat)}, acc.Nodup → (rows.foldl (stepB most r) acc).Nodup
  | [], acc, h => h
  | b :: rows, acc, h => by
    refine nodup_foldB (rows := rows) ?_
    unfold stepB
    split
    · exact nodup_put h
    · split
      · exact nodup_puts h
      · exact h
theorem nodup_stepE {most : Nat} {r : Rcv} {rows : List (List Nat)} : (stepE most rows r).Nodup := nodup_foldB .nil
theorem nodup_ext {rs : List Rcv} {beg : List Nat} {most : Nat} : (ext rs beg most).Nodup := by
  have : ∀ (rs : List Rcv) (rows : List (List Nat)), rows.Nodup → (rs.foldl (stepE most) rows).Nodup := fun rs => by
    induction rs with
    | nil => exact fun _ h => h
    | cons r rs ih => exact fun rows _ => ih _ nodup_stepE
  exact this rs [beg] (by simp)
structure RO (n : Nat) (r : Rcv) : Prop where
  w : r.1 < n
  k : r.2 < 2 ^ n
  nw : r.2.testBit r.1 = false
theorem RO.w6 {n : Nat} {r : Rcv} (h : RO n r) (hn : n ≤ 6) : r.1 < 6 := by have := h.w; omega
theorem RO.k6 {n : Nat} {r : Rcv} (h : RO n r) (hn : n ≤ 6) : r.2 < 64 := Nat.lt_of_lt_of_le h.k (Nat.pow_le_pow_right (n := 2) (by decide) hn)
/-- what a basis that was found keeps -/
structure EOk (n : Nat) (rs : List Rcv) (beg : List Nat) (most : Nat) (b : List Nat) : Prop where
  red : Red b
  lt : ∀ x ∈ b, x < 2 ^ n
  sup : ∀ v, Sp beg v → Sp b v
  tells : ∀ r ∈ rs, Tells b r.2 r.1
  len : b.length ≤ most ∨ b = beg
theorem jn_sup {b : List Nat} (h : Red b) {v : Nat} (hv : v < 64) {u : Nat} (s : Sp b u) : Sp (jn b v) u := ((jn_ok h hv).2 u).mpr (s.mono fun _ hx => List.mem_cons_of_mem _ hx)
theorem jn_v {b : List Nat} (h : Red b) {v : Nat} (hv : v < 64) : Sp (jn b v) v := ((jn_ok h hv).2 v).mpr (Sp.mem List.mem_cons_self)
theorem from_ok {n : Nat} {rs : List Rcv} {beg : List Nat} {most : Nat} {b b' : List Nat} {r : Rcv} (hn : n ≤ 6) (ro : RO n r) (h : EOk n rs beg most b) (f : From most r b b') : EOk n (rs ++ [r]) beg most b' := by
  have nt : ∀ x, EOk n rs beg most x → Tells x r.2 r.1 → EOk n (rs ++ [r]) beg most x := fun x e t => ⟨e.red, e.lt, e.sup, fun q hq => (List.mem_append.mp hq).elim (e.tells q) fun z => by rw [List.mem_singleton.mp z]; exact t, e.len⟩
  rcases f with ⟨t, rfl⟩ | ⟨t, hl, v, hv, rfl⟩
  · exact nt _ h ((tld_iff h.red.lt).mp t)
  · obtain ⟨h1, h2, h3⟩ := (mem_wsh (ro.w6 hn) (ro.k6 hn) ro.nw).mp hv
    obtain ⟨j1, j2⟩ := jn_ok h.red h1
    refine nt _ ⟨j1, fun x hx => ?_, fun u s => jn_sup h.red h1 (h.sup u s), fun q hq => (h.tells q hq).mono fun u s => jn_sup h.red h1 s, .inl ?_⟩ (.inr ⟨v, jn_v h.red h1, h2, h3⟩)
    · exact Sp.lt (fun y hy => (List.mem_cons.mp hy).elim (fun e => by rw [e]; exact (wsh_lt hn ro.w ro.k ro.nw hv).1) (h.lt y)) ((j2 x).mp (Sp.mem hx))
    · rw [jn_len]
      split <;> omega
theorem ext_sound {n : Nat} {rs : List Rcv} {beg : List Nat} {most : Nat} {b : List Nat} (hn : n ≤ 6) (ro : ∀ r ∈ rs, RO n r) (rb : Red beg) (lb : ∀ x ∈ beg, x < 2 ^ n) (h : b ∈ ext rs beg most) : EOk n rs beg most b := by
  have key : ∀ (ts ds : List Rcv) (rows : List (List Nat)), (∀ r ∈ ts, RO n r) → (∀ x ∈ rows, EOk n ds beg most x) → ∀ x ∈ ts.foldl (stepE most) rows, EOk n (ds ++ ts) beg most x := fun ts => by
    induction ts with
    | nil => intro ds rows _ hr x hx; rw [List.append_nil]; exact hr x hx
    | cons r ts ih =>
      intro ds rows hro hr x hx
      have := ih (ds ++ [r]) (stepE most rows r) (fun q hq => hro q (List.mem_cons_of_mem _ hq)) (fun y hy => by
        obtain ⟨b, hb, f⟩ := mem_stepE.mp hy
        exact from_ok hn (hro r List.mem_cons_self) (hr b hb) f) x hx
      rwa [List.append_assoc] at this
  have := key rs [] [beg] ro (fun x hx => by rw [List.mem_singleton.mp hx]; exact ⟨rb, lb, fun _ s => s, fun r hr => (by cases hr), .inr rfl⟩) b h
  rwa [List.nil_append] at this
theorem ext_complete {n : Nat} {rs : List Rcv} {beg V : List Nat} {most : Nat} (hn : n ≤ 6) (ro : ∀ r ∈ rs, RO n r) (rb : Red beg) (rv : Red V) (sup : ∀ v, Sp beg v → Sp V v) (tv : ∀ r ∈ rs, Tells V r.2 r.1) (lv : V.length ≤ most) : ∃ b ∈ ext rs beg most, ∀ v, Sp b v → Sp V v := by
  have key : ∀ (ts : List Rcv) (rows : List (List Nat)), (∀ r ∈ ts, RO n r ∧ Tells V r.2 r.1) → (∃ b ∈ rows, Red b ∧ ∀ v, Sp b v → Sp V v) → ∃ b ∈ ts.foldl (stepE most) rows, Red b ∧ ∀ v, Sp b v → Sp V v := fun ts => by
    induction ts with
    | nil => exact fun rows _ h => h
    | cons r ts ih =>
      rintro rows hro ⟨b, hb, rb, sb⟩
      refine ih _ (fun q hq => hro q (List.mem_cons_of_mem _ hq)) ?_
      obtain ⟨ro, tr⟩ := hro r List.mem_cons_self
      cases e : tld b r.2 r.1 with
      | true => exact ⟨b, mem_stepE.mpr ⟨b, hb, .inl ⟨e, rfl⟩⟩, rb, sb⟩
      | false =>
        rcases tr with z | ⟨v, s, h1, h2⟩
        · rw [ro.nw] at z; cases z
        · have v64 : v < 64 := Sp.lt (n := 6) rv.lt s
          have hv := (mem_wsh (ro.w6 hn) (ro.k6 hn) ro.nw).mpr ⟨v64, h1, h2⟩
          have nb : ¬ Sp b v := fun z => by
            have := (tld_iff rb.lt).mpr (.inr ⟨v, z, h1, h2⟩ : Tells b r.2 r.1)
            rw [e] at this; cases this
          have ll := rv.len_le rb sb
          have lt : b.length < most := by
            by_cases q : V.length ≤ b.length
            · have := rv.full rb sb q
              rw [this] at s
              exact absurd s nb
            · omega
          refine ⟨jn b v, mem_stepE.mpr ⟨b, hb, .inr ⟨e, lt, v, hv, rfl⟩⟩, (jn_ok rb v64).1, fun u su => ?_⟩
          refine Sp.sub (fun x hx => ?_) (((jn_ok rb v64).2 u).mp su)
          rcases List.mem_cons.mp hx with rfl | hx
          · exact s
          · exact sb x (Sp.mem hx)
  obtain ⟨b, h1, _, h2⟩ := key rs [beg] (fun r hr => ⟨ro r hr, tv r hr⟩) ⟨beg, List.mem_singleton.mpr rfl, rb, sup⟩
  exact ⟨b, h1, h2⟩
/-! the least number -/
def lmN (rs : List Rcv) (beg : List Nat) : Nat → Nat → Nat
  | 0, m => m
  | f + 1, m => if ext rs beg m = [] then lmN rs beg f (m + 1) else m
def lm (rs : List Rcv) (beg : List Nat) : Nat := lmN rs beg 7 beg.length
def full : List Nat := [1, 2, 4, 8, 16, 32]
theorem full_red : Red full := by
  refine ⟨by decide, by decide, ?_⟩
  decide +kernel
theorem full_tells {w k : Nat} (hw : w < 6) : Tells full k w := by
  refine .inr ⟨2 ^ w, Sp.mem ?_, by simp, fun i hi h => ?_⟩
  · have : ∀ w < 6, 2 ^ w ∈ full := by decide
    exact this w hw
  · rw [Nat.testBit_two_pow] at h
    exact absurd (of_decide_eq_true h).symm hi
theorem full_sup {b : List Nat} (h : Red b) : ∀ v, Sp b v → Sp full v := by
  have r := full_red
  have key : ∀ v < 64, clr full v = 0 := by decide +kernel
  intro v s
  exact (clr_zero r).mp (key v (Sp.lt (n := 6) h.lt s))
theorem ext_full {n : Nat} {rs : List Rcv} {beg : List Nat} {m : Nat} (hn : n ≤ 6) (ro : ∀ r ∈ rs, RO n r) (rb : Red beg) (hm : 6 ≤ m) : ext rs beg m ≠ [] := by
  obtain ⟨b, h, _⟩ := ext_complete (V := full) (most := m) hn ro rb full_red (full_sup rb) (fun r hr => full_tells ((ro r hr).w6 hn)) (by simp [full]; omega)
  intro e
  rw [e] at h
  cases h
theorem lmN_spec {rs : List Rcv} {beg : List Nat} : ∀ (f m : Nat), (∃ j ≤ f, ext rs beg (m + j) ≠ []) → ext rs beg (lmN rs beg f m) ≠ [] ∧ m ≤ lmN rs beg f m ∧ lmN rs beg f m ≤ m + f ∧ ∀ i, m ≤ i → i < lmN rs beg f m → ext rs beg i = []
  | 0, m, ⟨j, hj, h⟩ => by
    have : j = 0 := by omega
    subst this
    exact ⟨h, Nat.le_refl _, by simp [lmN], fun i h1 h2 => by simp only [lmN] at h2; omega⟩
  | f + 1, m, ⟨j, hj, h⟩ => by
    unfold lmN
    split
    · rename_i e
      have hj0 : j ≠ 0 := fun z => by subst z; exact h e
      obtain ⟨a, b, c, d⟩ := lmN_spec (rs := rs) (beg := beg) f (m + 1) ⟨j - 1, by omega, by rw [show m + 1 + (j - 1) = m + j by omega]; exact h⟩
      refine ⟨a, by omega, by omega, fun i h1 h2 => ?_⟩
      by_cases z : i = m
      · rw [z]; exact e
      · exact d i (by omega) h2
    · rename_i e
      exact ⟨e, Nat.le_refl _, by omega, fun i h1 h2 => by omega⟩
theorem lm_spec {n : Nat} {rs : List Rcv} {beg : List Nat} (hn : n ≤ 6) (ro : ∀ r ∈ rs, RO n r) (rb : Red beg) : ext rs beg (lm rs beg) ≠ [] ∧ beg.length ≤ lm rs beg ∧ lm rs beg ≤ 6 ∧ ∀ i, beg.length ≤ i → i < lm rs beg → ext rs beg i = [] := by
  have l6 := rb.len6
  obtain ⟨a, b, c, d⟩ := lmN_spec (rs := rs) (beg := beg) 7 beg.length ⟨6 - beg.length, by omega, ext_full hn ro rb (by omega)⟩
  refine ⟨a, b, ?_, d⟩
  by_cases z : lmN rs beg 7 beg.length ≤ 6
  · exact z
  · exact absurd (d 6 l6 (by omega)) (ext_full hn ro rb (Nat.le_refl _))
/-- b serves all -/
def Srv (rs : List Rcv) (b : List Nat) : Prop := ∀ r ∈ rs, Tells b r.2 r.1
/-- no basis that serves and contains beg is shorter -/
theorem lm_le {n : Nat} {rs : List Rcv} {beg V : List Nat} (hn : n ≤ 6) (ro : ∀ r ∈ rs, RO n r) (rb : Red beg) (rv : Red V) (sup : ∀ v, Sp beg v → Sp V v) (tv : Srv rs V) : lm rs beg ≤ V.length := by
  obtain ⟨_, _, _, d⟩ := lm_spec hn ro rb
  by_cases z : lm rs beg ≤ V.length
  · exact z
  · have e := d V.length (rv.len_le rb sup) (by omega)
    obtain ⟨b, h, _⟩ := ext_complete hn ro rb rv sup tv (Nat.le_refl _)
    rw [e] at h
    cases h
theorem lm_len {n : Nat} {rs : List Rcv} {beg b : List Nat} (hn : n ≤ 6) (ro : ∀ r ∈ rs, RO n r) (rb : Red beg) (lb : ∀ x ∈ beg, x < 2 ^ n) (h : b ∈ ext rs beg (lm rs beg)) : b.length = lm rs beg := by
  have e := ext_sound hn ro rb lb h
  have h1 := lm_le hn ro rb e.red e.sup e.tells
  have h2 := (lm_spec hn ro rb).2.1
  rcases e.len with z | z
  · omega
  · rw [z] at h1 ⊢; omega
theorem ext_iff {n : Nat} {rs : List Rcv} {beg b : List Nat} (hn : n ≤ 6) (ro : ∀ r ∈ rs, RO n r) (rb : Red beg) (lb : ∀ x ∈ beg, x < 2 ^ n) : b ∈ ext rs beg (lm rs beg) ↔ Red b ∧ (∀ v, Sp beg v → Sp b v) ∧ Srv rs b ∧ b.length = lm rs beg := by
  constructor
  · intro h
    have e := ext_sound hn ro rb lb h
    exact ⟨e.red, e.sup, e.tells, lm_len hn ro rb lb h⟩
  · rintro ⟨r, s, t, l⟩
    obtain ⟨b', h', s'⟩ := ext_complete hn ro rb r s t (Nat.le_of_eq l)
    have l' := lm_len hn ro rb lb h'
    have := r.full (ext_sound hn ro rb lb h').red s' (by omega)
    rw [this]
    exact h'
end GF
namespace Q
open PySem PySem.Spec PyProof.Rows L2 GF
/-! ### bases as keys -/
theorem memD_iD {l : List Nat} {ls : List (List Nat)} : memD (iD l) (ls.map iD) = decide (l ∈ ls) := by
  unfold memD
  rw [List.any_map, Bool.eq_iff_iff, List.any_eq_true, decide_eq_true_eq]
  constructor
  · rintro ⟨l', h, e⟩
    simp only [Function.comp, eqv_iD, decide_eq_true_eq] at e
    rw [← e]; exact h
  · intro h
    exact ⟨l, h, by simp [eqv_iD]⟩
theorem putD_iD (l : List (List Nat)) (b : List Nat) : putD (l.map iD) (iD b) = (put l b).map iD := by
  unfold putD put
  rw [memD_iD]
  by_cases h : b ∈ l <;> simp [h]
theorem putsD_iD : ∀ (m l : List (List Nat)), putsD (l.map iD) (m.map iD) = (puts l m).map iD
  | [], _ => rfl
  | b :: m, l => by
    have e : putsD (l.map iD) ((b :: m).map iD) = putsD (putD (l.map iD) (iD b)) (m.map iD) := rfl
    rw [e, putD_iD, putsD_iD m]
    rfl
theorem keyD_iD (b : List Nat) : keyD (iD b) = some (b.map Int.ofNat) := by
  unfold iD keyD
  simp only
  induction b with
  | nil => rfl
  | cons i b ih =>
    rw [show nL (i :: b) = nI i :: nL b from rfl]
    rw [show intsOf (nI i :: nL b) = (intsOf (nL b)).map ((i : Int) :: ·) from rfl, ih]
    rfl
theorem pairKs_iD : ∀ l : List (List Nat), pairKs (l.map fun b => .tuple [iD b, .bool true]) = some (l.map iD)
  | [] => rfl
  | b :: l => by
    rw [List.map_cons, pairKs, keyD_iD, pairKs_iD l]
    rfl
theorem hashD_iD (b : List Nat) : hashD (iD b) = QD.thash (b.map Int.ofNat) := by unfold hashD; rw [keyD_iD]
theorem hash_nodup {l : List (List Nat)} (h : l.Nodup) (r : ∀ b ∈ l, Red b) : ((l.map iD).map hashD).Nodup := by
  induction l with
  | nil => simp
  | cons b l ih =>
    have h' := List.nodup_cons.mp h
    rw [List.map_cons, List.map_cons, List.nodup_cons]
    refine ⟨fun hm => ?_, ih h'.2 fun x hx => r x (List.mem_cons_of_mem _ hx)⟩
    obtain ⟨y, hy, e⟩ := List.mem_map.mp hm
    obtain ⟨x, hx, rfl⟩ := List.mem_map.mp hy
    rw [hashD_iD, hashD_iD] at e
    have := hash_inj (r x (List.mem_cons_of_mem _ hx)) (r b List.mem_cons_self) e
    rw [this] at hx
    exact h'.1 hx
theorem updB_iD {a l : List (List Nat)} (ha : a.length ≤ 2825) (h : l.Nodup) (r : ∀ b ∈ l, Red b) : updB (a.map iD) (l.map iD) = true := by
  have := reds_len h r
  unfold updB
  rw [List.length_map, List.length_map, Bool.and_eq_true]
  refine ⟨by simp; omega, ?_⟩
  rw [Bool.or_eq_true]
  exact .inr (decide_eq_true (hash_nodup h r))
/-! wishes -/
def isOLs (r : Rs D) (l : List Nat) : Bool := match r with
  | .ok (.d (.list xs)) => decide (xs.length = l.length) && (xs.zip l).all fun p => match p.1 with | .int i => decide (i = (p.2 : Int)) | _ => false
  | _ => false
theorem isOLs_ok {r : Rs D} {l : List Nat} (h : isOLs r l = true) : r = .ok (.d (.list (nL l))) := by
  unfold isOLs at h
  split at h
  · rename_i xs
    rw [Bool.and_eq_true, decide_eq_true_eq] at h
    have : xs = nL l := by
      obtain ⟨h1, h2⟩ := h
      induction xs generalizing l with
      | nil => cases l with
        | nil => rfl
        | cons _ _ => simp at h1
      | cons x xs ih => cases l with
        | nil => simp at h1
        | cons y l =>
          rw [List.zip_cons_cons, List.all_cons, Bool.and_eq_true] at h2
          rw [ih (by simpa using h1) h2.2]
          have q := h2.1
          cases x with
          | int i => simp at q; subst q; rfl
          | _ => simp at q
    rw [this]
  · cases h
theorem wishes_eq {w k : Nat} (hw : w < 6) (hk : k < 64) : F_wishes [.d (nI w), .d (mD k)] = .ok (.d (.list (nL (wsh w k)))) := by
  have key : ∀ w < 6, ∀ k < 64, isOLs (F_wishes [.d (nI w), .d (mD k)]) (wsh w k) = true := by decide +kernel
  exact isOLs_ok (key w hw k hk)
/-! extended -/
structure Rows (rows : List (List Nat)) : Prop where
  nd : rows.Nodup
  red : ∀ b ∈ rows, Red b
theorem rows_stepB {most : Nat} {r : Rn} {acc : List (List Nat)} {b : List Nat} (hw : r.1 < 6) (hk : r.2 < 64) (nw : r.2.testBit r.1 = false) (ha : Rows acc) (hb : Red b) : Rows (stepB most r acc b) := by
  refine ⟨nodup_foldB (rows := [b]) ha.nd, fun x hx => ?_⟩
  rcases mem_stepB.mp hx with h | ⟨_, rfl⟩ | ⟨_, _, v, hv, rfl⟩
  · exact ha.red x h
  · exact hb
  · exact (jn_ok hb ((mem_wsh hw hk nw).mp hv).1).1
theorem in_body {n most : Nat} {r : Rn} {acc : List (List Nat)} {b : List Nat} (hw : r.1 < 6) (hk : r.2 < 64) (nw : r.2.testBit r.1 = false) (ha : Rows acc) (hb : Red b) (s0 s1 s3 s9 : S) :
    evS [(6, 1, F_number_of), (10, 2, F_joined), (12, 3, F_told), (41, 2, F_wishes)] (.cons (.ifS (.call 12 (.cons (.var 8) (.cons (.call 6 (.cons (.var 5) .nil)) (.cons (.var 4) .nil)))) (.cons (.dput 7 (.var 8)) .nil) (.cons (.ifS (.bin .lt (.blt .len (.cons (.var 8) .nil)) (.var 2)) (.cons (.dupd 7 (.dof (.comp false (.var 6) (.nm 9) .yes (.tup (.cons (.call 10 (.cons (.var 8) (.cons (.var 9) .nil))) (.cons (.con (.bool true)) .nil)))))) .nil) .nil) .nil)) .nil)
      [s0, s1, .d (nI most), s3, .d (nI r.1), .d (mD r.2), .d (.list (nL (wsh r.1 r.2))), .own true (acc.map iD), .d (iD b), s9] = .nx [s0, s1, .d (nI most), s3, .d (nI r.1), .d (mD r.2), .d (.list (nL (wsh r.1 r.2))), .own true ((stepB most r acc b).map iD), .d (iD b), s9] := by
  have l6 := hb.len6
  have al := reds_len ha.nd ha.red
  have te := told_eq hb.lt hk hw
  rw [show PyData.tuple (nL b) = iD b from rfl] at te
  have ln : fBl .len [.d (iD b)] = .ok (.d (nI b.length)) := by unfold iD nL; simp [nI]
  have lt : f2 .lt (.d (nI b.length)) (.d (nI most)) = .ok (.d (.bool (decide (b.length < most)))) := by unfold nI; simp
  have fk : fKey (.d (iD b)) = .ok (iD b) := by simp [keyD_iD]
  unfold stepB
  cases e : tld b r.2 r.1 with
  | true =>
    rw [e] at te
    have al' : acc.length < 1000000 := by omega
    simp [number_of_eq hk, te, fk, putD_iD, al']
  | false =>
    rw [e] at te
    by_cases q : b.length < most
    · simp [number_of_eq hk, te, ln, lt, q]
      rw [show nL (wsh r.1 r.2) = (wsh r.1 r.2).map nI from rfl]
      rw [cmpL_map nI (fun v => .tuple [iD (jn b v), .bool true]) fun v hv => ⟨_, by simp; rfl, by
        have je := joined_eq hb.lt ((mem_wsh hw hk nw).mp hv).1 (by omega)
        rw [show PyData.tuple (nL b) = iD b from rfl, show PyData.tuple (nL (jn b v)) = iD (jn b v) from rfl] at je
        simp [je]⟩]
      have pk := pairKs_iD ((wsh r.1 r.2).map (jn b))
      rw [List.map_map] at pk
      have ub : updB (acc.map iD) ((puts [] ((wsh r.1 r.2).map (jn b))).map iD) = true := updB_iD al (nodup_puts .nil) fun x hx => by
        rcases mem_puts.mp hx with z | z
        · cases z
        · obtain ⟨v, hv, rfl⟩ := List.mem_map.mp z
          exact (jn_ok hb ((mem_wsh hw hk nw).mp hv).1).1
      have pk' : pairKs (List.map (fun v => PyData.tuple [iD (jn b v), PyData.bool true]) (wsh r.1 r.2)) = some (((wsh r.1 r.2).map (jn b)).map iD) := pk
      have p0 := putsD_iD ((wsh r.1 r.2).map (jn b)) []
      rw [List.map_nil] at p0
      simp [-List.map_map, pk', p0, ub, putsD_iD]
    · simp [number_of_eq hk, te, ln, lt, q]
theorem in_loop {n most : Nat} {r : Rn} (hw : r.1 < 6) (hk : r.2 < 64) (nw : r.2.testBit r.1 = false) (s0 s1 s3 s9 : S) : ∀ (rows acc : List (List Nat)) (s8 : S), Rows acc → (∀ b ∈ rows, Red b) → ∃ t8,
    evFor (.nm 8) (evS [(6, 1, F_number_of), (10, 2, F_joined), (12, 3, F_told), (41, 2, F_wishes)] (.cons (.ifS (.call 12 (.cons (.var 8) (.cons (.call 6 (.cons (.var 5) .nil)) (.cons (.var 4) .nil)))) (.cons (.dput 7 (.var 8)) .nil) (.cons (.ifS (.bin .lt (.blt .len (.cons (.var 8) .nil)) (.var 2)) (.cons (.dupd 7 (.dof (.comp false (.var 6) (.nm 9) .yes (.tup (.cons (.call 10 (.cons (.var 8) (.cons (.var 9) .nil))) (.cons (.con (.bool true)) .nil)))))) .nil) .nil) .nil)) .nil)) (rows.map iD)
      [s0, s1, .d (nI most), s3, .d (nI r.1), .d (mD r.2), .d (.list (nL (wsh r.1 r.2))), .own true (acc.map iD), s8, s9] = .nx [s0, s1, .d (nI most), s3, .d (nI r.1), .d (mD r.2), .d (.list (nL (wsh r.1 r.2))), .own true ((rows.foldl (stepB most r) acc).map iD), t8, s9]
  | [], acc, s8, _, _ => ⟨s8, rfl⟩
  | b :: rows, acc, s8, ha, hr => by
    have hb := hr b List.mem_cons_self
    obtain ⟨t, e⟩ := in_loop (n := n) hw hk nw s0 s1 s3 s9 rows (stepB most r acc b) (.d (iD b)) (rows_stepB hw hk nw ha hb) fun x hx => hr x (List.mem_cons_of_mem _ hx)
    refine ⟨t, ?_⟩
    rw [List.map_cons, evFor_nm]
    show (evS _ _ [s0, s1, .d (nI most), s3, .d (nI r.1), .d (mD r.2), .d (.list (nL (wsh r.1 r.2))), .own true (acc.map iD), .d (iD b), s9]).seq _ = _
    rw [in_body (n := n) hw hk nw ha hb]
    exact e
theorem rows_stepE {most : Nat} {r : Rn} {rows : List (List Nat)} (hw : r.1 < 6) (hk : r.2 < 64) (nw : r.2.testBit r.1 = false) (hr : ∀ b ∈ rows, Red b) : Rows (stepE most rows r) := by
  refine ⟨nodup_stepE, fun x hx => ?_⟩
  obtain ⟨b, hb, f⟩ := mem_stepE.mp hx
  rcases f with ⟨_, rfl⟩ | ⟨_, _, v, hv, rfl⟩
  · exact hr x hb
  · exact (jn_ok (hr b hb) ((mem_wsh hw hk nw).mp hv).1).1
theorem out_loop {n most : Nat} (s0 s1 : S) : ∀ (rs : List Rn) (rows : List (List Nat)) (s4 s5 s6 s7 s8 s9 : S), (∀ r ∈ rs, r.1 < 6 ∧ r.2 < 64 ∧ r.2.testBit r.1 = false) → Rows rows → ∃ t4 t5 t6 t7 t8 t9,
    evFor (.cons (.nm 4) (.cons (.nm 5) .nil)) (evS [(6, 1, F_number_of), (10, 2, F_joined), (12, 3, F_told), (41, 2, F_wishes)] (.cons (.par 6 7 (.call 41 (.cons (.var 4) (.cons (.var 5) .nil))) .dnew) (.cons (.forS (.var 3) (.nm 8) (.cons (.ifS (.call 12 (.cons (.var 8) (.cons (.call 6 (.cons (.var 5) .nil)) (.cons (.var 4) .nil)))) (.cons (.dput 7 (.var 8)) .nil) (.cons (.ifS (.bin .lt (.blt .len (.cons (.var 8) .nil)) (.var 2)) (.cons (.dupd 7 (.dof (.comp false (.var 6) (.nm 9) .yes (.tup (.cons (.call 10 (.cons (.var 8) (.cons (.var 9) .nil))) (.cons (.con (.bool true)) .nil)))))) .nil) .nil) .nil)) .nil)) (.frz 7 (.cons (.set 3 (.var 7)) .nil))))) (rs.map rD)
      [s0, s1, .d (nI most), .fd (rows.map iD), s4, s5, s6, s7, s8, s9] = .nx [s0, s1, .d (nI most), .fd ((rs.foldl (stepE most) rows).map iD), t4, t5, t6, t7, t8, t9]
  | [], rows, s4, s5, s6, s7, s8, s9, _, _ => ⟨s4, s5, s6, s7, s8, s9, rfl⟩
  | r :: rs, rows, s4, s5, s6, s7, s8, s9, ho, hr => by
    obtain ⟨hw, hk, nw⟩ := ho r List.mem_cons_self
    obtain ⟨t8, e1⟩ := in_loop (n := n) (most := most) hw hk nw s0 s1 (.fd (rows.map iD)) s9 rows [] s8 ⟨.nil, fun x hx => by cases hx⟩ hr.red
    obtain ⟨u4, u5, u6, u7, u8, u9, e2⟩ := out_loop (n := n) s0 s1 rs (stepE most rows r) (.d (nI r.1)) (.d (mD r.2)) (.d (.list (nL (wsh r.1 r.2)))) (.fd ((stepE most rows r).map iD)) t8 s9 (fun q hq => ho q (List.mem_cons_of_mem _ hq)) (rows_stepE hw hk nw hr.red)
    refine ⟨u4, u5, u6, u7, u8, u9, ?_⟩
    rw [List.map_nil] at e1
    rw [List.map_cons]
    unfold evFor
    rw [show bindP (.cons (.nm 4) (.cons (.nm 5) .nil)) (rD r) [s0, s1, .d (nI most), .fd (rows.map iD), s4, s5, s6, s7, s8, s9] = some [s0, s1, .d (nI most), .fd (rows.map iD), .d (nI r.1), .d (mD r.2), s6, s7, s8, s9] from rfl]
    simp [wishes_eq hw hk]
    rw [e1]
    simp
    exact e2
theorem extended_eq {n most : Nat} {rs : List Rn} {beg : List Nat} (ho : ∀ r ∈ rs, r.1 < 6 ∧ r.2 < 64 ∧ r.2.testBit r.1 = false) (rb : Red beg) : F_extended [.d (tD n rs), .d (iD beg), .d (nI most)] = .ok (.fd ((ext rs beg most).map iD)) := by
  obtain ⟨t4, t5, t6, t7, t8, t9, e⟩ := out_loop (n := n) (most := most) (.d (tD n rs)) (.d (iD beg)) rs [beg] .no .no .no .no .no .no ho ⟨by simp, fun x hx => by rw [List.mem_singleton.mp hx]; exact rb⟩
  have fk : fOne (.d (iD beg)) = .ok (.own true [iD beg]) := by simp [keyD_iD]
  have ix : f2 .ix (.d (tD n rs)) (.d (.int 1)) = .ok (.d (.tuple (rs.map rD))) := rfl
  rw [show List.map iD [beg] = [iD beg] from rfl] at e
  simp [F_extended, c_extended, fk, ix]
  rw [e]
  simp
  rfl
end Q
namespace Q
open PySem PySem.Spec PyProof.Rows L2 GF
/-! ### the fewest sums -/
theorem TOk.ro {n : Nat} {rs : List Rn} (ht : TOk n rs) : ∀ r ∈ rs, RO n r := fun r hr => ⟨(ht.ok r hr).w, (ht.ok r hr).k, (ht.ok r hr).nw⟩
theorem TOk.ho {n : Nat} {rs : List Rn} (ht : TOk n rs) : ∀ r ∈ rs, r.1 < 6 ∧ r.2 < 64 ∧ r.2.testBit r.1 = false := fun r hr => ⟨(ht.lt r hr).1, (ht.lt r hr).2, (ht.ok r hr).nw⟩
theorem while_lm {n : Nat} {rs : List Rn} {beg : List Nat} (ho : ∀ r ∈ rs, r.1 < 6 ∧ r.2 < 64 ∧ r.2.testBit r.1 = false) (rb : Red beg) : ∀ (f m fu : Nat), f < fu → ext rs beg (lmN rs beg f m) ≠ [] →
    evWh (ev [(42, 3, F_extended)] (.bin .eq (.call 42 (.cons (.var 0) (.cons (.var 1) (.cons (.var 2) .nil)))) .dnew)).b (evS [(42, 3, F_extended)] (.cons (.aug .add 2 (.con (.int 1))) .nil)) fu [.d (tD n rs), .d (iD beg), .d (nI m)] = .nx [.d (tD n rs), .d (iD beg), .d (nI (lmN rs beg f m))]
  | f, m, 0, h, _ => by omega
  | f, m, fu + 1, h, hn => by
    have ee := extended_eq (n := n) (most := m) ho rb
    unfold evWh
    by_cases q : ext rs beg m = []
    · cases f with
      | zero => simp only [lmN] at hn; exact absurd q hn
      | succ f =>
        simp only [lmN, if_pos q] at hn ⊢
        have ih := while_lm (n := n) ho rb f (m + 1) fu (by omega) hn
        simp [ee, q]
        rw [show (PyData.int (↑m + 1)) = nI (m + 1) from rfl]
        exact ih
    · have e1 : lmN rs beg f m = m := by
        cases f with
        | zero => rfl
        | succ f => simp only [lmN, if_neg q]
      rw [e1]
      have q' : (ext rs beg m).isEmpty = false := by cases e : ext rs beg m with | nil => exact absurd e q | cons _ _ => rfl
      simp [ee, q']
theorem least_many_eq {n : Nat} {rs : List Rn} {beg : List Nat} (ht : TOk n rs) (rb : Red beg) : F_least_many [.d (tD n rs), .d (iD beg)] = .ok (.d (nI (lm rs beg))) := by
  have w := while_lm (n := n) (rs := rs) (beg := beg) ht.ho rb 7 beg.length fuel (by decide) (lm_spec ht.n6 ht.ro rb).1
  have ln : fBl .len [.d (iD beg)] = .ok (.d (nI beg.length)) := by unfold iD nL; simp [nI]
  simp [F_least_many, c_least_many, ln]
  rw [w]
  simp
  rfl
theorem is_enough_eq {n m : Nat} {rs : List Rn} (ht : TOk n rs) : F_is_enough [.d (tD n rs), .d (nI m)] = .ok (.d (.bool (!(ext rs [] m).isEmpty))) := by
  have ee := extended_eq (n := n) (most := m) ht.ho Red.nil
  rw [show iD [] = PyData.tuple [] from rfl] at ee
  simp [F_is_enough, c_is_enough, ee]
theorem fewest_eq {n : Nat} {rs : List Rn} (ht : TOk n rs) : F_fewest [.d (tD n rs)] = .ok (.d (nI (lm rs []))) := by
  have e := least_many_eq ht Red.nil
  rw [show iD [] = PyData.tuple [] from rfl] at e
  simp [F_fewest, c_fewest, check_task_eq, isTask_tD ht, e]
theorem fewest_t {t : PyData} (h : isTask t = false) : F_fewest [.d t] = .ex 1 := by simp [F_fewest, c_fewest, check_task_eq, h]
/-! codes in their order -/
def cde (a b : List Nat) : Bool := dle (cD a) (cD b)
theorem cde_ord : Ord cde := Ord.of cD
theorem alike_cD : ∀ a b : List Nat, PySem.W.alike (cD a) (cD b) = true := fun a b => by
  unfold cD
  rw [PySem.W.alike]
  induction a generalizing b with
  | nil => simp [PySem.W.alikeAll]
  | cons x a ih =>
    cases b with
    | nil => simp [PySem.W.alikeAll]
    | cons y b => rw [List.map_cons, List.map_cons, PySem.W.alikeAll, alike_mD, ih]; rfl
theorem cde_anti {a b : List Nat} (ha : ∀ v ∈ a, v < 64) (hb : ∀ v ∈ b, v < 64) (h1 : cde a b = true) (h2 : cde b a = true) : a = b := by
  have e := dle_eqv (alike_cD a b) h1 h2
  rw [eqv_cD ha hb] at e
  exact of_decide_eq_true e
theorem srtB_cD (L : List (List Nat)) : srtB (L.map cD) = true := by
  have h1 : ∀ v, isTup (cD v) = true := fun v => rfl
  have h2 : ∀ v, sh 50 (cD v) = true := fun v => by
    unfold cD
    rw [sh_tuple, List.all_map]
    exact List.all_eq_true.mpr fun x _ => sh_mD 48 x
  simp [srtB, alB, h1, h2, alike_cD]
def srtC (L : List (List Nat)) : List (List Nat) := L.mergeSort cde
theorem srt_cD (L : List (List Nat)) : (L.map cD).mergeSort dle = (srtC L).map cD := srt_map cD L
theorem mem_srtC {L : List (List Nat)} {x : List Nat} : x ∈ srtC L ↔ x ∈ L := List.mem_mergeSort
theorem len_srtC (L : List (List Nat)) : (srtC L).length = L.length := List.length_mergeSort _
theorem srtC_congr {L M : List (List Nat)} (hl : L.Nodup) (hm : M.Nodup) (lt : ∀ a ∈ L, ∀ v ∈ a, v < 64) (h : ∀ x, x ∈ L ↔ x ∈ M) : srtC L = srtC M := by
  have p : L.Perm M := (List.perm_ext_iff_of_nodup hl hm).mpr h
  have pl := List.mergeSort_perm L cde
  have pm := List.mergeSort_perm M cde
  refine srt_uniq (le := cde) (fun a ha b hb h1 h2 => cde_anti (lt a (mem_srtC.mp ha)) (lt b (mem_srtC.mp hb)) h1 h2) (List.pairwise_mergeSort cde_ord.trans cde_ord.total L) (List.pairwise_mergeSort cde_ord.trans cde_ord.total M) (pl.trans (p.trans pm.symm))
def bests (rs : List Rn) : List (List Nat) := srtC (ext rs [] (lm rs []))
theorem bests_ne {n : Nat} {rs : List Rn} (ht : TOk n rs) : bests rs ≠ [] := fun e => by
  have h := (lm_spec ht.n6 ht.ro Red.nil).1
  have := len_srtC (ext rs [] (lm rs []))
  rw [show srtC (ext rs [] (lm rs [])) = bests rs from rfl, e] at this
  exact h (List.length_eq_zero_iff.mp this.symm)
theorem mem_bests {n : Nat} {rs : List Rn} {b : List Nat} (ht : TOk n rs) : b ∈ bests rs ↔ Red b ∧ Srv rs b ∧ b.length = lm rs [] := by
  unfold bests
  rw [mem_srtC, ext_iff ht.n6 ht.ro Red.nil (fun x hx => by cases hx)]
  constructor
  · rintro ⟨a, _, b, c⟩; exact ⟨a, b, c⟩
  · rintro ⟨a, b, c⟩; exact ⟨a, fun v hv => by cases (show v = 0 from hv); exact Sp.zero _, b, c⟩
theorem bests_lt {n : Nat} {rs : List Rn} {b : List Nat} (ht : TOk n rs) (h : b ∈ bests rs) : ∀ x ∈ b, x < 2 ^ n := by
  unfold bests at h
  exact (ext_sound ht.n6 ht.ro Red.nil (fun x hx => by cases hx) (mem_srtC.mp h)).lt
theorem bests_cok {n : Nat} {rs : List Rn} {b : List Nat} (ht : TOk n rs) (h : b ∈ bests rs) : COk n b := ⟨fun v hv => ⟨((mem_bests ht).mp h).1.nz v hv, bests_lt ht h v hv⟩⟩
theorem all_found_eq {n : Nat} {rs : List Rn} (ht : TOk n rs) : F_all_found [.d (tD n rs)] = .ok (.d (.list ((bests rs).map cD))) := by
  have e1 := least_many_eq ht Red.nil
  have e2 := extended_eq (n := n) (most := lm rs []) ht.ho Red.nil
  rw [show iD [] = PyData.tuple [] from rfl] at e1 e2
  have ro := ht.ro
  simp [F_all_found, c_all_found, e1, e2]
  rw [cmpL_map iD cD fun b hb => ⟨_, by simp; rfl, by
    have r := (ext_sound ht.n6 ro Red.nil (fun x hx => by cases hx) hb).red
    have ce := code_of_eq r.lt
    rw [show PyData.tuple (nL b) = iD b from rfl] at ce
    simp [ce]⟩]
  simp [srtB_cD, srt_cD, bests]
def bst (rs : List Rn) : List Nat := (bests rs).headD []
theorem bst_mem {n : Nat} {rs : List Rn} (ht : TOk n rs) : bst rs ∈ bests rs := by
  unfold bst
  cases e : bests rs with
  | nil => exact absurd e (bests_ne ht)
  | cons x l => simp
theorem best_code_eq {n : Nat} {rs : List Rn} (ht : TOk n rs) : F_best_code [.d (tD n rs)] = .ok (.d (cD (bst rs))) := by
  have e : f2 .ix (.d (.list ((bests rs).map cD))) (.d (.int 0)) = .ok (.d (cD (bst rs))) := by
    unfold bst
    cases e : bests rs with
    | nil => exact absurd e (bests_ne ht)
    | cons x l => simp [L2.atI, L2.ixN]
  simp [F_best_code, c_best_code, check_task_eq, isTask_tD ht, all_found_eq ht, e]
theorem best_code_t {t : PyData} (h : isTask t = false) : F_best_code [.d t] = .ex 1 := by simp [F_best_code, c_best_code, check_task_eq, h]
theorem count_best_eq {n : Nat} {rs : List Rn} (ht : TOk n rs) : F_count_best [.d (tD n rs)] = .ok (.d (nI (bests rs).length)) := by
  simp [F_count_best, c_count_best, check_task_eq, isTask_tD ht, all_found_eq ht, nI]
theorem count_best_t {t : PyData} (h : isTask t = false) : F_count_best [.d t] = .ex 1 := by simp [F_count_best, c_count_best, check_task_eq, h]
theorem all_best_eq {n : Nat} {rs : List Rn} (ht : TOk n rs) : F_all_best [.d (tD n rs)] = if 200 < (bests rs).length then .ex 10 else .ok (.d (.tuple ((bests rs).map cD))) := by
  simp [F_all_best, c_all_best, check_task_eq, isTask_tD ht, all_found_eq ht]
  by_cases h : 200 < (bests rs).length
  · have h' : (200 : Int) < ((bests rs).length : Int) := by omega
    simp [h, h']
  · have h' : ¬ (200 : Int) < ((bests rs).length : Int) := by omega
    simp [h, h']
theorem all_best_t {t : PyData} (h : isTask t = false) : F_all_best [.d t] = .ex 1 := by simp [F_all_best, c_all_best, check_task_eq, h]
end Q
namespace Q
open PySem PySem.Spec PyProof.Rows L2
def c__law_sums : CS := (.cons (.set 1 (.lst false (.cons (.tup .nil) .nil))) (.cons (.forS (.rng1 (.var 0)) (.nm 2) (.cons (.set 1 (.bin .add (.var 1) (.comp false (.var 1) (.nm 3) .yes (.bin .add (.var 3) (.tup (.cons (.var 2) .nil)))))) .nil)) (.cons (.ret (.blt .srt (.cons (.comp false (.var 1) (.nm 3) (.bin .ne (.var 3) (.tup .nil)) (.var 3)) .nil))) .nil)))
def F__law_sums : Fn := run [] 4 c__law_sums
def c__law_is_reduced : CS := (.cons (.set 1 (.comp false (.var 0) (.nm 2) .yes (.bin .ix (.var 2) (.con (.int 0))))) (.cons (.ifS (.bin .ne (.bb .srtSet (.var 1)) (.var 1)) (.cons (.ret (.con (.bool false))) .nil) .nil) (.cons (.forS (.var 0) (.nm 2) (.cons (.ifS (.bin .ne (.comp false (.var 1) (.nm 3) (.and (.bin .ne (.var 3) (.bin .ix (.var 2) (.con (.int 0)))) (.bin .isin (.var 3) (.var 2))) (.var 3)) (.lst false .nil)) (.cons (.ret (.con (.bool false))) .nil) .nil) .nil)) (.cons (.ret (.con (.bool true))) .nil))))
def F__law_is_reduced : Fn := run [] 4 c__law_is_reduced
def c__law_best : CS := (.cons (.set 1 (.lst false (.cons (.tup .nil) .nil))) (.cons (.whileS (.con (.bool true)) (.cons (.set 2 (.comp false (.var 1) (.nm 5) (.call 93 (.cons (.var 5) .nil)) (.var 5))) (.cons (.set 3 (.comp false (.var 2) (.nm 5) (.bin .eq (.blt .len (.cons (.call 88 (.cons (.var 0) (.cons (.var 5) .nil))) .nil)) (.blt .len (.cons (.bin .ix (.var 0) (.con (.int 1))) .nil))) (.var 5))) (.cons (.ifS (.bin .ne (.var 3) (.lst false .nil)) (.cons (.ret (.blt .tup (.cons (.blt .srt (.cons (.var 3) .nil)) .nil))) .nil) .nil) (.cons (.set 4 (.lst true .nil)) (.cons (.forS (.var 1) (.nm 5) (.cons (.ext 4 (.comp false (.call 92 (.cons (.bin .ix (.var 0) (.con (.int 0))) .nil)) (.nm 6) (.or (.bin .eq (.var 5) (.tup .nil)) (.bin .lt (.bin .ix (.var 5) (.un .neg (.con (.int 1)))) (.var 6))) (.bin .add (.var 5) (.tup (.cons (.var 6) .nil))))) .nil)) (.frz 4 (.cons (.set 1 (.comp false (.var 4) (.nm 5) (.call 93 (.cons (.var 5) .nil)) (.var 5))) .nil)))))))) .nil))
def F__law_best : Fn := run [(88, 2, F__law_serves), (92, 1, F__law_sums), (93, 1, F__law_is_reduced)] 7 c__law_best
end Q
namespace Q
open PySem PySem.Spec PyProof.Rows L2 GF
/-! ### the law's own sums, reduced codes, best codes -/
def msk (l : List Nat) : Nat := l.foldl (fun a i => a + 2 ^ i) 0
theorem msk_key : ∀ n < 7, ∀ l ∈ rws n, bits (msk l) = l ∧ msk l < 2 ^ n := by decide +kernel
theorem msgs_bits (v : Nat) : iL (msgs v) = nL (bits v) := by
  unfold iL msgs nL bits
  rw [List.map_map]
  rfl
theorem iD_msk {n : Nat} {l : List Nat} (hn : n ≤ 6) (h : l ∈ rws n) : iD l = mD (msk l) := by
  unfold iD mD
  rw [msgs_bits, (msk_key n (by omega) l h).1]
theorem msk_nd : ∀ n < 7, ((rws n).map msk).Nodup := by decide +kernel
theorem msk_all : ∀ n < 7, ∀ v < 2 ^ n, v ∈ (rws n).map msk := by decide +kernel
def sms (n : Nat) : List Nat := (((rws n).map msk).filter fun v => !decide (v = 0)).mergeSort mle
theorem mem_sms {n v : Nat} (hn : n ≤ 6) : v ∈ sms n ↔ v ≠ 0 ∧ v < 2 ^ n := by
  unfold sms
  rw [(List.mergeSort_perm _ _).mem_iff, List.mem_filter]
  constructor
  · rintro ⟨h1, h2⟩
    obtain ⟨l, hl, rfl⟩ := List.mem_map.mp h1
    exact ⟨by simpa using h2, (msk_key n (by omega) l hl).2⟩
  · rintro ⟨h1, h2⟩
    exact ⟨msk_all n (by omega) v h2, by simpa using h1⟩
theorem sms_nd {n : Nat} (hn : n ≤ 6) : (sms n).Nodup := by
  unfold sms
  exact (List.mergeSort_perm _ _).nodup_iff.mpr ((msk_nd n (by omega)).sublist List.filter_sublist)
theorem sms_len {n : Nat} (hn : n ≤ 6) : (sms n).length ≤ 64 := by
  have := nodup_le (m := List.range 64) (sms_nd hn) fun v hv => List.mem_range.mpr (Nat.lt_of_lt_of_le ((mem_sms hn).mp hv).2 (Nat.pow_le_pow_right (n := 2) (by decide) hn))
  simpa using this
theorem law_sums_eq {n : Nat} (hn : n ≤ 6) : F__law_sums [.d (nI n)] = .ok (.d (.list ((sms n).map mD))) := by
  obtain ⟨t, e⟩ := dbl_loop (T := []) (i := 2) (j := 1) (k := 3) (by decide) (by decide) (by decide) n (m := 0) (env := [.d (nI n), .d (.list [.tuple []]), .no, .no]) (by omega) (by simp) (by simp) rfl
  have fr : fRng (.d (nI n)) = .ok (rngD 0 n) := by
    have h1 : ((n : Int) ≤ 1000000) := by omega
    have h2 : (-1000000 : Int) ≤ (n : Int) := by omega
    unfold nI
    simp [h1, h2]
  have er : (rws n).map iD = ((rws n).map msk).map mD := by
    rw [List.map_map]
    exact List.map_congr_left fun l hl => iD_msk hn hl
  have lt : ∀ v ∈ (rws n).map msk, v < 64 := fun v hv => by
    obtain ⟨l, hl, rfl⟩ := List.mem_map.mp hv
    exact Nat.lt_of_lt_of_le (msk_key n (by omega) l hl).2 (Nat.pow_le_pow_right (n := 2) (by decide) hn)
  simp [F__law_sums, c__law_sums, fr, rng_nL]
  rw [List.range_eq_range', e]
  simp [-List.map_map]
  rw [er, cmpL_pure mD (fun v => !decide (v = 0)) mD fun v hv => ⟨_, by simp; rfl, by simp [mD_nil (lt v hv)], fun _ => by simp⟩]
  simp [-List.map_map, srtB_mD, srt_mD, sms]
/-! reduced codes -/
def ascH (l : List Nat) : Bool := decide (l.Pairwise (· < ·))
theorem srtI_id {l : List Nat} : QSe.srtI (l.map fun (i : Nat) => (i : Int)) = (l.map fun (i : Nat) => (i : Int)) ↔ l.Pairwise (· < ·) := by
  constructor
  · intro h
    have := QSe.pw_srtI (l.map fun (i : Nat) => (i : Int))
    rw [h, List.pairwise_map] at this
    exact this.imp fun z => by omega
  · intro h
    have h1 := QSe.pw_srtI (l.map fun (i : Nat) => (i : Int))
    have h2 : (l.map fun (i : Nat) => (i : Int)).Pairwise (· < ·) := by
      rw [List.pairwise_map]
      exact h.imp fun z => by omega
    have nd : ∀ {m : List Int}, m.Pairwise (· < ·) → m.Nodup := fun h => h.imp fun z => by omega
    have p := (List.perm_ext_iff_of_nodup (nd h1) (nd h2)).mpr fun a => QSe.mem_srtI
    exact srt_uniq (le := fun a b => decide (a ≤ b)) (fun a _ b _ h1 h2 => by simp at h1 h2; omega) (h1.imp fun z => by simp; omega) (h2.imp fun z => by simp; omega) p
def okR (c : List Nat) (x : Nat) : Bool := (c.map hd).all fun h => decide (h = hd x) || !x.testBit h
def isR (c : List Nat) : Bool := ascH (c.map hd) && c.all (okR c)
theorem isR_iff {c : List Nat} (h0 : ∀ v ∈ c, v ≠ 0) (lt : ∀ v ∈ c, v < 64) : isR c = true ↔ Red c := by
  unfold isR ascH okR
  rw [Bool.and_eq_true, decide_eq_true_eq, List.pairwise_map, List.all_eq_true]
  constructor
  · rintro ⟨h1, h2⟩
    refine ⟨h0, lt, ?_⟩
    have key : ∀ x ∈ c, ∀ y ∈ c, hd y ≠ hd x → x.testBit (hd y) = false := fun x hx y hy n => by
      have := List.all_eq_true.mp (h2 x hx) (hd y) (List.mem_map.mpr ⟨y, hy, rfl⟩)
      simpa [n] using this
    refine (List.pairwise_iff_forall_sublist.mpr fun {a b} s => ?_)
    have lab := (List.pairwise_iff_forall_sublist.mp h1) s
    have ha : a ∈ c := s.subset (by simp)
    have hb : b ∈ c := s.subset (by simp)
    exact ⟨lab, key a ha b hb (by omega), key b hb a ha (by omega)⟩
  · intro r
    refine ⟨r.srt, fun x hx => List.all_eq_true.mpr fun h hh => ?_⟩
    obtain ⟨y, hy, rfl⟩ := List.mem_map.mp hh
    by_cases e : hd y = hd x
    · simp [e]
    · have := r.off hx hy fun z => e (by rw [z])
      simp [this]
theorem law_is_reduced_eq {c : List Nat} (h0 : ∀ v ∈ c, v ≠ 0) (lt : ∀ v ∈ c, v < 64) (l : c.length ≤ 1000) : F__law_is_reduced [.d (cD c)] = .ok (.d (.bool (isR c))) := by
  have loop : ∀ (cs : List Nat) (s2 s3 : S), (∀ x ∈ cs, x ≠ 0 ∧ x < 64) → ∃ t2 t3, evFor (.nm 2) (evS [] (.cons (.ifS (.bin .ne (.comp false (.var 1) (.nm 3) (.and (.bin .ne (.var 3) (.bin .ix (.var 2) (.con (.int 0)))) (.bin .isin (.var 3) (.var 2))) (.var 3)) (.lst false .nil)) (.cons (.ret (.con (.bool false))) .nil) .nil) .nil)) (cs.map mD) [.d (cD c), .d (.list (nL (c.map hd))), s2, s3] =
      if cs.all (okR c) = true then .nx [.d (cD c), .d (.list (nL (c.map hd))), t2, t3] else .rt (.d (.bool false)) := fun cs => by
    induction cs with
    | nil => exact fun s2 s3 _ => ⟨s2, s3, rfl⟩
    | cons x cs ih =>
      intro s2 s3 hx
      obtain ⟨x0, x64⟩ := hx x List.mem_cons_self
      obtain ⟨t2, t3, e⟩ := ih (.d (mD x)) s3 fun y hy => hx y (List.mem_cons_of_mem _ hy)
      refine ⟨t2, t3, ?_⟩
      rw [List.map_cons, evFor_nm]
      simp [-List.map_map]
      rw [show nL (c.map hd) = (c.map hd).map nI from rfl, cmpL_pure nI (fun h => !decide (h = hd x) && x.testBit h) nI fun h hh => ⟨_, by simp; rfl, ?_, fun _ => by simp⟩]
      · have q : ((c.map hd).filter fun h => !decide (h = hd x) && x.testBit h) = [] ↔ okR c x = true := by
          unfold okR
          rw [List.filter_eq_nil_iff, List.all_eq_true]
          refine forall_congr' fun h => forall_congr' fun _ => ?_
          cases decide (h = hd x) <;> cases x.testBit h <;> simp
        rw [show (List.map nI (c.map hd)) = nL (c.map hd) from rfl] at *
        by_cases z : ((c.map hd).filter fun h => !decide (h = hd x) && x.testBit h) = []
        · rw [z]
          have z' := q.mp z
          simp [-List.map_map, -List.all_map, z']
          simp [-List.map_map, -List.all_map] at e
          exact e
        · have z' : okR c x = false := by
            cases y : okR c x with
            | false => rfl
            | true => exact absurd (q.mpr y) z
          cases y : (c.map hd).filter fun h => !decide (h = hd x) && x.testBit h with
          | nil => exact absurd y z
          | cons a as => simp [-List.map_map, -List.all_map, z', PyData.eqvAll]
      · have ix := mD_ix0 x64 x0
        by_cases eh : h = hd x
        · simp [ix, eh]
        · have mi : f2 .isin (.d (nI h)) (.d (mD x)) = .ok (.d (.bool (x.testBit h))) := by
            have : memD (nI h) (iL (msgs x)) = x.testBit h := memD_bit x64
            unfold mD
            simp [this]
          have eh' : ¬ (h : Int) = (hd x : Int) := by omega
          simp [ix, eh', eh, mi]
  obtain ⟨t2, t3, e⟩ := loop c .no .no fun x hx => ⟨h0 x hx, lt x hx⟩
  have fs : fSeq (.d (cD c)) = .ok (c.map mD) := rfl
  simp [F__law_is_reduced, c__law_is_reduced, fs]
  rw [cmpL_map mD (fun v => nI (hd v)) fun v hv => ⟨_, by simp; rfl, by simp [mD_ix0 (lt v hv) (h0 v hv)]⟩]
  have e1 : c.map (fun v => nI (hd v)) = nL (c.map hd) := by unfold nL; rw [List.map_map]; rfl
  rw [e1]
  have l1 : ((c.map hd).map fun (i : Nat) => (i : Int)).length ≤ 4000 := by simp; omega
  have l2 : (QSe.srtI ((c.map hd).map fun (i : Nat) => (i : Int))).length < 64 := by
    have nd : (QSe.srtI ((c.map hd).map fun (i : Nat) => (i : Int))).Nodup := (QSe.pw_srtI _).imp fun z => by omega
    have sub : ∀ j ∈ QSe.srtI ((c.map hd).map fun (i : Nat) => (i : Int)), j ∈ (List.range 7).map fun (i : Nat) => (i : Int) := fun j hj => by
      obtain ⟨h, hh, rfl⟩ := List.mem_map.mp (QSe.mem_srtI.mp hj)
      obtain ⟨v, hv, rfl⟩ := List.mem_map.mp hh
      exact List.mem_map.mpr ⟨hd v, List.mem_range.mpr (by have := (hd_spec (h0 v hv) (lt v hv)).1; omega), rfl⟩
    have := nodup_leA nd sub
    rw [List.length_map, List.length_range] at this
    omega
  have fS : fSrtSet (intsOf (nL (c.map hd))) = .ok (.d (.list ((QSe.srtI ((c.map hd).map fun (i : Nat) => (i : Int))).map .int))) := by
    rw [intsOf_nL]
    show gd _ _ = _
    rw [decide_eq_true l1, decide_eq_true l2]
    rfl
  have eq : PyData.eqvAll ((QSe.srtI ((c.map hd).map fun (i : Nat) => (i : Int))).map .int) (nL (c.map hd)) = ascH (c.map hd) := by
    rw [show nL (c.map hd) = ((c.map hd).map fun (i : Nat) => (i : Int)).map .int from by unfold nL; rw [List.map_map (f := fun (i : Nat) => (i : Int))]; rfl, eqvAll_kI]
    unfold ascH
    rw [decide_eq_decide]
    exact srtI_id
  have fb : fBB .srtSet (.d (.list (nL (c.map hd)))) = fSrtSet (intsOf (nL (c.map hd))) := rfl
  have shl : ∀ l : List Int, ((l.map PyData.int).all (sh 59)) = true := fun l => by simp
  unfold isR
  simp [-List.map_map, -List.all_map, fb, fS, eq]
  cases a : ascH (c.map hd) with
  | false => simp
  | true =>
    simp only [shl, Bool.true_or, gd_t, Bool.not_true, Bool.false_eq_true, if_false, Rs.th_ok, fTru_2, Out.seq_nx, Bool.true_and, evS_cons, evS_for, ev_var_i, ev_var_e, List.getElem?_cons_zero, fSlot_1, Rs.bind_ok, fs]
    rw [e]
    cases q : c.all (okR c) with
    | true => simp
    | false => simp
end Q
namespace Q
open PySem PySem.Spec PyProof.Rows L2 GF
/-! ### all reduced codes, level by level -/
theorem whr_len {α : Type} (f : α → Bool) (l : List α) : (whr f l).length = l.length ↔ ∀ x ∈ l, f x = true := by
  have e : (whr f l).length = (l.filter f).length := by
    unfold whr
    rw [List.length_map]
    have : ∀ (l : List α) (k : Nat), ((l.zipIdx k).filter fun p => f p.1).length = (l.filter f).length := fun l => by
      induction l with
      | nil => intro k; rfl
      | cons x l ih =>
        intro k
        rw [List.zipIdx_cons, List.filter_cons, List.filter_cons]
        by_cases h : f x = true
        · rw [if_pos h, if_pos h, List.length_cons, List.length_cons, ih]
        · rw [if_neg h, if_neg h, ih]
    exact this l 0
  rw [e, List.length_filter_eq_length_iff]
theorem bas_self {b : List Nat} (h : Red b) : bas b = b := (bas_red h.lt).uniq h (bas_sp h.lt)
def svs (rs : List Rn) (c : List Nat) : Bool := decide ((srv rs (bas c)).length = rs.length)
theorem svs_iff {rs : List Rn} {c : List Nat} (hc : ∀ v ∈ c, v < 64) : svs rs c = true ↔ Srv rs c := by
  unfold svs srv Srv
  rw [decide_eq_true_eq, whr_len]
  refine forall_congr' fun r => forall_congr' fun _ => ?_
  rw [tld_iff (bas_red hc).lt]
  exact Tells.congr (bas_sp hc)
theorem law_serves_srv {n : Nat} {rs : List Rn} {c : List Nat} (hr : ∀ r ∈ rs, r.1 < 6 ∧ r.2 < 64) (hc : ∀ v ∈ c, v < 64) : F__law_serves [.d (tD n rs), .d (cD c)] = .ok (.d (.tuple (nL (srv rs (bas c))))) := by
  rw [law_serves_eq hr hc]
  have : whr (fun r => tlls ((spl c).mergeSort mle) r.2 r.1) rs = srv rs (bas c) := by
    unfold srv
    congr 1
    funext r
    exact tlls_tld hc _ _
  rw [this]
def ltM (u v : Nat) : Bool := PySem.W.dataLt (mD u) (mD v)
theorem lt_mD (u v : Nat) : f2 .lt (.d (mD u)) (.d (mD v)) = .ok (.d (.bool (ltM u v))) := by
  have h : ltOk (mD u) (mD v) = true := by
    unfold ltOk
    rw [alike_mD, sh_mD 59 u]
    rfl
  show gd (ltOk (mD u) (mD v)) _ = _
  rw [h]
  rfl
theorem ltM_hd {u v : Nat} (hu : u < 64) (hv : v < 64) (u0 : u ≠ 0) (v0 : v ≠ 0) (h : hd u < hd v) : ltM u v = true := by
  have key : ∀ u < 64, ∀ v < 64, (u == 0 || v == 0 || !decide (hd u < hd v) || ltM u v) = true := by decide +kernel
  have := key u hu v hv
  simpa [u0, v0, h] using this
def lst (c : List Nat) : Nat := c.getLastD 0
theorem lst_app (d : List Nat) (v : Nat) : lst (d ++ [v]) = v := by unfold lst; simp
def okX (c : List Nat) (v : Nat) : Bool := decide (c = []) || ltM (lst c) v
def nxs (n : Nat) (c : List Nat) : List (List Nat) := ((sms n).filter (okX c)).map fun v => c ++ [v]
def lvl (n : Nat) : Nat → List (List Nat)
  | 0 => [[]]
  | m + 1 => ((lvl n m).flatMap (nxs n)).filter isR
theorem Red.sub {a b : List Nat} (h : Red b) (s : a.Sublist b) : Red a := ⟨fun x hx => h.nz x (s.subset hx), fun x hx => h.lt x (s.subset hx), h.pw.sublist s⟩
theorem mem_nxs {n : Nat} {c d : List Nat} : d ∈ nxs n c ↔ ∃ v ∈ sms n, (c = [] ∨ ltM (lst c) v = true) ∧ d = c ++ [v] := by
  unfold nxs okX
  simp only [List.mem_map, List.mem_filter, Bool.or_eq_true, decide_eq_true_eq]
  constructor
  · rintro ⟨v, ⟨h1, h2⟩, rfl⟩; exact ⟨v, h1, h2, rfl⟩
  · rintro ⟨v, h1, h2, rfl⟩; exact ⟨v, ⟨h1, h2⟩, rfl⟩
theorem p64 {n v : Nat} (hn : n ≤ 6) (h : v < 2 ^ n) : v < 64 := Nat.lt_of_lt_of_le h (Nat.pow_le_pow_right (n := 2) (by decide) hn)
theorem mem_lvl {n : Nat} (hn : n ≤ 6) : ∀ {m : Nat} {c : List Nat}, c ∈ lvl n m ↔ Red c ∧ c.length = m ∧ ∀ x ∈ c, x < 2 ^ n
  | 0, c => by
    constructor
    · intro h
      have : c = [] := by simpa [lvl] using h
      subst this
      exact ⟨Red.nil, rfl, fun x hx => by cases hx⟩
    · rintro ⟨_, h, _⟩
      have : c = [] := List.length_eq_zero_iff.mp h
      simp [lvl, this]
  | m + 1, c => by
    unfold lvl
    rw [List.mem_filter, List.mem_flatMap]
    constructor
    · rintro ⟨⟨d, hd', hc⟩, hr⟩
      obtain ⟨v, hv, _, rfl⟩ := mem_nxs.mp hc
      obtain ⟨r, l, lt⟩ := (mem_lvl hn).mp hd'
      obtain ⟨v0, vn⟩ := (mem_sms hn).mp hv
      have ltc : ∀ x ∈ d ++ [v], x < 2 ^ n := fun x hx => (List.mem_append.mp hx).elim (lt x) fun z => by rw [List.mem_singleton.mp z]; exact vn
      have nzc : ∀ x ∈ d ++ [v], x ≠ 0 := fun x hx => (List.mem_append.mp hx).elim (r.nz x) fun z => by rw [List.mem_singleton.mp z]; exact v0
      exact ⟨(isR_iff nzc fun x hx => p64 hn (ltc x hx)).mp hr, by simp [l], ltc⟩
    · rintro ⟨r, l, lt⟩
      rcases List.eq_nil_or_concat c with rfl | ⟨d, v, rfl⟩
      · simp at l
      · rw [List.concat_eq_append] at *
        have rd : Red d := Red.sub r (List.sublist_append_left d [v])
        have vm : v ∈ d ++ [v] := by simp
        refine ⟨⟨d, (mem_lvl hn).mpr ⟨rd, by simpa using l, fun x hx => lt x (List.mem_append.mpr (.inl hx))⟩, mem_nxs.mpr ⟨v, (mem_sms hn).mpr ⟨r.nz v vm, lt v vm⟩, ?_, rfl⟩⟩, (isR_iff r.nz r.lt).mpr r⟩
        rcases List.eq_nil_or_concat d with rfl | ⟨e, u, rfl⟩
        · exact .inl rfl
        · rw [List.concat_eq_append] at *
          refine .inr ?_
          rw [lst_app]
          have um : u ∈ e ++ [u] ++ [v] := by simp
          have pw := (List.pairwise_append.mp r.pw).2.2 u (by simp) v (by simp)
          exact ltM_hd (r.lt u um) (r.lt v vm) (r.nz u um) (r.nz v vm) pw.1
theorem nodup_flat {α β : Type} {f : α → List β} : ∀ {l : List α}, l.Nodup → (∀ a ∈ l, (f a).Nodup) → (∀ a ∈ l, ∀ b ∈ l, ∀ x, x ∈ f a → x ∈ f b → a = b) → (l.flatMap f).Nodup
  | [], _, _, _ => by simp
  | a :: l, nd, h1, h2 => by
    have nd' := List.nodup_cons.mp nd
    rw [List.flatMap_cons, List.nodup_append]
    refine ⟨h1 a List.mem_cons_self, nodup_flat nd'.2 (fun b hb => h1 b (List.mem_cons_of_mem _ hb)) fun b hb c hc => h2 b (List.mem_cons_of_mem _ hb) c (List.mem_cons_of_mem _ hc), fun x hx y hy e => ?_⟩
    subst e
    obtain ⟨b, hb, hxb⟩ := List.mem_flatMap.mp hy
    have := h2 a List.mem_cons_self b (List.mem_cons_of_mem _ hb) x hx hxb
    rw [this] at nd'
    exact nd'.1 hb
theorem nodup_lvl {n : Nat} (hn : n ≤ 6) : ∀ m, (lvl n m).Nodup
  | 0 => by simp [lvl]
  | m + 1 => by
    unfold lvl
    refine (nodup_flat (nodup_lvl hn m) (fun c _ => ?_) fun a _ b _ x hx hy => ?_).sublist List.filter_sublist
    · unfold nxs
      exact List.pairwise_map.mpr (((sms_nd hn).sublist List.filter_sublist).imp fun ne h => ne (by simpa using h))
    · obtain ⟨u, _, _, e1⟩ := mem_nxs.mp hx
      obtain ⟨v, _, _, e2⟩ := mem_nxs.mp hy
      rw [e1] at e2
      exact (List.append_inj' e2 rfl).1
theorem nxs_len {n : Nat} (hn : n ≤ 6) (c : List Nat) : (nxs n c).length ≤ 64 := by
  unfold nxs
  rw [List.length_map]
  exact Nat.le_trans (List.length_filter_le _ _) (sms_len hn)
/-! the law's best codes -/
theorem ext_loop {n : Nat} {rs : List Rn} (hn : n ≤ 6) (s1 s2 s3 : S) : ∀ (cs acc : List (List Nat)) (s5 s6 : S), (∀ c ∈ cs, (∀ v ∈ c, v < 64) ∧ c.length ≤ 6) → acc.length + 64 * cs.length ≤ 1000000 → ∃ t5 t6,
    evFor (.nm 5) (evS [(88, 2, F__law_serves), (92, 1, F__law_sums), (93, 1, F__law_is_reduced)] (.cons (.ext 4 (.comp false (.call 92 (.cons (.bin .ix (.var 0) (.con (.int 0))) .nil)) (.nm 6) (.or (.bin .eq (.var 5) (.tup .nil)) (.bin .lt (.bin .ix (.var 5) (.un .neg (.con (.int 1)))) (.var 6))) (.bin .add (.var 5) (.tup (.cons (.var 6) .nil))))) .nil)) (cs.map cD) [.d (tD n rs), s1, s2, s3, .own false (acc.map cD), s5, s6] = .nx [.d (tD n rs), s1, s2, s3, .own false ((acc ++ cs.flatMap (nxs n)).map cD), t5, t6]
  | [], acc, s5, s6, _, _ => ⟨s5, s6, by simp⟩
  | c :: cs, acc, s5, s6, h, hl => by
    obtain ⟨hc, lc⟩ := h c List.mem_cons_self
    have nl := nxs_len hn c
    rw [List.length_cons] at hl
    obtain ⟨t5, t6, e⟩ := ext_loop (rs := rs) hn s1 s2 s3 cs (acc ++ nxs n c) (.d (cD c)) s6 (fun d hd => h d (List.mem_cons_of_mem _ hd)) (by rw [List.length_append]; omega)
    refine ⟨t5, t6, ?_⟩
    have ix0 : f2 .ix (.d (tD n rs)) (.d (.int 0)) = .ok (.d (nI n)) := rfl
    have c0 : PyData.eqv (cD c) (.tuple []) = decide (c = []) := by
      have := eqv_cD hc (b := []) (fun v hv => by cases hv)
      rwa [show cD [] = PyData.tuple [] from rfl] at this
    have e0 : f2 .eq (.d (cD c)) (.d (.tuple [])) = .ok (.d (.bool (decide (c = [])))) := by
      show gd _ _ = _
      rw [show (sh 60 (cD c) || sh 60 (PyData.tuple [])) = true by simp, c0]
      rfl
    have la : c ≠ [] → f2 .ix (.d (cD c)) (.d (.int (-1))) = .ok (.d (mD (lst c))) := fun ne => by
      rcases List.eq_nil_or_concat c with z | ⟨d, v, z⟩
      · exact absurd z ne
      · rw [List.concat_eq_append] at z
        subst z
        rw [lst_app]
        have q : L2.atI ((d ++ [v]).map mD) (-1) = some (mD v) := by
          unfold L2.atI L2.ixN
          rw [if_neg (by decide), if_pos (by simp; omega)]
          have : (-1 + ((((d ++ [v]).map mD).length : Nat) : Int)).toNat = d.length := by simp; omega
          simp only [Option.bind_some, this]
          simp
        show optR (L2.atI ((d ++ [v]).map mD) (-1)) .d = _
        rw [q]
        rfl
    have ad : ∀ v, f2 .add (.d (cD c)) (.d (.tuple [mD v])) = .ok (.d (cD (c ++ [v]))) := fun v => by
      have := cD_add (a := c) (b := [v]) (by simp; omega)
      exact this
    rw [List.map_cons, evFor_nm]
    simp [-List.map_map, ix0, law_sums_eq hn]
    rw [cmpL_pure mD (okX c) (fun v => cD (c ++ [v])) fun v hv => ⟨_, by simp; rfl, ?_, fun _ => by simp [ad]⟩]
    · have lg : acc.length + ((sms n).filter (okX c)).length ≤ 1000000 := by
        have : (nxs n c).length = ((sms n).filter (okX c)).length := by unfold nxs; simp
        omega
      have em : List.map cD acc ++ List.map (fun v => cD (c ++ [v])) (List.filter (okX c) (sms n)) = (acc ++ nxs n c).map cD := by
        unfold nxs
        rw [List.map_append, List.map_map]
        rfl
      have e' : (acc ++ nxs n c ++ cs.flatMap (nxs n)) = acc ++ (c :: cs).flatMap (nxs n) := by simp
      simp [-List.map_map, -List.map_append, lg]
      rw [em]
      refine e.trans ?_
      simp
    · unfold okX
      by_cases z : c = []
      · subst z
        simp [c0]
      · simp [c0, z, la z, lt_mD]
def fnd (n : Nat) (rs : List Rn) (m : Nat) : List (List Nat) := (lvl n m).filter (svs rs)
theorem fnd_small {n m : Nat} {rs : List Rn} (ht : TOk n rs) (h : m < lm rs []) : fnd n rs m = [] := by
  unfold fnd
  rw [List.filter_eq_nil_iff]
  intro c hc hs
  obtain ⟨r, l, lt⟩ := (mem_lvl ht.n6).mp hc
  have := lm_le ht.n6 ht.ro Red.nil r (fun v hv => by cases (show v = 0 from hv); exact Sp.zero _) ((svs_iff r.lt).mp hs)
  omega
theorem fnd_lm {n : Nat} {rs : List Rn} (ht : TOk n rs) : srtC (fnd n rs (lm rs [])) = bests rs := by
  unfold bests fnd
  refine srtC_congr ((nodup_lvl ht.n6 _).sublist List.filter_sublist) nodup_ext (fun a ha v hv => ?_) fun x => ?_
  · exact ((mem_lvl ht.n6).mp (List.mem_filter.mp ha).1).1.lt v hv
  · rw [List.mem_filter, mem_lvl ht.n6]
    have := mem_bests (b := x) ht
    unfold bests at this
    rw [mem_srtC] at this
    rw [this]
    constructor
    · rintro ⟨⟨r, l, lt⟩, s⟩
      exact ⟨r, (svs_iff r.lt).mp s, l⟩
    · rintro ⟨r, s, l⟩
      exact ⟨⟨r, l, bests_lt ht (by unfold bests; rw [mem_srtC]; exact this.mpr ⟨r, s, l⟩)⟩, (svs_iff r.lt).mpr s⟩
theorem best_loop {n : Nat} {rs : List Rn} (ht : TOk n rs) : ∀ (k m fu : Nat) (s2 s3 s4 s5 s6 : S), m + k = lm rs [] → k < fu →
    evWh (ev [(88, 2, F__law_serves), (92, 1, F__law_sums), (93, 1, F__law_is_reduced)] (.con (.bool true))).b (evS [(88, 2, F__law_serves), (92, 1, F__law_sums), (93, 1, F__law_is_reduced)] (.cons (.set 2 (.comp false (.var 1) (.nm 5) (.call 93 (.cons (.var 5) .nil)) (.var 5))) (.cons (.set 3 (.comp false (.var 2) (.nm 5) (.bin .eq (.blt .len (.cons (.call 88 (.cons (.var 0) (.cons (.var 5) .nil))) .nil)) (.blt .len (.cons (.bin .ix (.var 0) (.con (.int 1))) .nil))) (.var 5))) (.cons (.ifS (.bin .ne (.var 3) (.lst false .nil)) (.cons (.ret (.blt .tup (.cons (.blt .srt (.cons (.var 3) .nil)) .nil))) .nil) .nil) (.cons (.set 4 (.lst true .nil)) (.cons (.forS (.var 1) (.nm 5) (.cons (.ext 4 (.comp false (.call 92 (.cons (.bin .ix (.var 0) (.con (.int 0))) .nil)) (.nm 6) (.or (.bin .eq (.var 5) (.tup .nil)) (.bin .lt (.bin .ix (.var 5) (.un .neg (.con (.int 1)))) (.var 6))) (.bin .add (.var 5) (.tup (.cons (.var 6) .nil))))) .nil)) (.frz 4 (.cons (.set 1 (.comp false (.var 4) (.nm 5) (.call 93 (.cons (.var 5) .nil)) (.var 5))) .nil)))))))) fu [.d (tD n rs), .d (.list ((lvl n m).map cD)), s2, s3, s4, s5, s6] = .rt (.d (.tuple ((bests rs).map cD)))
  | k, m, 0, _, _, _, _, _, _, h => by omega
  | k, m, fu + 1, s2, s3, s4, s5, s6, hk, hf => by
    have hn := ht.n6
    have all : ∀ c ∈ lvl n m, (∀ v ∈ c, v ≠ 0) ∧ (∀ v ∈ c, v < 64) ∧ c.length ≤ 6 ∧ isR c = true := fun c hc => by
      obtain ⟨r, l, lt⟩ := (mem_lvl hn).mp hc
      exact ⟨r.nz, r.lt, r.len6, (isR_iff r.nz r.lt).mpr r⟩
    have ll : (lvl n m).length ≤ 2825 := reds_len (nodup_lvl hn m) fun c hc => ((mem_lvl hn).mp hc).1
    have ix1 : f2 .ix (.d (tD n rs)) (.d (.int 1)) = .ok (.d (.tuple (rs.map rD))) := rfl
    have f1 : (lvl n m).filter isR = lvl n m := List.filter_eq_self.mpr fun c hc => (all c hc).2.2.2
    unfold evWh
    simp [-List.map_map]
    rw [cmpL_pure cD isR cD fun c hc => ⟨_, by simp; rfl, by simp [law_is_reduced_eq (all c hc).1 (all c hc).2.1 (by have := (all c hc).2.2.1; omega)], fun _ => by simp⟩, f1]
    simp [-List.map_map]
    rw [cmpL_pure cD (svs rs) cD fun c hc => ⟨_, by simp; rfl, by
      have := law_serves_srv (n := n) (rs := rs) ht.lt (all c hc).2.1
      simp [this, ix1, svs, Int.natCast_inj], fun _ => by simp⟩]
    rw [show (lvl n m).filter (svs rs) = fnd n rs m from rfl]
    cases k with
    | zero =>
      have e : m = lm rs [] := by omega
      subst e
      have ne : fnd n rs (lm rs []) ≠ [] := fun z => by
        have := fnd_lm ht
        rw [z] at this
        exact bests_ne ht (this.symm.trans (by simp [srtC]))
      have ee : PyData.eqvAll ((fnd n rs (lm rs [])).map cD) [] = false := by
        cases q : fnd n rs (lm rs []) with
        | nil => exact absurd q ne
        | cons x xs => simp [PyData.eqvAll]
      simp [-List.map_map, ee, srtB_cD, srt_cD, fnd_lm ht]
    | succ k =>
      have z := fnd_small ht (m := m) (by omega)
      rw [z]
      simp [-List.map_map]
      obtain ⟨t5, t6, e⟩ := ext_loop (rs := rs) hn (.d (.list ((lvl n m).map cD))) (.d (.list ((lvl n m).map cD))) (.d (.list [])) (lvl n m) [] s5 s6 (fun c hc => ⟨(all c hc).2.1, (all c hc).2.2.1⟩) (by simp; omega)
      rw [List.map_nil, List.nil_append] at e
      rw [e]
      simp [-List.map_map]
      rw [cmpL_pure cD isR cD fun c hc => ⟨_, by simp; rfl, ?_, fun _ => by simp⟩]
      · rw [show ((lvl n m).flatMap (nxs n)).filter isR = lvl n (m + 1) from rfl]
        exact best_loop ht k (m + 1) fu _ _ _ _ _ (by omega) (by omega)
      · obtain ⟨d, hd', hc'⟩ := List.mem_flatMap.mp hc
        obtain ⟨v, hv, _, rfl⟩ := mem_nxs.mp hc'
        obtain ⟨r, l, lt⟩ := (mem_lvl hn).mp hd'
        obtain ⟨v0, vn⟩ := (mem_sms hn).mp hv
        have l6 := r.len6
        have a1 : ∀ x ∈ d ++ [v], x ≠ 0 := fun x hx => (List.mem_append.mp hx).elim (r.nz x) fun z => by rw [List.mem_singleton.mp z]; exact v0
        have a2 : ∀ x ∈ d ++ [v], x < 64 := fun x hx => (List.mem_append.mp hx).elim (r.lt x) fun z => by rw [List.mem_singleton.mp z]; exact p64 hn vn
        simp [law_is_reduced_eq a1 a2 (by simp; omega)]
theorem law_best_eq {n : Nat} {rs : List Rn} (ht : TOk n rs) : F__law_best [.d (tD n rs)] = .ok (.d (.tuple ((bests rs).map cD))) := by
  have l6 := (lm_spec ht.n6 ht.ro Red.nil).2.2.1
  have e := best_loop ht (lm rs []) 0 fuel .no .no .no .no .no (by omega) (by simp [fuel]; omega)
  rw [show List.map cD (lvl n 0) = [PyData.tuple []] from rfl] at e
  simp [F__law_best, c__law_best]
  rw [e]
  rfl
end Q
namespace Q
open PySem PySem.Spec PyProof.Rows L2 GF
theorem eqv_cc (c : List Nat) : PyData.eqv (cD c) (cD c) = true := PySem.W.eqv_refl_alike _ (alike_cD c c)
theorem eqvAll_cc : ∀ L : List (List Nat), PyData.eqvAll (L.map cD) (L.map cD) = true
  | [] => rfl
  | c :: L => by rw [List.map_cons, PyData.eqvAll, eqv_cc, eqvAll_cc L]; rfl
theorem sh_cD2 (k : Nat) (c : List Nat) : sh (k + 2) (cD c) = true := by
  unfold cD
  rw [sh_tuple, List.all_map]
  exact List.all_eq_true.mpr fun x _ => sh_mD k x
@[simp] theorem all_shc (k : Nat) (L : List (List Nat)) : L.all (sh (k + 2) ∘ cD) = true := List.all_eq_true.mpr fun c _ => sh_cD2 k c
@[simp] theorem eqv_ret (z : Str) (x y : PyData) : PyData.eqv (.tuple [.str z, x]) (.tuple [.str z, y]) = PyData.eqv x y := by
  simp [PyData.eqv, PyData.eqvAll]
theorem eqv_tup (xs ys : List PyData) : PyData.eqv (.tuple xs) (.tuple ys) = PyData.eqvAll xs ys := by rw [PyData.eqv]
end Q
namespace Q
open PySem PySem.Spec PyProof.Rows L2
def c_tells_more : CS := (.cons (.forS (.bin .ix (.var 0) (.con (.int 1))) (.cons (.nm 2) (.cons (.nm 3) .nil)) (.cons (.ifS (.not (.blt .all (.cons (.comp false (.call 25 (.cons (.bin .ix (.var 0) (.con (.int 0))) (.cons (.var 1) (.cons (.var 3) .nil)))) (.nm 4) .yes (.or (.bin .eq (.var 4) (.var 2)) (.bin .isin (.var 4) (.var 3)))) .nil))) (.cons (.ret (.con (.bool true))) .nil) .nil) .nil)) (.cons (.ret (.con (.bool false))) .nil))
def F_tells_more : Fn := run [(25, 3, F_learned_from)] 5 c_tells_more
def c_discreet_bases : CS := (.cons (.set 1 (.done (.tup .nil))) (.frz 1 (.cons (.forS (.bin .ix (.var 0) (.con (.int 1))) (.cons (.nm 2) (.cons (.nm 3) .nil)) (.cons (.par 4 5 (.call 41 (.cons (.var 2) (.cons (.var 3) .nil))) .dnew) (.cons (.forS (.var 1) (.nm 6) (.cons (.ifS (.call 12 (.cons (.var 6) (.cons (.call 6 (.cons (.var 3) .nil)) (.cons (.var 2) .nil)))) (.cons (.dput 5 (.var 6)) .nil) (.cons (.set 7 (.comp false (.var 4) (.nm 8) .yes (.call 10 (.cons (.var 6) (.cons (.var 8) .nil))))) (.cons (.dupd 5 (.dof (.comp false (.var 7) (.nm 8) (.not (.call 67 (.cons (.var 0) (.cons (.var 8) .nil)))) (.tup (.cons (.var 8) (.cons (.con (.bool true)) .nil)))))) .nil))) .nil)) (.frz 5 (.cons (.set 1 (.var 5)) .nil))))) (.cons (.ret (.blt .lst (.cons (.var 1) .nil))) .nil))))
def F_discreet_bases : Fn := run [(6, 1, F_number_of), (10, 2, F_joined), (12, 3, F_told), (41, 2, F_wishes), (67, 2, F_tells_more)] 9 c_discreet_bases
def c_fewest_discreet : CS := (.cons (.drop (.call 18 (.cons (.var 0) .nil))) (.cons (.set 1 (.comp false (.call 68 (.cons (.var 0) .nil)) (.nm 2) .yes (.blt .len (.cons (.var 2) .nil)))) (.cons (.ret (.ite (.bin .ne (.var 1) (.lst false .nil)) (.blt .min (.cons (.var 1) .nil)) (.con .none))) .nil)))
def F_fewest_discreet : Fn := run [(18, 1, F_check_task), (68, 1, F_discreet_bases)] 3 c_fewest_discreet
def c_is_discreet : CS := (.cons (.drop (.call 28 (.cons (.var 0) (.cons (.var 1) .nil)))) (.cons (.set 2 (.call 24 (.cons (.var 1) .nil))) (.cons (.ret (.and (.call 30 (.cons (.var 0) (.cons (.var 2) .nil))) (.not (.call 67 (.cons (.var 0) (.cons (.var 2) .nil)))))) .nil)))
def F_is_discreet : Fn := run [(24, 1, F_basis_for), (28, 2, F_check_both), (30, 2, F_does_serve), (67, 2, F_tells_more)] 3 c_is_discreet
def c_discreet_code : CS := (.cons (.drop (.call 18 (.cons (.var 0) .nil))) (.cons (.set 1 (.comp false (.call 68 (.cons (.var 0) .nil)) (.nm 2) .yes (.tup (.cons (.blt .len (.cons (.var 2) .nil)) (.cons (.call 37 (.cons (.var 2) .nil)) .nil))))) (.cons (.ret (.ite (.bin .ne (.var 1) (.lst false .nil)) (.bin .ix (.blt .min (.cons (.var 1) .nil)) (.con (.int 1))) (.con .none))) .nil)))
def F_discreet_code : Fn := run [(18, 1, F_check_task), (37, 1, F_code_of), (68, 1, F_discreet_bases)] 3 c_discreet_code
def c__law_discreet : CS := (.cons (.set 2 (.call 86 (.cons (.var 1) .nil))) (.cons (.forS (.bin .ix (.var 0) (.con (.int 1))) (.cons (.nm 3) (.cons (.nm 4) .nil)) (.cons (.set 5 (.comp false (.rng1 (.bin .ix (.var 0) (.con (.int 0)))) (.nm 6) (.call 87 (.cons (.var 2) (.cons (.var 4) (.cons (.var 6) .nil)))) (.var 6))) (.cons (.ifS (.or (.bin .notin (.var 3) (.var 5)) (.bin .ne (.comp false (.var 5) (.nm 6) (.and (.bin .ne (.var 6) (.var 3)) (.bin .notin (.var 6) (.var 4))) (.var 6)) (.lst false .nil))) (.cons (.ret (.con (.bool false))) .nil) .nil) .nil))) (.cons (.ret (.con (.bool true))) .nil)))
def F__law_discreet : Fn := run [(86, 1, F__law_span), (87, 3, F__law_tells)] 7 c__law_discreet
def c__law_first : CS := (.cons (.set 1 (.lst false (.cons (.tup .nil) .nil))) (.cons (.whileS (.bin .ne (.var 1) (.lst false .nil)) (.cons (.set 2 (.comp false (.var 1) (.nm 4) (.call 108 (.cons (.var 0) (.cons (.var 4) .nil))) (.var 4))) (.cons (.ifS (.bin .ne (.var 2) (.lst false .nil)) (.cons (.ret (.blt .min (.cons (.var 2) .nil))) .nil) .nil) (.cons (.set 3 (.lst true .nil)) (.cons (.forS (.var 1) (.nm 4) (.cons (.ext 3 (.comp false (.call 92 (.cons (.bin .ix (.var 0) (.con (.int 0))) .nil)) (.nm 5) (.or (.bin .eq (.var 4) (.tup .nil)) (.bin .lt (.bin .ix (.var 4) (.un .neg (.con (.int 1)))) (.var 5))) (.bin .add (.var 4) (.tup (.cons (.var 5) .nil))))) .nil)) (.frz 3 (.cons (.set 1 (.comp false (.var 3) (.nm 4) (.call 93 (.cons (.var 4) .nil)) (.var 4))) .nil))))))) (.cons (.ret (.con .none)) .nil)))
def F__law_first : Fn := run [(92, 1, F__law_sums), (93, 1, F__law_is_reduced), (108, 2, F__law_discreet)] 6 c__law_first
end Q
namespace Q
open PySem PySem.Spec PyProof.Rows L2 GF
/-! ### discreet bases -/
def tmr (n : Nat) (b : List Nat) (r : Rn) : Bool := !((lrn n b r.2).all fun m => decide (m = r.1) || r.2.testBit m)
def tm (n : Nat) (rs : List Rn) (b : List Nat) : Bool := rs.any (tmr n b)
theorem tm_iff {n : Nat} {rs : List Rn} {b : List Nat} (hb : ∀ x ∈ b, x < 64) : tm n rs b = true ↔ ∃ r ∈ rs, ∃ m < n, Tells b r.2 m ∧ m ≠ r.1 ∧ r.2.testBit m = false := by
  unfold tm tmr lrn
  rw [List.any_eq_true]
  refine exists_congr fun r => and_congr_right fun _ => ?_
  rw [Bool.not_eq_true', List.all_eq_false]
  constructor
  · rintro ⟨m, hm, h⟩
    rw [List.mem_filter, List.mem_range] at hm
    simp only [Bool.or_eq_true, decide_eq_true_eq, not_or, Bool.not_eq_true] at h
    exact ⟨m, hm.1, (tld_iff hb).mp hm.2, h.1, h.2⟩
  · rintro ⟨m, h1, h2, h3, h4⟩
    exact ⟨m, List.mem_filter.mpr ⟨List.mem_range.mpr h1, (tld_iff hb).mpr h2⟩, by simp [h3, h4]⟩
theorem tm_mono {n : Nat} {rs : List Rn} {b c : List Nat} (hb : ∀ x ∈ b, x < 64) (hc : ∀ x ∈ c, x < 64) (s : ∀ v, Sp b v → Sp c v) (h : tm n rs c = false) : tm n rs b = false := by
  cases e : tm n rs b with
  | false => rfl
  | true =>
    obtain ⟨r, hr, m, hm, t, q⟩ := (tm_iff hb).mp e
    rw [(tm_iff hc).mpr ⟨r, hr, m, hm, t.mono s, q⟩] at h
    cases h
theorem tm_nil (n : Nat) (rs : List Rn) : tm n rs [] = false := by
  cases e : tm n rs [] with
  | false => rfl
  | true =>
    obtain ⟨r, hr, m, hm, t, q, z⟩ := (tm_iff (fun x hx => by cases hx)).mp e
    rcases t with t | ⟨v, s, h1, _⟩
    · rw [z] at t; cases t
    · cases (show v = 0 from s)
      simp at h1
theorem tells_more_eq {n : Nat} {rs : List Rn} {b : List Nat} (hn : n ≤ 6) (hr : ∀ r ∈ rs, r.1 < 6 ∧ r.2 < 64) (hb : ∀ x ∈ b, x < 64) : F_tells_more [.d (tD n rs), .d (iD b)] = .ok (.d (.bool (tm n rs b))) := by
  have loop : ∀ (ts : List Rn) (s2 s3 s4 : S), (∀ r ∈ ts, r.1 < 6 ∧ r.2 < 64) → ∃ t2 t3 t4, evFor (.cons (.nm 2) (.cons (.nm 3) .nil)) (evS [(25, 3, F_learned_from)] (.cons (.ifS (.not (.blt .all (.cons (.comp false (.call 25 (.cons (.bin .ix (.var 0) (.con (.int 0))) (.cons (.var 1) (.cons (.var 3) .nil)))) (.nm 4) .yes (.or (.bin .eq (.var 4) (.var 2)) (.bin .isin (.var 4) (.var 3)))) .nil))) (.cons (.ret (.con (.bool true))) .nil) .nil) .nil)) (ts.map rD) [.d (tD n rs), .d (iD b), s2, s3, s4] =
      bO (ts.any (tmr n b)) (.rt (.d (.bool true))) (.nx [.d (tD n rs), .d (iD b), t2, t3, t4]) := fun ts => by
    induction ts with
    | nil => exact fun s2 s3 s4 _ => ⟨s2, s3, s4, rfl⟩
    | cons r ts ih =>
      intro s2 s3 s4 h
      obtain ⟨hw, hk⟩ := h r List.mem_cons_self
      obtain ⟨t2, t3, t4, e⟩ := ih (.d (nI r.1)) (.d (mD r.2)) s4 fun q hq => h q (List.mem_cons_of_mem _ hq)
      refine ⟨t2, t3, t4, ?_⟩
      rw [List.map_cons, List.any_cons]
      generalize ts.any (tmr n b) = A at e ⊢
      unfold evFor
      rw [show bindP (.cons (.nm 2) (.cons (.nm 3) .nil)) (rD r) [.d (tD n rs), .d (iD b), s2, s3, s4] = some [.d (tD n rs), .d (iD b), .d (nI r.1), .d (mD r.2), s4] from rfl]
      have ix0 : f2 .ix (.d (tD n rs)) (.d (.int 0)) = .ok (.d (nI n)) := rfl
      have le := learned_from_eq hn hb hk
      rw [show PyData.tuple (nL b) = iD b from rfl] at le
      simp [ix0, le]
      rw [show nL (lrn n b r.2) = (lrn n b r.2).map nI from rfl, cmpL_map nI (fun m => .bool (decide (m = r.1) || r.2.testBit m)) fun m hm => ⟨_, by simp; rfl, ?_⟩]
      · have a1 : ((lrn n b r.2).map fun m => PyData.bool (decide (m = r.1) || r.2.testBit m)).all isB = true := by simp [isB]
        have a2 : ((lrn n b r.2).map fun m => PyData.bool (decide (m = r.1) || r.2.testBit m)).all tru = !tmr n b r := by
          unfold tmr
          rw [List.all_map, Bool.not_not]
          rfl
        simp only [Rs.bind_ok, fBl_8, a1, gd_t, a2, fBool_1, Bool.not_not, Rs.th_ok, bO_k, fTru_2]
        by_cases q : tmr n b r = true
        · simp [q]
        · have q' : tmr n b r = false := by simpa using q
          simp [q']
          simp at e
          exact e
      · have mi : f2 .isin (.d (nI m)) (.d (mD r.2)) = .ok (.d (.bool (r.2.testBit m))) := by
          have : memD (nI m) (iL (msgs r.2)) = r.2.testBit m := memD_bit hk
          unfold mD
          simp [this]
        by_cases q : m = r.1
        · simp [q, mi]
        · have q' : ¬ (m : Int) = (r.1 : Int) := by omega
          simp [q, q', mi]
  obtain ⟨t2, t3, t4, e⟩ := loop rs .no .no .no hr
  have ix1 : f2 .ix (.d (tD n rs)) (.d (.int 1)) = .ok (.d (.tuple (rs.map rD))) := rfl
  simp [F_tells_more, c_tells_more, ix1]
  rw [e]
  unfold tm
  cases rs.any (tmr n b) <;> simp [bO]
end Q
namespace Q
open PySem PySem.Spec PyProof.Rows L2 GF
def stepD (n : Nat) (rs : List Rn) (r : Rn) (acc : List (List Nat)) (b : List Nat) : List (List Nat) := if tld b r.2 r.1 = true then put acc b else puts acc (puts [] (((wsh r.1 r.2).map (jn b)).filter fun x => !tm n rs x))
def stepDE (n : Nat) (rs : List Rn) (rows : List (List Nat)) (r : Rn) : List (List Nat) := rows.foldl (stepD n rs r) []
def dsc (n : Nat) (rs : List Rn) : List (List Nat) := rs.foldl (stepDE n rs) [[]]
def FromD (n : Nat) (rs : List Rn) (r : Rn) (b b' : List Nat) : Prop := (tld b r.2 r.1 = true ∧ b' = b) ∨ (tld b r.2 r.1 = false ∧ tm n rs b' = false ∧ ∃ v ∈ wsh r.1 r.2, b' = jn b v)
theorem mem_stepD {n : Nat} {rs : List Rn} {r : Rn} {acc : List (List Nat)} {b x : List Nat} : x ∈ stepD n rs r acc b ↔ x ∈ acc ∨ FromD n rs r b x := by
  unfold stepD FromD
  cases e : tld b r.2 r.1 with
  | true => simp [mem_put]
  | false =>
    simp only [Bool.false_eq_true, if_false, mem_puts, List.mem_filter, List.mem_map, Bool.not_eq_true', List.not_mem_nil, false_or, true_and, false_and]
    refine or_congr_right ⟨?_, ?_⟩
    · rintro ⟨⟨v, hv, rfl⟩, h⟩; exact ⟨h, v, hv, rfl⟩
    · rintro ⟨h, v, hv, rfl⟩; exact ⟨⟨v, hv, rfl⟩, h⟩
theorem mem_foldD {n : Nat} {rs : List Rn} {r : Rn} {x : List Nat} : ∀ {rows acc : List (List Nat)}, x ∈ rows.foldl (stepD n rs r) acc ↔ x ∈ acc ∨ ∃ b ∈ rows, FromD n rs r b x
  | [], acc => by simp
  | b :: rows, acc => by
    rw [List.foldl_cons, mem_foldD (rows := rows), mem_stepD, or_assoc]
    simp
theorem mem_stepDE {n : Nat} {rs : List Rn} {r : Rn} {rows : List (List Nat)} {x : List Nat} : x ∈ stepDE n rs rows r ↔ ∃ b ∈ rows, FromD n rs r b x := by
  unfold stepDE
  rw [mem_foldD]
  simp
theorem nodup_stepD {n : Nat} {rs : List Rn} {r : Rn} {acc : List (List Nat)} {b : List Nat} (h : acc.Nodup) : (stepD n rs r acc b).Nodup := by
  unfold stepD
  split
  · exact nodup_put h
  · exact nodup_puts h
theorem nodup_foldD {n : Nat} {rs : List Rn} {r : Rn} : ∀ {rows acc : List (List Nat)}, acc.Nodup → (rows.foldl (stepD n rs r) acc).Nodup
  | [], acc, h => h
  | b :: rows, acc, h => nodup_foldD (rows := rows) (nodup_stepD h)
theorem nodup_dsc {n : Nat} {rs : List Rn} : (dsc n rs).Nodup := by
  have : ∀ (ts : List Rn) (rows : List (List Nat)), rows.Nodup → (ts.foldl (stepDE n rs) rows).Nodup := fun ts => by
    induction ts with
    | nil => exact fun _ h => h
    | cons r ts ih => exact fun rows _ => ih _ (nodup_foldD .nil)
  exact this rs [[]] (by simp)
structure DOk (n : Nat) (rs ds : List Rn) (b : List Nat) : Prop where
  red : Red b
  lt : ∀ x ∈ b, x < 2 ^ n
  tells : ∀ r ∈ ds, Tells b r.2 r.1
  tm : tm n rs b = false
theorem fromD_ok {n : Nat} {rs ds : List Rn} {b b' : List Nat} {r : Rn} (hn : n ≤ 6) (ro : RO n r) (h : DOk n rs ds b) (f : FromD n rs r b b') : DOk n rs (ds ++ [r]) b' := by
  have nt : ∀ x, DOk n rs ds x → Tells x r.2 r.1 → DOk n rs (ds ++ [r]) x := fun x e t => ⟨e.red, e.lt, fun q hq => (List.mem_append.mp hq).elim (e.tells q) fun z => by rw [List.mem_singleton.mp z]; exact t, e.tm⟩
  rcases f with ⟨t, rfl⟩ | ⟨t, ht, v, hv, rfl⟩
  · exact nt _ h ((tld_iff h.red.lt).mp t)
  · obtain ⟨h1, h2, h3⟩ := (mem_wsh (ro.w6 hn) (ro.k6 hn) ro.nw).mp hv
    obtain ⟨j1, j2⟩ := jn_ok h.red h1
    refine nt _ ⟨j1, fun x hx => ?_, fun q hq => (h.tells q hq).mono fun u s => jn_sup h.red h1 s, ht⟩ (.inr ⟨v, jn_v h.red h1, h2, h3⟩)
    exact Sp.lt (fun y hy => (List.mem_cons.mp hy).elim (fun e => by rw [e]; exact (wsh_lt hn ro.w ro.k ro.nw hv).1) (h.lt y)) ((j2 x).mp (Sp.mem hx))
theorem dsc_sound {n : Nat} {rs : List Rn} {b : List Nat} (hn : n ≤ 6) (ro : ∀ r ∈ rs, RO n r) (h : b ∈ dsc n rs) : DOk n rs rs b := by
  have key : ∀ (ts ds : List Rn) (rows : List (List Nat)), (∀ r ∈ ts, RO n r) → (∀ x ∈ rows, DOk n rs ds x) → ∀ x ∈ ts.foldl (stepDE n rs) rows, DOk n rs (ds ++ ts) x := fun ts => by
    induction ts with
    | nil => intro ds rows _ hr x hx; rw [List.append_nil]; exact hr x hx
    | cons r ts ih =>
      intro ds rows hro hr x hx
      have := ih (ds ++ [r]) (stepDE n rs rows r) (fun q hq => hro q (List.mem_cons_of_mem _ hq)) (fun y hy => by
        obtain ⟨b, hb, f⟩ := mem_stepDE.mp hy
        exact fromD_ok hn (hro r List.mem_cons_self) (hr b hb) f) x hx
      rwa [List.append_assoc] at this
  have := key rs [] [[]] ro (fun x hx => by rw [List.mem_singleton.mp hx]; exact ⟨Red.nil, fun x hx => (by cases hx), fun r hr => (by cases hr), tm_nil n rs⟩) b h
  rwa [List.nil_append] at this
theorem dsc_complete {n : Nat} {rs : List Rn} {V : List Nat} (hn : n ≤ 6) (ro : ∀ r ∈ rs, RO n r) (rv : Red V) (tv : Srv rs V) (mv : tm n rs V = false) : ∃ b ∈ dsc n rs, ∀ v, Sp b v → Sp V v := by
  have key : ∀ (ts : List Rn) (rows : List (List Nat)), (∀ r ∈ ts, RO n r ∧ Tells V r.2 r.1) → (∃ b ∈ rows, Red b ∧ ∀ v, Sp b v → Sp V v) → ∃ b ∈ ts.foldl (stepDE n rs) rows, Red b ∧ ∀ v, Sp b v → Sp V v := fun ts => by
    induction ts with
    | nil => exact fun rows _ h => h
    | cons r ts ih =>
      rintro rows hro ⟨b, hb, rb, sb⟩
      refine ih _ (fun q hq => hro q (List.mem_cons_of_mem _ hq)) ?_
      obtain ⟨ro, tr⟩ := hro r List.mem_cons_self
      cases e : tld b r.2 r.1 with
      | true => exact ⟨b, mem_stepDE.mpr ⟨b, hb, .inl ⟨e, rfl⟩⟩, rb, sb⟩
      | false =>
        rcases tr with z | ⟨v, s, h1, h2⟩
        · rw [ro.nw] at z; cases z
        · have v64 : v < 64 := Sp.lt (n := 6) rv.lt s
          have hv := (mem_wsh (ro.w6 hn) (ro.k6 hn) ro.nw).mpr ⟨v64, h1, h2⟩
          have sj : ∀ u, Sp (jn b v) u → Sp V u := fun u su => by
            refine Sp.sub (fun x hx => ?_) (((jn_ok rb v64).2 u).mp su)
            rcases List.mem_cons.mp hx with rfl | hx
            · exact s
            · exact sb x (Sp.mem hx)
          exact ⟨jn b v, mem_stepDE.mpr ⟨b, hb, .inr ⟨e, tm_mono (jn_ok rb v64).1.lt rv.lt sj mv, v, hv, rfl⟩⟩, (jn_ok rb v64).1, sj⟩
  obtain ⟨b, h1, _, h2⟩ := key rs [[]] (fun r hr => ⟨ro r hr, tv r hr⟩) ⟨[], List.mem_singleton.mpr rfl, Red.nil, fun v hv => by cases (show v = 0 from hv); exact Sp.zero _⟩
  exact ⟨b, h1, h2⟩
/-! run -/
theorem rows_stepD {n : Nat} {rs : List Rn} {r : Rn} {acc : List (List Nat)} {b : List Nat} (hw : r.1 < 6) (hk : r.2 < 64) (nw : r.2.testBit r.1 = false) (ha : Rows acc) (hb : Red b) : Rows (stepD n rs r acc b) := by
  refine ⟨nodup_stepD ha.nd, fun x hx => ?_⟩
  rcases mem_stepD.mp hx with h | ⟨_, rfl⟩ | ⟨_, _, v, hv, rfl⟩
  · exact ha.red x h
  · exact hb
  · exact (jn_ok hb ((mem_wsh hw hk nw).mp hv).1).1
theorem inD_body {n : Nat} {rs : List Rn} {r : Rn} {acc : List (List Nat)} {b : List Nat} (ht : TOk n rs) (hw : r.1 < 6) (hk : r.2 < 64) (nw : r.2.testBit r.1 = false) (ha : Rows acc) (hb : Red b) (s1 s7 s8 : S) : ∃ t7,
    evS [(6, 1, F_number_of), (10, 2, F_joined), (12, 3, F_told), (41, 2, F_wishes), (67, 2, F_tells_more)] (.cons (.ifS (.call 12 (.cons (.var 6) (.cons (.call 6 (.cons (.var 3) .nil)) (.cons (.var 2) .nil)))) (.cons (.dput 5 (.var 6)) .nil) (.cons (.set 7 (.comp false (.var 4) (.nm 8) .yes (.call 10 (.cons (.var 6) (.cons (.var 8) .nil))))) (.cons (.dupd 5 (.dof (.comp false (.var 7) (.nm 8) (.not (.call 67 (.cons (.var 0) (.cons (.var 8) .nil)))) (.tup (.cons (.var 8) (.cons (.con (.bool true)) .nil)))))) .nil))) .nil)
      [.d (tD n rs), s1, .d (nI r.1), .d (mD r.2), .d (.list (nL (wsh r.1 r.2))), .own true (acc.map iD), .d (iD b), s7, s8] = .nx [.d (tD n rs), s1, .d (nI r.1), .d (mD r.2), .d (.list (nL (wsh r.1 r.2))), .own true ((stepD n rs r acc b).map iD), .d (iD b), t7, s8] := by
  have l6 := hb.len6
  have al := reds_len ha.nd ha.red
  have te := told_eq hb.lt hk hw
  rw [show PyData.tuple (nL b) = iD b from rfl] at te
  have fk : fKey (.d (iD b)) = .ok (iD b) := by simp [keyD_iD]
  have al' : acc.length < 1000000 := by omega
  unfold stepD
  cases e : tld b r.2 r.1 with
  | true =>
    rw [e] at te
    exact ⟨s7, by simp [number_of_eq hk, te, fk, putD_iD, al']⟩
  | false =>
    rw [e] at te
    have jr : ∀ x ∈ (wsh r.1 r.2).map (jn b), Red x := fun x hx => by
      obtain ⟨v, hv, rfl⟩ := List.mem_map.mp hx
      exact (jn_ok hb ((mem_wsh hw hk nw).mp hv).1).1
    refine ⟨.d (.list (((wsh r.1 r.2).map (jn b)).map iD)), ?_⟩
    simp [-List.map_map, number_of_eq hk, te]
    rw [show nL (wsh r.1 r.2) = (wsh r.1 r.2).map nI from rfl]
    rw [cmpL_map nI (fun v => iD (jn b v)) fun v hv => ⟨_, by simp; rfl, by
      have je := joined_eq hb.lt ((mem_wsh hw hk nw).mp hv).1 (by omega)
      rw [show PyData.tuple (nL b) = iD b from rfl, show PyData.tuple (nL (jn b v)) = iD (jn b v) from rfl] at je
      simp [je]⟩]
    rw [show (wsh r.1 r.2).map (fun v => iD (jn b v)) = ((wsh r.1 r.2).map (jn b)).map iD from by rw [List.map_map]; rfl]
    generalize (wsh r.1 r.2).map (jn b) = G at jr ⊢
    simp [-List.map_map]
    rw [cmpL_pure iD (fun x => !tm n rs x) (fun x => .tuple [iD x, .bool true]) fun x hx => ⟨_, by simp; rfl, by simp [tells_more_eq ht.n6 ht.lt (jr x hx).lt], fun _ => by simp⟩]
    have pk := pairKs_iD (G.filter fun x => !tm n rs x)
    have p0 := putsD_iD (G.filter fun x => !tm n rs x) []
    rw [List.map_nil] at p0
    have ub : updB (acc.map iD) ((puts [] (G.filter fun x => !tm n rs x)).map iD) = true := updB_iD al (nodup_puts .nil) fun x hx => by
      rcases mem_puts.mp hx with z | z
      · cases z
      · exact jr x (List.mem_filter.mp z).1
    simp [-List.map_map, pk, p0, ub, putsD_iD]
theorem inD_loop {n : Nat} {rs : List Rn} {r : Rn} (ht : TOk n rs) (hw : r.1 < 6) (hk : r.2 < 64) (nw : r.2.testBit r.1 = false) (s1 s8 : S) : ∀ (rows acc : List (List Nat)) (s6 s7 : S), Rows acc → (∀ b ∈ rows, Red b) → ∃ t6 t7,
    evFor (.nm 6) (evS [(6, 1, F_number_of), (10, 2, F_joined), (12, 3, F_told), (41, 2, F_wishes), (67, 2, F_tells_more)] (.cons (.ifS (.call 12 (.cons (.var 6) (.cons (.call 6 (.cons (.var 3) .nil)) (.cons (.var 2) .nil)))) (.cons (.dput 5 (.var 6)) .nil) (.cons (.set 7 (.comp false (.var 4) (.nm 8) .yes (.call 10 (.cons (.var 6) (.cons (.var 8) .nil))))) (.cons (.dupd 5 (.dof (.comp false (.var 7) (.nm 8) (.not (.call 67 (.cons (.var 0) (.cons (.var 8) .nil)))) (.tup (.cons (.var 8) (.cons (.con (.bool true)) .nil)))))) .nil))) .nil)) (rows.map iD)
      [.d (tD n rs), s1, .d (nI r.1), .d (mD r.2), .d (.list (nL (wsh r.1 r.2))), .own true (acc.map iD), s6, s7, s8] = .nx [.d (tD n rs), s1, .d (nI r.1), .d (mD r.2), .d (.list (nL (wsh r.1 r.2))), .own true ((rows.foldl (stepD n rs r) acc).map iD), t6, t7, s8]
  | [], acc, s6, s7, _, _ => ⟨s6, s7, rfl⟩
  | b :: rows, acc, s6, s7, ha, hr => by
    have hb := hr b List.mem_cons_self
    obtain ⟨u7, eb⟩ := inD_body ht hw hk nw ha hb s1 s7 s8
    obtain ⟨t6, t7, e⟩ := inD_loop ht hw hk nw s1 s8 rows (stepD n rs r acc b) (.d (iD b)) u7 (rows_stepD hw hk nw ha hb) fun x hx => hr x (List.mem_cons_of_mem _ hx)
    refine ⟨t6, t7, ?_⟩
    rw [List.map_cons, evFor_nm]
    show (evS _ _ [.d (tD n rs), s1, .d (nI r.1), .d (mD r.2), .d (.list (nL (wsh r.1 r.2))), .own true (acc.map iD), .d (iD b), s7, s8]).seq _ = _
    rw [eb]
    exact e
theorem rows_stepDE {n : Nat} {rs : List Rn} {r : Rn} {rows : List (List Nat)} (hw : r.1 < 6) (hk : r.2 < 64) (nw : r.2.testBit r.1 = false) (hr : ∀ b ∈ rows, Red b) : Rows (stepDE n rs rows r) := by
  refine ⟨nodup_foldD .nil, fun x hx => ?_⟩
  obtain ⟨b, hb, f⟩ := mem_stepDE.mp hx
  rcases f with ⟨_, rfl⟩ | ⟨_, _, v, hv, rfl⟩
  · exact hr x hb
  · exact (jn_ok (hr b hb) ((mem_wsh hw hk nw).mp hv).1).1
theorem outD_loop {n : Nat} {rs : List Rn} (ht : TOk n rs) : ∀ (ts : List Rn) (rows : List (List Nat)) (s2 s3 s4 s5 s6 s7 s8 : S), (∀ r ∈ ts, r.1 < 6 ∧ r.2 < 64 ∧ r.2.testBit r.1 = false) → Rows rows → ∃ t2 t3 t4 t5 t6 t7 t8,
    evFor (.cons (.nm 2) (.cons (.nm 3) .nil)) (evS [(6, 1, F_number_of), (10, 2, F_joined), (12, 3, F_told), (41, 2, F_wishes), (67, 2, F_tells_more)] (.cons (.par 4 5 (.call 41 (.cons (.var 2) (.cons (.var 3) .nil))) .dnew) (.cons (.forS (.var 1) (.nm 6) (.cons (.ifS (.call 12 (.cons (.var 6) (.cons (.call 6 (.cons (.var 3) .nil)) (.cons (.var 2) .nil)))) (.cons (.dput 5 (.var 6)) .nil) (.cons (.set 7 (.comp false (.var 4) (.nm 8) .yes (.call 10 (.cons (.var 6) (.cons (.var 8) .nil))))) (.cons (.dupd 5 (.dof (.comp false (.var 7) (.nm 8) (.not (.call 67 (.cons (.var 0) (.cons (.var 8) .nil)))) (.tup (.cons (.var 8) (.cons (.con (.bool true)) .nil)))))) .nil))) .nil)) (.frz 5 (.cons (.set 1 (.var 5)) .nil))))) (ts.map rD)
      [.d (tD n rs), .fd (rows.map iD), s2, s3, s4, s5, s6, s7, s8] = .nx [.d (tD n rs), .fd ((ts.foldl (stepDE n rs) rows).map iD), t2, t3, t4, t5, t6, t7, t8]
  | [], rows, s2, s3, s4, s5, s6, s7, s8, _, _ => ⟨s2, s3, s4, s5, s6, s7, s8, rfl⟩
  | r :: ts, rows, s2, s3, s4, s5, s6, s7, s8, ho, hr => by
    obtain ⟨hw, hk, nw⟩ := ho r List.mem_cons_self
    obtain ⟨t6, t7, e1⟩ := inD_loop ht hw hk nw (.fd (rows.map iD)) s8 rows [] s6 s7 ⟨.nil, fun x hx => by cases hx⟩ hr.red
    obtain ⟨u2, u3, u4, u5, u6, u7, u8, e2⟩ := outD_loop ht ts (stepDE n rs rows r) (.d (nI r.1)) (.d (mD r.2)) (.d (.list (nL (wsh r.1 r.2)))) (.fd ((stepDE n rs rows r).map iD)) t6 t7 s8 (fun q hq => ho q (List.mem_cons_of_mem _ hq)) (rows_stepDE hw hk nw hr.red)
    refine ⟨u2, u3, u4, u5, u6, u7, u8, ?_⟩
    rw [List.map_nil] at e1
    rw [List.map_cons]
    unfold evFor
    rw [show bindP (.cons (.nm 2) (.cons (.nm 3) .nil)) (rD r) [.d (tD n rs), .fd (rows.map iD), s2, s3, s4, s5, s6, s7, s8] = some [.d (tD n rs), .fd (rows.map iD), .d (nI r.1), .d (mD r.2), s4, s5, s6, s7, s8] from rfl]
    simp [wishes_eq hw hk]
    rw [e1]
    simp
    exact e2
theorem discreet_bases_eq {n : Nat} {rs : List Rn} (ht : TOk n rs) : F_discreet_bases [.d (tD n rs)] = .ok (.d (.list ((dsc n rs).map iD))) := by
  obtain ⟨t2, t3, t4, t5, t6, t7, t8, e⟩ := outD_loop ht rs [[]] .no .no .no .no .no .no .no ht.ho ⟨by simp, fun x hx => by rw [List.mem_singleton.mp hx]; exact Red.nil⟩
  have fk : fOne (.d (.tuple [])) = .ok (.own true [.tuple []]) := rfl
  have ix : f2 .ix (.d (tD n rs)) (.d (.int 1)) = .ok (.d (.tuple (rs.map rD))) := rfl
  rw [show List.map iD [[]] = [PyData.tuple []] from rfl] at e
  simp [F_discreet_bases, c_discreet_bases, fk, ix]
  rw [e]
  simp
  rfl
end Q
namespace Q
open PySem PySem.Spec PyProof.Rows L2 GF
/-! ### the first discreet code -/
structure Dis (n : Nat) (rs : List Rn) (V : List Nat) : Prop where
  red : Red V
  lt : ∀ x ∈ V, x < 2 ^ n
  srv : Srv rs V
  tm : tm n rs V = false
/-- o is the first discreet code -/
def IsF (n : Nat) (rs : List Rn) (o : Option (List Nat)) : Prop := match o with
  | none => ∀ V, ¬ Dis n rs V
  | some c => Dis n rs c ∧ ∀ V, Dis n rs V → c.length ≤ V.length ∧ (c.length = V.length → cde c V = true)
theorem IsF.uniq {n : Nat} {rs : List Rn} {a b : Option (List Nat)} (ha : IsF n rs a) (hb : IsF n rs b) : a = b := by
  cases a with
  | none => cases b with
    | none => rfl
    | some c => exact absurd hb.1 (ha c)
  | some c => cases b with
    | none => exact absurd ha.1 (hb c)
    | some d =>
      obtain ⟨a1, a2⟩ := ha.2 d hb.1
      obtain ⟨b1, b2⟩ := hb.2 c ha.1
      rw [cde_anti ha.1.red.lt hb.1.red.lt (a2 (by omega)) (b2 (by omega))]
def kcD (c : List Nat) : PyData := .tuple [nI c.length, cD c]
def kle (a b : List Nat) : Bool := dle (kcD a) (kcD b)
theorem kle_ord : Ord kle := Ord.of kcD
theorem kle_ok {a b : List Nat} (h : kle a b = true) : a.length ≤ b.length ∧ (a.length = b.length → cde a b = true) := by
  unfold kle kcD at h
  rw [dle_iff] at h
  simp only [PySem.W.keyToks, PySem.W.keyToksAll, List.cons_append, List.nil_append, nI] at h
  rw [Bool.not_eq_true', PyProof.Rows.lex_self, PyProof.Rows.lex_false] at h
  have h1 : decide ((b.length : Int) < (a.length : Int)) = false := h.1
  have h1' := of_decide_eq_false h1
  refine ⟨by omega, fun e => ?_⟩
  rcases h.2 with z | z
  · have z' : decide ((a.length : Int) < (b.length : Int)) = true := z
    have := of_decide_eq_true z'
    omega
  · rw [PyProof.Rows.lex_self] at z
    unfold cde
    rw [dle_iff, Bool.not_eq_true']
    have tk := PySem.W.toks_eqv (cD b) (cD a) (alike_cD b a)
    cases q : PyData.eqv (cD b) (cD a) with
    | true => rw [tk.1 q]; exact lex_irrefl _
    | false => rw [← tk.2 q]; exact z
theorem alike_kcD (a b : List Nat) : PySem.W.alike (kcD a) (kcD b) = true := by
  unfold kcD
  rw [PySem.W.alike, PySem.W.alikeAll, PySem.W.alikeAll, alike_cD]
  rfl
theorem minB_kcD (x : List Nat) (xs : List (List Nat)) : minB (kcD x :: xs.map kcD) = true := by
  have h1 : ∀ l, isNo (kcD l) = false := fun _ => rfl
  have h2 : ∀ l, sh 50 (kcD l) = true := fun l => by unfold kcD; rw [sh_tuple]; simp [sh_cD2 47]
  simp [minB, alB, h1, h2, alike_kcD]
theorem min_kcD (x : List Nat) (xs : List (List Nat)) : PySem.W.minD (kcD x) (xs.map kcD) = kcD (minA kle x xs) := minD_map kcD xs x
theorem minB_cD (x : List Nat) (xs : List (List Nat)) : minB (cD x :: xs.map cD) = true := by
  have h1 : ∀ l, isNo (cD l) = false := fun _ => rfl
  have h2 : ∀ l, sh 50 (cD l) = true := fun l => sh_cD2 48 l
  simp [minB, alB, h1, h2, alike_cD]
theorem min_cD (x : List Nat) (xs : List (List Nat)) : PySem.W.minD (cD x) (xs.map cD) = cD (minA cde x xs) := minD_map cD xs x
def dfst (n : Nat) (rs : List Rn) : Option (List Nat) := match dsc n rs with
  | [] => none
  | x :: xs => some (minA kle x xs)
theorem Dis.of {n : Nat} {rs : List Rn} {b : List Nat} (h : DOk n rs rs b) : Dis n rs b := ⟨h.red, h.lt, h.tells, h.tm⟩
theorem dfst_ok {n : Nat} {rs : List Rn} (ht : TOk n rs) : IsF n rs (dfst n rs) := by
  unfold dfst
  cases e : dsc n rs with
  | nil =>
    intro V h
    obtain ⟨b, hb, _⟩ := dsc_complete ht.n6 ht.ro h.red h.srv h.tm
    rw [e] at hb; cases hb
  | cons x xs =>
    obtain ⟨h1, h2⟩ := minA_ok kle_ord xs x
    rw [← e] at h1 h2
    have hs := dsc_sound ht.n6 ht.ro h1
    refine ⟨Dis.of hs, fun V hV => ?_⟩
    obtain ⟨b, hb, sb⟩ := dsc_complete ht.n6 ht.ro hV.red hV.srv hV.tm
    have rb := (dsc_sound ht.n6 ht.ro hb).red
    obtain ⟨k1, k2⟩ := kle_ok (h2 b hb)
    have l1 := hV.red.len_le rb sb
    refine ⟨by omega, fun q => ?_⟩
    have := hV.red.full rb sb (by omega)
    subst this
    exact k2 q
def optC (o : Option (List Nat)) : PyData := match o with
  | some c => cD c
  | none => .none
def optN (o : Option (List Nat)) : PyData := match o with
  | some c => nI c.length
  | none => .none
theorem dle_nI (a b : Nat) : dle (nI a) (nI b) = decide (a ≤ b) := by
  unfold dle nI
  rw [PySem.W.dataLt_int, Bool.eq_iff_iff]
  simp
theorem discreet_code_eq {n : Nat} {rs : List Rn} (ht : TOk n rs) : F_discreet_code [.d (tD n rs)] = .ok (.d (optC (dfst n rs))) := by
  simp [F_discreet_code, c_discreet_code, check_task_eq, isTask_tD ht, discreet_bases_eq ht]
  rw [cmpL_map iD kcD fun b hb => ⟨_, by simp; rfl, by
    have r := (dsc_sound ht.n6 ht.ro hb).red
    have ce := code_of_eq r.lt
    rw [show PyData.tuple (nL b) = iD b from rfl] at ce
    have ln : fBl .len [.d (iD b)] = .ok (.d (nI b.length)) := by unfold iD nL; simp [nI]
    simp [ce, ln, kcD]⟩]
  unfold dfst
  cases dsc n rs with
  | nil => simp [optC]
  | cons x xs =>
    simp [minB_kcD, min_kcD, PyData.eqvAll]
    rw [show f2 .ix (.d (kcD (minA kle x xs))) (.d (.int 1)) = .ok (.d (cD (minA kle x xs))) from rfl]
    simp [optC]
theorem fewest_discreet_eq {n : Nat} {rs : List Rn} (ht : TOk n rs) : F_fewest_discreet [.d (tD n rs)] = .ok (.d (optN (dfst n rs))) := by
  simp [F_fewest_discreet, c_fewest_discreet, check_task_eq, isTask_tD ht, discreet_bases_eq ht]
  rw [cmpL_map iD (fun b => nI b.length) fun b hb => ⟨_, by simp; rfl, by
    have ln : fBl .len [.d (iD b)] = .ok (.d (nI b.length)) := by unfold iD nL; simp [nI]
    simp [ln]⟩]
  unfold dfst
  cases dsc n rs with
  | nil => simp [optN]
  | cons x xs =>
    have mB : minB (nI x.length :: xs.map fun b => nI b.length) = true := by
      simp [minB, alB, nI, isNo, PySem.W.alike]
    have mE : PySem.W.minD (nI x.length) (xs.map fun b => nI b.length) = nI (minA kle x xs).length := by
      have e1 := minD_map (fun b : List Nat => nI b.length) xs x
      rw [e1]
      obtain ⟨a1, a2⟩ := minA_ok (Ord.of fun b : List Nat => nI b.length) xs x
      obtain ⟨b1, b2⟩ := minA_ok kle_ord xs x
      have c1 := a2 _ b1
      have c2 := (kle_ok (b2 _ a1)).1
      rw [dle_nI] at c1
      have c3 := of_decide_eq_true c1
      congr 1
      omega
    simp [PyData.eqvAll]
    simp [mB, mE, optN]
theorem discreet_code_t {t : PyData} (h : isTask t = false) : F_discreet_code [.d t] = .ex 1 := by simp [F_discreet_code, c_discreet_code, check_task_eq, h]
theorem fewest_discreet_t {t : PyData} (h : isTask t = false) : F_fewest_discreet [.d t] = .ex 1 := by simp [F_fewest_discreet, c_fewest_discreet, check_task_eq, h]
/-- a code is discreet -/
def dsB (n : Nat) (rs : List Rn) (c : List Nat) : Bool := svs rs c && !tm n rs (bas c)
theorem is_discreet_eq {n : Nat} {rs : List Rn} {c : List Nat} (ht : TOk n rs) (hc : COk n c) (l : c.length ≤ 8) : F_is_discreet [.d (tD n rs), .d (cD c)] = .ok (.d (.bool (dsB n rs c))) := by
  have hc6 := hc.lt ht.n6
  have r := bas_red hc6
  have d1 := does_serve_eq (n := n) ht.lt r.lt
  have d2 := tells_more_eq ht.n6 ht.lt r.lt
  have b1 := basis_for_eq hc6
  rw [show PyData.tuple (nL (bas c)) = iD (bas c) from rfl] at d1 b1
  unfold dsB svs srv
  simp [F_is_discreet, c_is_discreet, check_both_ok ht hc l, b1, d1, d2]
  split <;> simp_all
theorem is_discreet_t {t c : PyData} (h : isTask t = false) : F_is_discreet [.d t, .d c] = .ex 1 := by simp [F_is_discreet, c_is_discreet, check_both_t h]
theorem is_discreet_c {n : Nat} {rs : List Rn} {c : PyData} (ht : TOk n rs) (h : isCode n c = false) : F_is_discreet [.d (tD n rs), .d c] = .ex 3 := by simp [F_is_discreet, c_is_discreet, check_both_c ht h]
theorem dsB_red {n : Nat} {rs : List Rn} {c : List Nat} (h : Red c) (lt : ∀ x ∈ c, x < 2 ^ n) : dsB n rs c = true ↔ Dis n rs c := by
  unfold dsB
  rw [Bool.and_eq_true, svs_iff h.lt, Bool.not_eq_true', bas_self h]
  exact ⟨fun ⟨a, b⟩ => ⟨h, lt, a, b⟩, fun d => ⟨d.srv, d.tm⟩⟩
/-! the law's -/
def lrw (n : Nat) (c : List Nat) (r : Rn) : Bool := (lrn n (bas c) r.2).contains r.1 && !tmr n (bas c) r
theorem law_discreet_eq {n : Nat} {rs : List Rn} {c : List Nat} (ht : TOk n rs) (hc6 : ∀ v ∈ c, v < 64) : F__law_discreet [.d (tD n rs), .d (cD c)] = .ok (.d (.bool (dsB n rs c))) := by
  have loop : ∀ (ts : List Rn) (s3 s4 s5 s6 : S), (∀ r ∈ ts, r.1 < 6 ∧ r.2 < 64) → ∃ t3 t4 t5 t6, evFor (.cons (.nm 3) (.cons (.nm 4) .nil)) (evS [(86, 1, F__law_span), (87, 3, F__law_tells)] (.cons (.set 5 (.comp false (.rng1 (.bin .ix (.var 0) (.con (.int 0)))) (.nm 6) (.call 87 (.cons (.var 2) (.cons (.var 4) (.cons (.var 6) .nil)))) (.var 6))) (.cons (.ifS (.or (.bin .notin (.var 3) (.var 5)) (.bin .ne (.comp false (.var 5) (.nm 6) (.and (.bin .ne (.var 6) (.var 3)) (.bin .notin (.var 6) (.var 4))) (.var 6)) (.lst false .nil))) (.cons (.ret (.con (.bool false))) .nil) .nil) .nil))) (ts.map rD) [.d (tD n rs), .d (cD c), .d (.list ((spn c).map mD)), s3, s4, s5, s6] =
      bO (ts.all (lrw n c)) (.nx [.d (tD n rs), .d (cD c), .d (.list ((spn c).map mD)), t3, t4, t5, t6]) (.rt (.d (.bool false))) := fun ts => by
    induction ts with
    | nil => exact fun s3 s4 s5 s6 _ => ⟨s3, s4, s5, s6, rfl⟩
    | cons r ts ih =>
      intro s3 s4 s5 s6 h
      obtain ⟨hw, hk⟩ := h r List.mem_cons_self
      obtain ⟨t3, t4, t5, t6, e⟩ := ih (.d (nI r.1)) (.d (mD r.2)) (.d (.list (nL (lrn n (bas c) r.2)))) s6 fun q hq => h q (List.mem_cons_of_mem _ hq)
      refine ⟨t3, t4, t5, t6, ?_⟩
      have ix0 : f2 .ix (.d (tD n rs)) (.d (.int 0)) = .ok (.d (nI n)) := rfl
      have fr : fRng (.d (nI n)) = .ok (nL (List.range n)) := by
        have h1 : ((n : Int) ≤ 1000000) := by have := ht.n6; omega
        have h2 : (-1000000 : Int) ≤ (n : Int) := by omega
        unfold nI
        simp [h1, h2, rng_nL]
      have mi : ∀ m, f2 .notin (.d (nI m)) (.d (mD r.2)) = .ok (.d (.bool (!r.2.testBit m))) := fun m => by
        have : memD (nI m) (iL (msgs r.2)) = r.2.testBit m := memD_bit hk
        unfold mD
        simp [this]
      rw [List.map_cons, List.all_cons]
      generalize ts.all (lrw n c) = A at e ⊢
      unfold evFor
      rw [show bindP (.cons (.nm 3) (.cons (.nm 4) .nil)) (rD r) [.d (tD n rs), .d (cD c), .d (.list ((spn c).map mD)), s3, s4, s5, s6] = some [.d (tD n rs), .d (cD c), .d (.list ((spn c).map mD)), .d (nI r.1), .d (mD r.2), s5, s6] from rfl]
      simp [-List.map_map, ix0, fr]
      rw [show nL (List.range n) = (List.range n).map nI from rfl, cmpL_pure nI (fun m => tld (bas c) r.2 m) nI fun m hm => ⟨_, by simp; rfl, by
        have lt := law_tells_eq (m := m) (spn_lt hc6) hk
        rw [show tlls (spn c) r.2 m = tld (bas c) r.2 m from tlls_tld hc6 r.2 m] at lt
        simp [-List.map_map, lt], fun _ => by simp⟩]
      rw [show (List.range n).filter (fun m => tld (bas c) r.2 m) = lrn n (bas c) r.2 from rfl, show List.map nI (lrn n (bas c) r.2) = nL (lrn n (bas c) r.2) from rfl]
      simp [-List.map_map, memD_nL]
      rw [show nL (lrn n (bas c) r.2) = (lrn n (bas c) r.2).map nI from rfl, cmpL_pure nI (fun m => !decide (m = r.1) && !r.2.testBit m) nI fun m hm => ⟨_, by simp; rfl, by
        by_cases q : m = r.1
        · simp [q]
        · have q' : ¬ (m : Int) = (r.1 : Int) := by omega
          simp [q, q', mi], fun _ => by simp⟩]
      have q1 : ((lrn n (bas c) r.2).filter fun m => !decide (m = r.1) && !r.2.testBit m) = [] ↔ tmr n (bas c) r = false := by
        unfold tmr
        rw [List.filter_eq_nil_iff, Bool.not_eq_false', List.all_eq_true]
        refine forall_congr' fun m => forall_congr' fun _ => ?_
        cases decide (m = r.1) <;> cases r.2.testBit m <;> simp
      rw [show List.map nI (lrn n (bas c) r.2) = nL (lrn n (bas c) r.2) from rfl]
      unfold lrw
      by_cases z1 : r.1 ∈ lrn n (bas c) r.2
      · by_cases z2 : tmr n (bas c) r = true
        · have z3 : ((lrn n (bas c) r.2).filter fun m => !decide (m = r.1) && !r.2.testBit m) ≠ [] := fun z => by rw [q1.mp z] at z2; cases z2
          cases y : (lrn n (bas c) r.2).filter fun m => !decide (m = r.1) && !r.2.testBit m with
          | nil => exact absurd y z3
          | cons a as => simp [-List.map_map, z1, z2, PyData.eqvAll]
        · have z2' : tmr n (bas c) r = false := by simpa using z2
          rw [q1.mpr z2']
          simp [-List.map_map, z1, z2']
          simp at e
          exact e
      · simp [-List.map_map, z1]
  obtain ⟨t3, t4, t5, t6, e⟩ := loop rs .no .no .no .no ht.lt
  have ix1 : f2 .ix (.d (tD n rs)) (.d (.int 1)) = .ok (.d (.tuple (rs.map rD))) := rfl
  have al : rs.all (lrw n c) = dsB n rs c := by
    rw [Bool.eq_iff_iff]
    unfold dsB svs tm lrw srv
    rw [List.all_eq_true, Bool.and_eq_true, decide_eq_true_eq, whr_len, Bool.not_eq_true', List.any_eq_false]
    constructor
    · intro h
      refine ⟨fun r hr => ?_, fun r hr => ?_⟩
      · have := h r hr
        rw [Bool.and_eq_true] at this
        have m := List.contains_iff_mem.mp this.1
        unfold lrn at m
        exact (List.mem_filter.mp m).2
      · have := h r hr
        rw [Bool.and_eq_true, Bool.not_eq_true'] at this
        simpa using this.2
    · rintro ⟨h1, h2⟩ r hr
      rw [Bool.and_eq_true, Bool.not_eq_true']
      refine ⟨List.contains_iff_mem.mpr ?_, by simpa using h2 r hr⟩
      unfold lrn
      exact List.mem_filter.mpr ⟨List.mem_range.mpr (ht.ok r hr).w, h1 r hr⟩
  simp [F__law_discreet, c__law_discreet, law_span_eq' hc6, ix1]
  rw [e, al]
  cases dsB n rs c <;> simp [bO]
theorem ext_loopD {n : Nat} {rs : List Rn} (hn : n ≤ 6) (s1 s2 : S) : ∀ (cs acc : List (List Nat)) (s5 s6 : S), (∀ c ∈ cs, (∀ v ∈ c, v < 64) ∧ c.length ≤ 6) → acc.length + 64 * cs.length ≤ 1000000 → ∃ t5 t6,
    evFor (.nm 4) (evS [(92, 1, F__law_sums), (93, 1, F__law_is_reduced), (108, 2, F__law_discreet)] (.cons (.ext 3 (.comp false (.call 92 (.cons (.bin .ix (.var 0) (.con (.int 0))) .nil)) (.nm 5) (.or (.bin .eq (.var 4) (.tup .nil)) (.bin .lt (.bin .ix (.var 4) (.un .neg (.con (.int 1)))) (.var 5))) (.bin .add (.var 4) (.tup (.cons (.var 5) .nil))))) .nil)) (cs.map cD) [.d (tD n rs), s1, s2, .own false (acc.map cD), s5, s6] = .nx [.d (tD n rs), s1, s2, .own false ((acc ++ cs.flatMap (nxs n)).map cD), t5, t6]
  | [], acc, s5, s6, _, _ => ⟨s5, s6, by simp⟩
  | c :: cs, acc, s5, s6, h, hl => by
    obtain ⟨hc, lc⟩ := h c List.mem_cons_self
    have nl := nxs_len hn c
    rw [List.length_cons] at hl
    obtain ⟨t5, t6, e⟩ := ext_loopD (rs := rs) hn s1 s2 cs (acc ++ nxs n c) (.d (cD c)) s6 (fun d hd => h d (List.mem_cons_of_mem _ hd)) (by rw [List.length_append]; omega)
    refine ⟨t5, t6, ?_⟩
    have ix0 : f2 .ix (.d (tD n rs)) (.d (.int 0)) = .ok (.d (nI n)) := rfl
    have c0 : PyData.eqv (cD c) (.tuple []) = decide (c = []) := by
      have := eqv_cD hc (b := []) (fun v hv => by cases hv)
      rwa [show cD [] = PyData.tuple [] from rfl] at this
    have e0 : f2 .eq (.d (cD c)) (.d (.tuple [])) = .ok (.d (.bool (decide (c = [])))) := by
      show gd _ _ = _
      rw [show (sh 60 (cD c) || sh 60 (PyData.tuple [])) = true by simp, c0]
      rfl
    have la : c ≠ [] → f2 .ix (.d (cD c)) (.d (.int (-1))) = .ok (.d (mD (lst c))) := fun ne => by
      rcases List.eq_nil_or_concat c with z | ⟨d, v, z⟩
      · exact absurd z ne
      · rw [List.concat_eq_append] at z
        subst z
        rw [lst_app]
        have q : L2.atI ((d ++ [v]).map mD) (-1) = some (mD v) := by
          unfold L2.atI L2.ixN
          rw [if_neg (by decide), if_pos (by simp; omega)]
          have : (-1 + ((((d ++ [v]).map mD).length : Nat) : Int)).toNat = d.length := by simp; omega
          simp only [Option.bind_some, this]
          simp
        show optR (L2.atI ((d ++ [v]).map mD) (-1)) .d = _
        rw [q]
        rfl
    have ad : ∀ v, f2 .add (.d (cD c)) (.d (.tuple [mD v])) = .ok (.d (cD (c ++ [v]))) := fun v => by
      have := cD_add (a := c) (b := [v]) (by simp; omega)
      exact this
    rw [List.map_cons, evFor_nm]
    simp [-List.map_map, ix0, law_sums_eq hn]
    rw [cmpL_pure mD (okX c) (fun v => cD (c ++ [v])) fun v hv => ⟨_, by simp; rfl, ?_, fun _ => by simp [ad]⟩]
    · have lg : acc.length + ((sms n).filter (okX c)).length ≤ 1000000 := by
        have : (nxs n c).length = ((sms n).filter (okX c)).length := by unfold nxs; simp
        omega
      have em : List.map cD acc ++ List.map (fun v => cD (c ++ [v])) (List.filter (okX c) (sms n)) = (acc ++ nxs n c).map cD := by
        unfold nxs
        rw [List.map_append, List.map_map]
        rfl
      have e' : (acc ++ nxs n c ++ cs.flatMap (nxs n)) = acc ++ (c :: cs).flatMap (nxs n) := by simp
      simp [-List.map_map, -List.map_append, lg]
      rw [em]
      refine e.trans ?_
      simp
    · unfold okX
      by_cases z : c = []
      · subst z
        simp [c0]
      · simp [c0, z, la z, lt_mD]
def fndD (n : Nat) (rs : List Rn) (m : Nat) : List (List Nat) := (lvl n m).filter (dsB n rs)
theorem mem_fndD {n m : Nat} {rs : List Rn} (hn : n ≤ 6) {c : List Nat} : c ∈ fndD n rs m ↔ Dis n rs c ∧ c.length = m := by
  unfold fndD
  rw [List.mem_filter, mem_lvl hn]
  constructor
  · rintro ⟨⟨r, l, lt⟩, s⟩; exact ⟨(dsB_red r lt).mp s, l⟩
  · rintro ⟨d, l⟩; exact ⟨⟨d.red, l, d.lt⟩, (dsB_red d.red d.lt).mpr d⟩
theorem first_loop {n : Nat} {rs : List Rn} (ht : TOk n rs) : ∀ (k m fu : Nat) (s2 s3 s4 s5 : S), m + k = 8 → k < fu → (∀ V, Dis n rs V → m ≤ V.length) → ∃ o, IsF n rs o ∧
    (evWh (ev [(92, 1, F__law_sums), (93, 1, F__law_is_reduced), (108, 2, F__law_discreet)] (.bin .ne (.var 1) (.lst false .nil))).b (evS [(92, 1, F__law_sums), (93, 1, F__law_is_reduced), (108, 2, F__law_discreet)] (.cons (.set 2 (.comp false (.var 1) (.nm 4) (.call 108 (.cons (.var 0) (.cons (.var 4) .nil))) (.var 4))) (.cons (.ifS (.bin .ne (.var 2) (.lst false .nil)) (.cons (.ret (.blt .min (.cons (.var 2) .nil))) .nil) .nil) (.cons (.set 3 (.lst true .nil)) (.cons (.forS (.var 1) (.nm 4) (.cons (.ext 3 (.comp false (.call 92 (.cons (.bin .ix (.var 0) (.con (.int 0))) .nil)) (.nm 5) (.or (.bin .eq (.var 4) (.tup .nil)) (.bin .lt (.bin .ix (.var 4) (.un .neg (.con (.int 1)))) (.var 5))) (.bin .add (.var 4) (.tup (.cons (.var 5) .nil))))) .nil)) (.frz 3 (.cons (.set 1 (.comp false (.var 3) (.nm 4) (.call 93 (.cons (.var 4) .nil)) (.var 4))) .nil))))))) fu [.d (tD n rs), .d (.list ((lvl n m).map cD)), s2, s3, s4, s5]).seq (evS [(92, 1, F__law_sums), (93, 1, F__law_is_reduced), (108, 2, F__law_discreet)] (.cons (.ret (.con .none)) .nil)) = .rt (.d (optC o))
  | k, m, 0, _, _, _, _, _, h, _ => by omega
  | k, m, fu + 1, s2, s3, s4, s5, hk, hf, hm => by
    have hn := ht.n6
    have all : ∀ c ∈ lvl n m, (∀ v ∈ c, v ≠ 0) ∧ (∀ v ∈ c, v < 64) ∧ c.length ≤ 6 := fun c hc => by
      obtain ⟨r, l, lt⟩ := (mem_lvl hn).mp hc
      exact ⟨r.nz, r.lt, r.len6⟩
    have ll : (lvl n m).length ≤ 2825 := reds_len (nodup_lvl hn m) fun c hc => ((mem_lvl hn).mp hc).1
    by_cases z0 : lvl n m = []
    · refine ⟨none, fun V hV => ?_, ?_⟩
      · have h1 := hm V hV
        have h2 := hV.red.len6
        -- a prefix of V of length m is in the level
        have : V.take m ∈ lvl n m := (mem_lvl hn).mpr ⟨Red.sub hV.red (List.take_sublist m V), by simp; omega, fun x hx => hV.lt x (List.mem_of_mem_take hx)⟩
        rw [z0] at this; cases this
      · unfold evWh
        rw [z0]
        simp [optC]
    · have ne : PyData.eqvAll ((lvl n m).map cD) [] = false := by
        cases q : lvl n m with
        | nil => exact absurd q z0
        | cons x xs => simp [PyData.eqvAll]
      have fc : cmpL (.nm 4) (ev [(92, 1, F__law_sums), (93, 1, F__law_is_reduced), (108, 2, F__law_discreet)] (.call 108 (.cons (.var 0) (.cons (.var 4) .nil)))).b (ev [(92, 1, F__law_sums), (93, 1, F__law_is_reduced), (108, 2, F__law_discreet)] (.var 4)).e [.d (tD n rs), .d (.list ((lvl n m).map cD)), s2, s3, .no, s5] ((lvl n m).map cD) = .ok ((fndD n rs m).map cD) := by
        rw [cmpL_pure cD (dsB n rs) cD fun c hc => ⟨_, by simp; rfl, by simp [law_discreet_eq ht (all c hc).2.1], fun _ => by simp⟩]
        rfl
      cases q : fndD n rs m with
      | cons x xs =>
        refine ⟨some (minA cde x xs), ?_, ?_⟩
        · obtain ⟨h1, h2⟩ := minA_ok cde_ord xs x
          rw [← q] at h1 h2
          obtain ⟨d, l⟩ := (mem_fndD hn).mp h1
          refine ⟨d, fun V hV => ⟨by rw [l]; exact hm V hV, fun e => h2 V ((mem_fndD hn).mpr ⟨hV, by omega⟩)⟩⟩
        · unfold evWh
          rw [q] at fc
          simp [-List.map_map] at fc
          simp [-List.map_map, ne]
          rw [fc]
          simp [-List.map_map, PyData.eqvAll, minB_cD, min_cD, optC]
      | nil =>
        have m7 : m ≤ 6 := by
          by_cases y : m ≤ 6
          · exact y
          · cases e : lvl n m with
            | nil => exact absurd e z0
            | cons c cs =>
              obtain ⟨r, l, _⟩ := (mem_lvl hn).mp (show c ∈ lvl n m by rw [e]; exact List.mem_cons_self)
              have := r.len6
              omega
        cases k with
        | zero => omega
        | succ k =>
          obtain ⟨t4, t5, e⟩ := ext_loopD (rs := rs) hn (.d (.list ((lvl n m).map cD))) (.d (.list [])) (lvl n m) [] s4 s5 (fun c hc => ⟨(all c hc).2.1, (all c hc).2.2⟩) (by simp; omega)
          rw [List.map_nil, List.nil_append] at e
          have fi : ((lvl n m).flatMap (nxs n)).filter isR = lvl n (m + 1) := rfl
          obtain ⟨o, ho, eo⟩ := first_loop ht k (m + 1) fu (.d (.list [])) (.d (.list (((lvl n m).flatMap (nxs n)).map cD))) t4 t5 (by omega) (by omega) fun V hV => by
            have h1 := hm V hV
            by_cases y : V.length = m
            · have := (mem_fndD hn).mpr ⟨hV, y⟩
              rw [q] at this; cases this
            · omega
          refine ⟨o, ho, ?_⟩
          unfold evWh
          rw [q] at fc
          simp [-List.map_map] at fc
          simp [-List.map_map, ne]
          rw [fc]
          simp [-List.map_map]
          rw [e]
          simp [-List.map_map]
          rw [cmpL_pure cD isR cD fun c hc => ⟨_, by simp; rfl, ?_, fun _ => by simp⟩]
          · rw [fi]
            exact eo
          · obtain ⟨d, hd', hc'⟩ := List.mem_flatMap.mp hc
            obtain ⟨v, hv, _, rfl⟩ := mem_nxs.mp hc'
            obtain ⟨r, l, lt⟩ := (mem_lvl hn).mp hd'
            obtain ⟨v0, vn⟩ := (mem_sms hn).mp hv
            have l6 := r.len6
            have a1 : ∀ x ∈ d ++ [v], x ≠ 0 := fun x hx => (List.mem_append.mp hx).elim (r.nz x) fun z => by rw [List.mem_singleton.mp z]; exact v0
            have a2 : ∀ x ∈ d ++ [v], x < 64 := fun x hx => (List.mem_append.mp hx).elim (r.lt x) fun z => by rw [List.mem_singleton.mp z]; exact p64 hn vn
            simp [law_is_reduced_eq a1 a2 (by simp; omega)]
theorem law_first_eq {n : Nat} {rs : List Rn} (ht : TOk n rs) : F__law_first [.d (tD n rs)] = .ok (.d (optC (dfst n rs))) := by
  obtain ⟨o, ho, e⟩ := first_loop ht 8 0 fuel .no .no .no .no (by omega) (by decide) (fun V hV => Nat.zero_le _)
  rw [← ho.uniq (dfst_ok ht)]
  rw [show List.map cD (lvl n 0) = [PyData.tuple []] from rfl] at e
  simp only [F__law_first, c__law_first, run_1, evS_cons, evS_set]
  simp at e ⊢
  rw [e]
  rfl
end Q
namespace Q
open PySem PySem.Spec PyProof.Rows L2
def c__law_lasting : CS := (.cons (.set 2 (.call 74 (.cons (.var 0) (.cons (.var 1) .nil)))) (.cons (.ifS (.bin .eq (.isN false (.var 2)) (.call 31 (.cons (.var 0) (.cons (.var 1) .nil)))) (.cons (.ret (.con (.bool false))) .nil) .nil) (.cons (.forS (.rng1 (.con (.int 6))) (.nm 3) (.cons (.set 4 (.and (.isN true (.var 2)) (.bin .lt (.var 3) (.blt .len (.cons (.var 2) .nil))))) (.cons (.ifS (.bin .ne (.call 73 (.cons (.var 0) (.cons (.var 1) (.cons (.var 3) .nil)))) (.var 4)) (.cons (.ret (.con (.bool false))) .nil) .nil) .nil))) (.cons (.ret (.con (.bool true))) .nil))))
def F__law_lasting : Fn := run [(31, 2, F_is_serving), (73, 3, F_is_safe), (74, 2, F_weakest)] 5 c__law_lasting
end Q
namespace Q
open PySem PySem.Spec PyProof.Rows L2 GF
/-! ### losses -/
theorem mem_dl {c l : List Nat} {x : Nat} : x ∈ dl c l ↔ ∃ i, c[i]? = some x ∧ i ∉ l := by
  unfold dl
  simp only [List.mem_map, List.mem_filter, Bool.not_eq_true', decide_eq_false_iff_not, Prod.exists, exists_and_right, exists_eq_right]
  constructor
  · rintro ⟨i, h, n⟩; exact ⟨i, List.mem_zipIdx_iff_getElem?.mp h, n⟩
  · rintro ⟨i, h, n⟩; exact ⟨i, List.mem_zipIdx_iff_getElem?.mpr h, n⟩
theorem dl_sub {c l : List Nat} : ∀ x ∈ dl c l, x ∈ c := fun x hx => by
  obtain ⟨i, h, _⟩ := mem_dl.mp hx
  exact List.mem_of_getElem? h
theorem dl_len (c l : List Nat) : (dl c l).length ≤ c.length := by
  unfold dl
  rw [List.length_map]
  exact Nat.le_trans (List.length_filter_le _ _) (by simp)
theorem svv_srv {rs : List Rn} {c l : List Nat} (hc : ∀ v ∈ c, v < 64) : svv rs c l = true ↔ Srv rs (dl c l) := svs_iff fun v hv => hc v (dl_sub v hv)
theorem Srv.mono {rs : List Rn} {a b : List Nat} (s : ∀ v, Sp a v → Sp b v) (h : Srv rs a) : Srv rs b := fun r hr => (h r hr).mono s
theorem svv_mono {rs : List Rn} {c l l' : List Nat} (hc : ∀ v ∈ c, v < 64) (s : ∀ i ∈ l, i ∈ l') (h : svv rs c l = false) : svv rs c l' = false := by
  cases e : svv rs c l' with
  | false => rfl
  | true =>
    have := (svv_srv hc).mpr (Srv.mono (fun v hv => Sp.mono (fun x hx => by
      obtain ⟨i, h1, h2⟩ := mem_dl.mp hx
      exact mem_dl.mpr ⟨i, h1, fun z => h2 (s i z)⟩) hv) ((svv_srv hc).mp e))
    rw [h] at this; cases this
theorem srv_nil {n : Nat} {rs : List Rn} (ht : TOk n rs) : ¬ Srv rs [] := fun h => by
  have r1 := ht.r1
  cases rs with
  | nil => simp at r1
  | cons r rs =>
    rcases h r List.mem_cons_self with z | ⟨v, s, h1, _⟩
    · rw [(ht.ok r List.mem_cons_self).nw] at z; cases z
    · cases (show v = 0 from s)
      simp at h1
theorem svv_all {n : Nat} {rs : List Rn} {c : List Nat} (ht : TOk n rs) (hc : ∀ v ∈ c, v < 64) : svv rs c (List.range c.length) = false := by
  have e : dl c (List.range c.length) = [] := by
    rw [List.eq_nil_iff_forall_not_mem]
    intro x hx
    obtain ⟨i, h1, h2⟩ := mem_dl.mp hx
    exact h2 (List.mem_range.mpr (List.getElem?_eq_some_iff.mp h1).1)
  cases q : svv rs c (List.range c.length) with
  | false => rfl
  | true =>
    have := (svv_srv hc).mp q
    rw [e] at this
    exact absurd this (srv_nil ht)
theorem dl_nil (c : List Nat) : ∀ x, x ∈ dl c [] ↔ x ∈ c := fun x => by
  rw [mem_dl]
  constructor
  · rintro ⟨i, h, _⟩; exact List.mem_of_getElem? h
  · intro h
    obtain ⟨i, hi⟩ := List.getElem?_of_mem h
    exact ⟨i, hi, by simp⟩
theorem svv_nil {rs : List Rn} {c : List Nat} (hc : ∀ v ∈ c, v < 64) : svv rs c [] = true ↔ Srv rs c := by
  rw [svv_srv hc]
  exact ⟨Srv.mono fun v hv => hv.mono fun x hx => (dl_nil c x).mp hx, Srv.mono fun v hv => hv.mono fun x hx => (dl_nil c x).mpr hx⟩
theorem range_rws (m : Nat) : List.range m ∈ rws m := mem_rws.mpr ⟨List.pairwise_lt_range, fun i hi => List.mem_range.mp hi⟩
/-- the weakest sums -/
theorem wk_spec {n : Nat} {rs : List Rn} {c : List Nat} (ht : TOk n rs) (hc : ∀ v ∈ c, v < 64) : (Srv rs c → ∃ l, wk rs c = some l ∧ l ∈ rws c.length ∧ svv rs c l = false ∧ ∀ l' ∈ rws c.length, svv rs c l' = false → l.length ≤ l'.length) ∧ (¬ Srv rs c → wk rs c = none) := by
  refine ⟨fun s => ?_, fun s => ?_⟩
  · have h0 := (svv_nil hc).mpr s
    unfold wk
    rw [if_pos h0]
    cases e : (cho c.length).find? fun l => !svv rs c l with
    | none =>
      rw [List.find?_eq_none] at e
      have := e (List.range c.length) (cho_mem.mpr (range_rws _))
      rw [svv_all ht hc] at this
      exact absurd rfl this
    | some l =>
      unfold cho at e
      obtain ⟨h1, h2, h3⟩ := find_srt cle_ord e
      exact ⟨l, rfl, h1, by simpa using h2, fun l' hl' h' => cle_len (h3 l' hl' (by simp [h']))⟩
  · unfold wk
    rw [if_neg fun h => s ((svv_nil hc).mp h)]
theorem grow {m : Nat} : ∀ (k : Nat) {l : List Nat}, l ∈ rws m → l.length + k ≤ m → ∃ l' ∈ rws m, l'.length = l.length + k ∧ ∀ i ∈ l, i ∈ l'
  | 0, l, h, _ => ⟨l, h, rfl, fun _ z => z⟩
  | k + 1, l, h, hk => by
    obtain ⟨pw, lt⟩ := mem_rws.mp h
    have nd : l.Nodup := pw.imp fun z => Nat.ne_of_lt z
    obtain ⟨j, hj, nj⟩ : ∃ j, j < m ∧ j ∉ l := by
      by_cases z : ∀ j, j < m → j ∈ l
      · have := nodup_le (l := List.range m) (m := l) List.nodup_range fun j hj => z j (List.mem_range.mp hj)
        simp at this
        omega
      · obtain ⟨j, hj⟩ := Classical.not_forall.mp z
        exact ⟨j, Classical.byContradiction fun y => hj fun q => absurd q y, fun q => hj fun _ => q⟩
    have l1 : ((List.range m).filter fun i => decide (i ∈ l) || decide (i = j)) ∈ rws m := mem_rws.mpr ⟨List.pairwise_lt_range.sublist List.filter_sublist, fun i hi => List.mem_range.mp (List.mem_filter.mp hi).1⟩
    have e : ((List.range m).filter fun i => decide (i ∈ l) || decide (i = j)).length = l.length + 1 := by
      have p : ((List.range m).filter fun i => decide (i ∈ l) || decide (i = j)).Perm (j :: l) := by
        refine (List.perm_ext_iff_of_nodup (List.nodup_range.sublist List.filter_sublist) (List.nodup_cons.mpr ⟨nj, nd⟩)).mpr fun i => ?_
        simp only [List.mem_filter, List.mem_range, Bool.or_eq_true, decide_eq_true_eq, List.mem_cons]
        constructor
        · rintro ⟨_, h | h⟩
          · exact .inr h
          · exact .inl h
        · rintro (h | h)
          · exact ⟨h ▸ hj, .inr h⟩
          · exact ⟨lt i h, .inl h⟩
      simpa using p.length_eq
    obtain ⟨l', h1, h2, h3⟩ := grow k l1 (by omega)
    refine ⟨l', h1, by omega, fun i hi => h3 i (List.mem_filter.mpr ⟨List.mem_range.mpr (lt i hi), by simp [hi]⟩)⟩
/-- safe against j losses -/
def sfB (rs : List Rn) (c : List Nat) (j : Nat) : Bool := ((cho c.length).filter fun l => decide ((l.length : Int) = if (c.length : Int) < (j : Int) then (c.length : Int) else (j : Int))).all (svv rs c)
theorem sfB_iff {rs : List Rn} {c : List Nat} {j : Nat} : sfB rs c j = true ↔ ∀ l ∈ rws c.length, l.length = min j c.length → svv rs c l = true := by
  unfold sfB
  rw [List.all_eq_true]
  have e : ∀ l : List Nat, ((l.length : Int) = if (c.length : Int) < (j : Int) then (c.length : Int) else (j : Int)) ↔ l.length = min j c.length := fun l => by
    split <;> omega
  constructor
  · intro h l hl hm
    exact h l (List.mem_filter.mpr ⟨cho_mem.mpr hl, decide_eq_true ((e l).mpr hm)⟩)
  · intro h l hl
    obtain ⟨h1, h2⟩ := List.mem_filter.mp hl
    exact h l (cho_mem.mp h1) ((e l).mp (of_decide_eq_true h2))
theorem sfB_wk {n : Nat} {rs : List Rn} {c : List Nat} (ht : TOk n rs) (hc : ∀ v ∈ c, v < 64) (j : Nat) : sfB rs c j = match wk rs c with | none => false | some l => decide (j < l.length) := by
  have sp := wk_spec ht hc
  by_cases s : Srv rs c
  · obtain ⟨l, e, h1, h2, h3⟩ := sp.1 s
    rw [e]
    have ll : l.length ≤ c.length := by
      obtain ⟨pw, lt⟩ := mem_rws.mp h1
      have := nodup_le (l := l) (m := List.range c.length) (pw.imp fun z => Nat.ne_of_lt z) fun x hx => List.mem_range.mpr (lt x hx)
      simpa using this
    rw [Bool.eq_iff_iff, sfB_iff, decide_eq_true_eq]
    constructor
    · intro h
      by_cases z : j < l.length
      · exact z
      · obtain ⟨l', a1, a2, a3⟩ := grow (min j c.length - l.length) h1 (by omega)
        have := h l' a1 (by omega)
        rw [svv_mono hc a3 h2] at this
        cases this
    · intro z l' hl' e'
      cases q : svv rs c l' with
      | true => rfl
      | false =>
        have := h3 l' hl' q
        omega
  · rw [sp.2 s]
    cases q : sfB rs c j with
    | false => rfl
    | true =>
      have h0 : svv rs c [] = false := by
        cases y : svv rs c [] with
        | false => rfl
        | true => exact absurd ((svv_nil hc).mp y) s
      obtain ⟨l', a1, a2, a3⟩ := grow (m := c.length) (min j c.length) (l := []) (mem_rws.mpr ⟨.nil, by simp⟩) (by simp; omega)
      have := sfB_iff.mp q l' a1 (by simpa using a2)
      rw [svv_mono hc (by simp) h0] at this
      cases this
theorem is_safe_sf {n : Nat} {rs : List Rn} {c : List Nat} {j : Nat} (ht : TOk n rs) (hc : COk n c) (l : c.length ≤ 8) (j8 : j ≤ 8) : F_is_safe [.d (tD n rs), .d (cD c), .d (nI j)] = .ok (.d (.bool (sfB rs c j))) := is_safe_eq ht hc l (by omega) (by omega)
theorem is_serving_svs {n : Nat} {rs : List Rn} {c : List Nat} (ht : TOk n rs) (hc : COk n c) (l : c.length ≤ 8) : F_is_serving [.d (tD n rs), .d (cD c)] = .ok (.d (.bool (svs rs c))) := is_serving_eq ht hc l
theorem law_lasting_eq {n : Nat} {rs : List Rn} {c : List Nat} (ht : TOk n rs) (hc : COk n c) (l : c.length ≤ 8) : F__law_lasting [.d (tD n rs), .d (cD c)] = .ok (.d (.bool true)) := by
  have hc6 := hc.lt ht.n6
  have sp := wk_spec ht hc6
  have sf : ∀ j : Nat, j ≤ 8 → F_is_safe [.d (tD n rs), .d (cD c), .d (nI j)] = .ok (.d (.bool (match wk rs c with | none => false | some l => decide (j < l.length)))) := fun j hj => by
    rw [is_safe_sf ht hc l hj, sfB_wk ht hc6]
  have s0 := sf 0 (by omega)
  have s1 := sf 1 (by omega)
  have s2 := sf 2 (by omega)
  have s3 := sf 3 (by omega)
  have s4 := sf 4 (by omega)
  have s5 := sf 5 (by omega)
  simp only [nI] at s0 s1 s2 s3 s4 s5
  have sv : svs rs c = (wk rs c).isSome := by
    rw [Bool.eq_iff_iff, svs_iff hc6]
    by_cases s : Srv rs c
    · obtain ⟨l, e, _⟩ := sp.1 s
      rw [e]; simp [s]
    · rw [sp.2 s]; simp [s]
  cases e : wk rs c with
  | none =>
    rw [e] at sv s0 s1 s2 s3 s4 s5
    simp at s0 s1 s2 s3 s4 s5 sv
    simp [F__law_lasting, c__law_lasting, weakest_eq ht hc l, e, optD, isNo, is_serving_svs ht hc l, sv, PyData.eqv, rngD, List.range, List.range.loop, s0, s1, s2, s3, s4, s5]
  | some w =>
    rw [e] at sv s0 s1 s2 s3 s4 s5
    have ln : fBl .len [.d (iD w)] = .ok (.d (nI w.length)) := by unfold iD nL; simp [nI]
    have no : isNo (iD w) = false := rfl
    have lt : ∀ j : Nat, f2 .lt (.d (.int (j : Int))) (.d (nI w.length)) = .ok (.d (.bool (decide (j < w.length)))) := fun j => by unfold nI; simp
    have l0 := lt 0
    have l1 := lt 1
    have l2 := lt 2
    have l3 := lt 3
    have l4 := lt 4
    have l5 := lt 5
    have eb : ∀ b : Bool, PyData.eqv (.bool b) (.bool b) = true := fun b => by cases b <;> rfl
    simp at s0 s1 s2 s3 s4 s5 sv l0 l1 l2 l3 l4 l5
    simp [F__law_lasting, c__law_lasting, weakest_eq ht hc l, e, optD, no, is_serving_svs ht hc l, sv, PyData.eqv, rngD, List.range, List.range.loop, s0, s1, s2, s3, s4, s5, ln, l0, l1, l2, l3, l4, l5]
end Q
namespace Q
open PySem PySem.Spec PyProof.Rows L2 GF
theorem Srv.congr {rs : List Rn} {a b : List Nat} (s : ∀ v, Sp a v ↔ Sp b v) : Srv rs a ↔ Srv rs b := ⟨Srv.mono fun v => (s v).mp, Srv.mono fun v => (s v).mpr⟩
theorem red_lenn {n : Nat} {b : List Nat} (r : Red b) (lt : ∀ x ∈ b, x < 2 ^ n) : b.length ≤ n := by
  have := nodup_le (m := List.range n) r.hds fun i hi => by
    obtain ⟨x, hx, rfl⟩ := List.mem_map.mp hi
    have h := (hd_spec (r.nz x hx) (r.lt x hx)).2.1
    by_cases z : hd x < n
    · exact List.mem_range.mpr z
    · rw [Nat.testBit_lt_two_pow (Nat.lt_of_lt_of_le (lt x hx) (Nat.pow_le_pow_right (by decide) (by omega)))] at h
      cases h
  simpa using this
theorem svs_bas {rs : List Rn} {c : List Nat} (hc : ∀ v ∈ c, v < 64) : svs rs (bas c) = svs rs c := by
  rw [Bool.eq_iff_iff, svs_iff hc, svs_iff (bas_red hc).lt]
  exact Srv.congr fun v => bas_sp hc v
theorem dsB_bas {n : Nat} {rs : List Rn} {c : List Nat} (hc : ∀ v ∈ c, v < 64) : dsB n rs (bas c) = dsB n rs c := by
  unfold dsB
  rw [svs_bas hc, bas_self (bas_red hc)]
/-! ### best codes and losses -/
theorem lm_pos {n : Nat} {rs : List Rn} (ht : TOk n rs) : 1 ≤ (bst rs).length := by
  have h := (mem_bests ht).mp (bst_mem ht)
  cases e : bst rs with
  | nil => exact absurd (e ▸ h.2.1) (srv_nil ht)
  | cons a l => simp
theorem svv_bst0 {n : Nat} {rs : List Rn} (ht : TOk n rs) : svv rs (bst rs) [0] = false := by
  have h := (mem_bests ht).mp (bst_mem ht)
  cases q : svv rs (bst rs) [0] with
  | false => rfl
  | true =>
    have s := (svv_srv h.1.lt).mp q
    have p := lm_pos ht
    cases e : bst rs with
    | nil => rw [e] at p; simp at p
    | cons a l =>
      have hr := h.1
      rw [e] at hr s
      have rl : Red l := Red.sub hr (List.sublist_cons_self _ _)
      have s' : Srv rs l := Srv.mono (fun v hv => hv.mono fun x hx => by
        obtain ⟨i, h1, h2⟩ := mem_dl.mp hx
        cases i with
        | zero => simp at h2
        | succ i => exact List.mem_of_getElem? (by simpa using h1)) s
      have := lm_le ht.n6 ht.ro (beg := []) ⟨by simp, by simp, .nil⟩ rl (fun v hv => by cases (show v = 0 from hv); exact Sp.zero _) s'
      have l2 := h.2.2
      rw [e] at l2
      simp at l2
      omega
theorem mem0_rws {m : Nat} (h : 1 ≤ m) : [0] ∈ rws m := mem_rws.mpr ⟨by simp, by simp; omega⟩
theorem sfB_bst {n : Nat} {rs : List Rn} (ht : TOk n rs) : sfB rs (bst rs) 1 = false := by
  cases q : sfB rs (bst rs) 1 with
  | false => rfl
  | true =>
    have p := lm_pos ht
    have := sfB_iff.mp q [0] (mem0_rws p) (by simp; omega)
    rw [svv_bst0 ht] at this
    cases this
theorem wk_bst {n : Nat} {rs : List Rn} (ht : TOk n rs) : ∃ i, wk rs (bst rs) = some [i] := by
  have h := (mem_bests ht).mp (bst_mem ht)
  obtain ⟨l, e, h1, h2, h3⟩ := (wk_spec ht h.1.lt).1 h.2.1
  have := h3 [0] (mem0_rws (lm_pos ht)) (svv_bst0 ht)
  rw [e]
  match l, this, h2 with
  | [], _, h2 => rw [(svv_nil h.1.lt).mpr h.2.1] at h2; cases h2
  | [i], _, _ => exact ⟨i, rfl⟩
  | _ :: _ :: _, z, _ => simp at z
theorem sfB_twice {rs : List Rn} {b : List Nat} (hb : ∀ v ∈ b, v < 64) (s : Srv rs b) (p : 1 ≤ b.length) : sfB rs (b ++ b) 1 = true := by
  refine sfB_iff.mpr fun l hl e => ?_
  have hbb : ∀ v ∈ b ++ b, v < 64 := fun v hv => (List.mem_append.mp hv).elim (hb v) (hb v)
  have e1 : l.length = 1 := by rw [e]; simp; omega
  match l, e1 with
  | [i], _ =>
    refine (svv_srv hbb).mpr (Srv.mono (fun v hv => hv.mono fun x hx => ?_) s)
    obtain ⟨j, hj⟩ := List.getElem?_of_mem hx
    have lj := (List.getElem?_eq_some_iff.mp hj).1
    by_cases z : j = i
    · refine mem_dl.mpr ⟨b.length + j, ?_, by simp; omega⟩
      rw [List.getElem?_append_right (by omega)]
      simpa using hj
    · exact mem_dl.mpr ⟨j, by rw [List.getElem?_append_left lj]; exact hj, by simpa using z⟩
/-! ### what a discreet code tells -/
theorem sorted_nat {l m : List Nat} (hl : l.Pairwise (· < ·)) (hm : m.Pairwise (· < ·)) (h : ∀ x, x ∈ l ↔ x ∈ m) : l = m := sorted_ext (f := id) hl hm h
theorem or_bit {k w i : Nat} : (k ||| 2 ^ w).testBit i = (k.testBit i || decide (w = i)) := by
  rw [Nat.testBit_or, Nat.testBit_two_pow]
theorem lrn_dis {n : Nat} {rs : List Rn} {d : List Nat} (ht : TOk n rs) (hd : Dis n rs d) {r : Rn} (hr : r ∈ rs) : iL (msgs (r.2 ||| 2 ^ r.1)) = nL (lrn n d r.2) := by
  rw [msgs_bits]
  congr 1
  have ok := ht.ok r hr
  refine sorted_nat (List.pairwise_lt_range.sublist List.filter_sublist) (List.pairwise_lt_range.sublist List.filter_sublist) fun x => ?_
  have nt : ¬ tm n rs d = true := by rw [hd.tm]; exact Bool.noConfusion
  have n6 := ht.n6
  unfold lrn
  rw [bits, List.mem_filter, List.mem_filter, List.mem_range, List.mem_range, or_bit, tld_iff hd.red.lt]
  constructor
  · rintro ⟨h1, h2⟩
    rcases Bool.or_eq_true_iff.mp h2 with z | z
    · refine ⟨?_, .inl z⟩
      by_cases y : x < n
      · exact y
      · rw [Nat.testBit_lt_two_pow (Nat.lt_of_lt_of_le ok.k (Nat.pow_le_pow_right (by decide) (by omega)))] at z
        cases z
    · have e := of_decide_eq_true z
      subst e
      exact ⟨ok.w, hd.srv r hr⟩
  · rintro ⟨h1, h2⟩
    refine ⟨by omega, ?_⟩
    by_cases y : x = r.1
    · simp [y]
    · cases z : r.2.testBit x with
      | true => rfl
      | false => exact absurd ((tm_iff hd.red.lt).mpr ⟨r, hr, x, h1, h2, y, z⟩) nt
theorem bits_app {k w : Nat} (hk : k < 64) (hw : w < 6) (nw : k.testBit w = false) : Bits (msgs k ++ [(w : Int)]) (k ||| 2 ^ w) := by
  have hx : k ||| 2 ^ w < 64 := Nat.or_lt_two_pow (n := 6) hk (Nat.pow_lt_pow_right (by decide) hw)
  have ni : (w : Int) ∉ msgs k := by rw [mem_msgs hk, nw]; exact Bool.noConfusion
  refine ⟨List.nodup_append.mpr ⟨(Bits.msgs k).nd, by simp, fun a ha b hb => ?_⟩, fun x => ?_⟩
  · rw [List.mem_singleton.mp hb]
    rintro rfl
    exact ni ha
  · rw [List.mem_append, List.mem_singleton]
    constructor
    · rintro (z | rfl)
      · obtain ⟨i, rfl, _⟩ := msgs_nat z
        rw [mem_msgs hk] at z
        rw [mem_msgs hx, or_bit, z]; rfl
      · rw [mem_msgs hx, or_bit]; simp
    · intro z
      obtain ⟨i, rfl, _⟩ := msgs_nat z
      rw [mem_msgs hx, or_bit] at z
      rcases Bool.or_eq_true_iff.mp z with z | z
      · exact .inl ((mem_msgs hk).mpr z)
      · exact .inr (by rw [of_decide_eq_true z])
theorem srt_know {k w : Nat} (hk : k < 64) (hw : w < 6) (nw : k.testBit w = false) : (iL (msgs k) ++ [nI w]).mergeSort dle = iL (msgs (k ||| 2 ^ w)) := by
  rw [← (bits_app hk hw nw).sort]
  simp [iL, nI]
/-! ### nobody knows anything -/
def bld (n : Nat) : List Rn := (List.range n).map fun w => (w, 0)
theorem bld_ok {n : Nat} (h1 : 1 ≤ n) (h6 : n ≤ 6) : TOk n (bld n) := by
  refine ⟨h1, h6, by simp [bld]; omega, by simp [bld]; omega, fun r hr => ?_⟩
  obtain ⟨w, hw, rfl⟩ := List.mem_map.mp hr
  exact ⟨List.mem_range.mp hw, Nat.pow_pos (by decide), by simp⟩
theorem bld_one : (dfst 1 (bld 1)).isSome = true := by decide +kernel
theorem bld_dfst {n : Nat} (h1 : 1 ≤ n) (h6 : n ≤ 6) : (dfst n (bld n)).isNone = decide (1 < n) := by
  by_cases z : 1 < n
  · have f := dfst_ok (bld_ok h1 h6)
    cases e : dfst n (bld n) with
    | none => simp [z]
    | some d =>
      rw [e] at f
      have hd := f.1
      have m0 : ((0, 0) : Rn) ∈ bld n := List.mem_map.mpr ⟨0, List.mem_range.mpr (by omega), rfl⟩
      have m1 : ((1, 0) : Rn) ∈ bld n := List.mem_map.mpr ⟨1, List.mem_range.mpr z, rfl⟩
      have t := (tm_iff (n := n) (rs := bld n) hd.red.lt).mpr ⟨(0, 0), m0, 1, z, hd.srv _ m1, by decide, by simp⟩
      rw [hd.tm] at t
      cases t
  · have : n = 1 := by omega
    subst this
    have := bld_one
    cases e : dfst 1 (bld 1) with
    | none => rw [e] at this; cases this
    | some d => rfl
end Q
namespace L19
open PySem PySem.Spec PyProof.Rows L2 Q GF
def sg0 : CS := (.cons (.pat (.cons (.nm 4) (.cons (.nm 5) .nil)) (.var 3)) (.cons (.par 6 7 (.call 69 (.cons (.var 3) .nil)) (.call 71 (.cons (.var 3) .nil))) (.cons (.ifS (.or (.bin .ne (.isN false (.var 6)) (.isN false (.var 7))) (.and (.isN true (.var 6)) (.bin .lt (.var 6) (.call 44 (.cons (.var 3) .nil))))) (.cons (.ret (.con (.bool false))) .nil) .nil) .nil)))
def cp1_7 : CS := (.cons (.ifS (.or (.not (.call 111 (.cons (.var 3) (.cons (.var 8) .nil)))) (.not (.call 111 (.cons (.var 3) (.cons (.bin .add (.var 12) (.var 12)) .nil))))) (.cons (.ret (.con (.bool false))) .nil) .nil) .nil)
def cp1_6 : CS := (.cons (.ifS (.or (.call 73 (.cons (.var 3) (.cons (.var 12) (.cons (.con (.int 1)) .nil)))) (.or (.not (.call 73 (.cons (.var 3) (.cons (.bin .add (.var 12) (.var 12)) (.cons (.con (.int 1)) .nil))))) (.bin .ne (.blt .len (.cons (.call 74 (.cons (.var 3) (.cons (.var 12) .nil))) .nil)) (.con (.int 1))))) (.cons (.ret (.con (.bool false))) .nil) .nil) cp1_7)
def cp1_5 : CS := (.cons (.set 12 (.call 46 (.cons (.var 3) .nil))) cp1_6)
def cp1_4 : CS := (.cons (.ifS (.bin .ne (.isN false (.call 69 (.cons (.var 11) .nil))) (.bin .gt (.var 4) (.con (.int 1)))) (.cons (.ret (.con (.bool false))) .nil) .nil) cp1_5)
def cp1_3 : CS := (.cons (.set 11 (.tup (.cons (.var 4) (.cons (.blt .tup (.cons (.comp false (.rng1 (.var 4)) (.nm 9) .yes (.tup (.cons (.var 9) (.cons (.tup .nil) .nil)))) .nil)) .nil)))) cp1_4)
def cp1_2 : CS := (.cons (.ifS (.isN true (.var 7)) (.cons (.ifS (.or (.not (.call 70 (.cons (.var 3) (.cons (.var 7) .nil)))) (.or (.bin .ne (.blt .len (.cons (.var 7) .nil)) (.var 6)) (.bin .ne (.call 38 (.cons (.var 4) (.cons (.var 7) .nil))) (.var 7)))) (.cons (.ret (.con (.bool false))) .nil) .nil) (.cons (.forS (.var 5) (.cons (.nm 9) (.cons (.nm 10) .nil)) (.cons (.ifS (.bin .ne (.call 26 (.cons (.var 4) (.cons (.var 7) (.cons (.var 10) .nil)))) (.blt .tup (.cons (.blt .srt (.cons (.bin .add (.var 10) (.tup (.cons (.var 9) .nil))) .nil)) .nil))) (.cons (.ret (.con (.bool false))) .nil) .nil) .nil)) (.cons (.ifS (.and (.call 70 (.cons (.var 3) (.cons (.call 46 (.cons (.var 3) .nil)) .nil))) (.bin .ne (.var 6) (.call 44 (.cons (.var 3) .nil)))) (.cons (.ret (.con (.bool false))) .nil) .nil) .nil))) .nil) cp1_3)
def cp1_1 : CS := (.cons (.ifS (.and (.call 70 (.cons (.var 3) (.cons (.var 8) .nil))) (.or (.isN false (.var 6)) (.bin .lt (.call 40 (.cons (.var 4) (.cons (.var 8) .nil))) (.var 6)))) (.cons (.ret (.con (.bool false))) .nil) .nil) cp1_2)
def cp1 : CS := (.cons (.ifS (.bin .ne (.call 70 (.cons (.var 3) (.cons (.var 8) .nil))) (.call 70 (.cons (.var 3) (.cons (.call 38 (.cons (.var 4) (.cons (.var 8) .nil))) .nil)))) (.cons (.ret (.con (.bool false))) .nil) .nil) cp1_1)
def rs0 : CS := sg0.thn (.cons (.set 8 (.call 4 (.cons (.var 0) (.cons (.var 1) (.cons (.var 4) (.cons (.con (.int 5)) .nil)))))) cp1)
def cp3 : CS := (.cons (.ret (.con (.bool true))) .nil)
def c_law : CS := (.cons (.set 1 (.call 1 .nil)) (.cons (.forS (.rng1 (.con (.int 4))) (.nm 2) (.cons (.set 3 (.call 2 (.cons (.var 0) (.cons (.var 1) (.cons (.con (.int 4)) (.cons (.con (.int 4)) .nil)))))) rs0)) cp3))
def TA : Tab := [(5, 1, F_bit), (6, 1, F_number_of), (7, 1, F_messages_of), (8, 1, F_lowest), (9, 2, F_cleared), (10, 2, F_joined), (11, 1, F_basis_of), (12, 3, F_told), (13, 3, F_is_between), (14, 1, F_is_ascending), (15, 2, F_are_messages), (16, 2, F_is_receiver), (17, 1, F_is_task), (18, 1, F_check_task), (19, 1, F_check_messages), (20, 2, F_is_sum), (21, 2, F_is_code_of), (23, 2, F_check_code), (24, 1, F_basis_for), (25, 3, F_learned_from), (26, 3, F_learned), (27, 2, F_served_by), (28, 2, F_check_both), (30, 2, F_does_serve), (31, 2, F_is_serving), (34, 1, F_choices_of), (37, 1, F_code_of), (38, 2, F_reduced), (40, 2, F_rank), (41, 2, F_wishes), (42, 3, F_extended), (43, 2, F_least_many), (44, 1, F_fewest), (45, 1, F_all_found), (46, 1, F_best_code), (67, 2, F_tells_more), (68, 1, F_discreet_bases), (69, 1, F_fewest_discreet), (70, 2, F_is_discreet), (71, 1, F_discreet_code), (72, 3, F_survives), (73, 3, F_is_safe), (74, 2, F_weakest), (111, 2, F__law_lasting)]
def imps (sa : Addr) : List (Nat × Nat × FSpec (Option Addr)) := [(0, 3, spDraw sa), (1, 0, spBegun), (2, 4, spTaskN sa), (3, 3, spSumN sa), (4, 4, spCodeN sa)]
def δ (sa : Addr) : Den (Option Addr) := mkDen (imps sa) TA
theorem tabA {sa : Addr} : TabOk (δ sa) TA := mkDen_tab (by rfl)
@[simp] theorem fc_5 (r : Rs (List D)) : fCall TA 5 r = r.bind (fApp 1 F_bit) := rfl
@[simp] theorem fk_5 (n : Nat) (r r' : Rs (List D)) : fCallK TA 5 n r r' = r.bind fun ds => if ds.length = n then r'.bind fun es => fApp 1 F_bit (ds ++ es) else .no := rfl
@[simp] theorem fc_6 (r : Rs (List D)) : fCall TA 6 r = r.bind (fApp 1 F_number_of) := rfl
@[simp] theorem fk_6 (n : Nat) (r r' : Rs (List D)) : fCallK TA 6 n r r' = r.bind fun ds => if ds.length = n then r'.bind fun es => fApp 1 F_number_of (ds ++ es) else .no := rfl
@[simp] theorem fc_7 (r : Rs (List D)) : fCall TA 7 r = r.bind (fApp 1 F_messages_of) := rfl
@[simp] theorem fk_7 (n : Nat) (r r' : Rs (List D)) : fCallK TA 7 n r r' = r.bind fun ds => if ds.length = n then r'.bind fun es => fApp 1 F_messages_of (ds ++ es) else .no := rfl
@[simp] theorem fc_8 (r : Rs (List D)) : fCall TA 8 r = r.bind (fApp 1 F_lowest) := rfl
@[simp] theorem fk_8 (n : Nat) (r r' : Rs (List D)) : fCallK TA 8 n r r' = r.bind fun ds => if ds.length = n then r'.bind fun es => fApp 1 F_lowest (ds ++ es) else .no := rfl
@[simp] theorem fc_9 (r : Rs (List D)) : fCall TA 9 r = r.bind (fApp 2 F_cleared) := rfl
@[simp] theorem fk_9 (n : Nat) (r r' : Rs (List D)) : fCallK TA 9 n r r' = r.bind fun ds => if ds.length = n then r'.bind fun es => fApp 2 F_cleared (ds ++ es) else .no := rfl
@[simp] theorem fc_10 (r : Rs (List D)) : fCall TA 10 r = r.bind (fApp 2 F_joined) := rfl
@[simp] theorem fk_10 (n : Nat) (r r' : Rs (List D)) : fCallK TA 10 n r r' = r.bind fun ds => if ds.length = n then r'.bind fun es => fApp 2 F_joined (ds ++ es) else .no := rfl
@[simp] theorem fc_11 (r : Rs (List D)) : fCall TA 11 r = r.bind (fApp 1 F_basis_of) := rfl
@[simp] theorem fk_11 (n : Nat) (r r' : Rs (List D)) : fCallK TA 11 n r r' = r.bind fun ds => if ds.length = n then r'.bind fun es => fApp 1 F_basis_of (ds ++ es) else .no := rfl
@[simp] theorem fc_12 (r : Rs (List D)) : fCall TA 12 r = r.bind (fApp 3 F_told) := rfl
@[simp] theorem fk_12 (n : Nat) (r r' : Rs (List D)) : fCallK TA 12 n r r' = r.bind fun ds => if ds.length = n then r'.bind fun es => fApp 3 F_told (ds ++ es) else .no := rfl
@[simp] theorem fc_13 (r : Rs (List D)) : fCall TA 13 r = r.bind (fApp 3 F_is_between) := rfl
@[simp] theorem fk_13 (n : Nat) (r r' : Rs (List D)) : fCallK TA 13 n r r' = r.bind fun ds => if ds.length = n then r'.bind fun es => fApp 3 F_is_between (ds ++ es) else .no := rfl
@[simp] theorem fc_14 (r : Rs (List D)) : fCall TA 14 r = r.bind (fApp 1 F_is_ascending) := rfl
@[simp] theorem fk_14 (n : Nat) (r r' : Rs (List D)) : fCallK TA 14 n r r' = r.bind fun ds => if ds.length = n then r'.bind fun es => fApp 1 F_is_ascending (ds ++ es) else .no := rfl
@[simp] theorem fc_15 (r : Rs (List D)) : fCall TA 15 r = r.bind (fApp 2 F_are_messages) := rfl
@[simp] theorem fk_15 (n : Nat) (r r' : Rs (List D)) : fCallK TA 15 n r r' = r.bind fun ds => if ds.length = n then r'.bind fun es => fApp 2 F_are_messages (ds ++ es) else .no := rfl
@[simp] theorem fc_16 (r : Rs (List D)) : fCall TA 16 r = r.bind (fApp 2 F_is_receiver) := rfl
@[simp] theorem fk_16 (n : Nat) (r r' : Rs (List D)) : fCallK TA 16 n r r' = r.bind fun ds => if ds.length = n then r'.bind fun es => fApp 2 F_is_receiver (ds ++ es) else .no := rfl
@[simp] theorem fc_17 (r : Rs (List D)) : fCall TA 17 r = r.bind (fApp 1 F_is_task) := rfl
@[simp] theorem fk_17 (n : Nat) (r r' : Rs (List D)) : fCallK TA 17 n r r' = r.bind fun ds => if ds.length = n then r'.bind fun es => fApp 1 F_is_task (ds ++ es) else .no := rfl
@[simp] theorem fc_18 (r : Rs (List D)) : fCall TA 18 r = r.bind (fApp 1 F_check_task) := rfl
@[simp] theorem fk_18 (n : Nat) (r r' : Rs (List D)) : fCallK TA 18 n r r' = r.bind fun ds => if ds.length = n then r'.bind fun es => fApp 1 F_check_task (ds ++ es) else .no := rfl
@[simp] theorem fc_19 (r : Rs (List D)) : fCall TA 19 r = r.bind (fApp 1 F_check_messages) := rfl
@[simp] theorem fk_19 (n : Nat) (r r' : Rs (List D)) : fCallK TA 19 n r r' = r.bind fun ds => if ds.length = n then r'.bind fun es => fApp 1 F_check_messages (ds ++ es) else .no := rfl
@[simp] theorem fc_20 (r : Rs (List D)) : fCall TA 20 r = r.bind (fApp 2 F_is_sum) := rfl
@[simp] theorem fk_20 (n : Nat) (r r' : Rs (List D)) : fCallK TA 20 n r r' = r.bind fun ds => if ds.length = n then r'.bind fun es => fApp 2 F_is_sum (ds ++ es) else .no := rfl
@[simp] theorem fc_21 (r : Rs (List D)) : fCall TA 21 r = r.bind (fApp 2 F_is_code_of) := rfl
@[simp] theorem fk_21 (n : Nat) (r r' : Rs (List D)) : fCallK TA 21 n r r' = r.bind fun ds => if ds.length = n then r'.bind fun es => fApp 2 F_is_code_of (ds ++ es) else .no := rfl
@[simp] theorem fc_23 (r : Rs (List D)) : fCall TA 23 r = r.bind (fApp 2 F_check_code) := rfl
@[simp] theorem fk_23 (n : Nat) (r r' : Rs (List D)) : fCallK TA 23 n r r' = r.bind fun ds => if ds.length = n then r'.bind fun es => fApp 2 F_check_code (ds ++ es) else .no := rfl
@[simp] theorem fc_24 (r : Rs (List D)) : fCall TA 24 r = r.bind (fApp 1 F_basis_for) := rfl
@[simp] theorem fk_24 (n : Nat) (r r' : Rs (List D)) : fCallK TA 24 n r r' = r.bind fun ds => if ds.length = n then r'.bind fun es => fApp 1 F_basis_for (ds ++ es) else .no := rfl
@[simp] theorem fc_25 (r : Rs (List D)) : fCall TA 25 r = r.bind (fApp 3 F_learned_from) := rfl
@[simp] theorem fk_25 (n : Nat) (r r' : Rs (List D)) : fCallK TA 25 n r r' = r.bind fun ds => if ds.length = n then r'.bind fun es => fApp 3 F_learned_from (ds ++ es) else .no := rfl
@[simp] theorem fc_26 (r : Rs (List D)) : fCall TA 26 r = r.bind (fApp 3 F_learned) := rfl
@[simp] theorem fk_26 (n : Nat) (r r' : Rs (List D)) : fCallK TA 26 n r r' = r.bind fun ds => if ds.length = n then r'.bind fun es => fApp 3 F_learned (ds ++ es) else .no := rfl
@[simp] theorem fc_27 (r : Rs (List D)) : fCall TA 27 r = r.bind (fApp 2 F_served_by) := rfl
@[simp] theorem fk_27 (n : Nat) (r r' : Rs (List D)) : fCallK TA 27 n r r' = r.bind fun ds => if ds.length = n then r'.bind fun es => fApp 2 F_served_by (ds ++ es) else .no := rfl
@[simp] theorem fc_28 (r : Rs (List D)) : fCall TA 28 r = r.bind (fApp 2 F_check_both) := rfl
@[simp] theorem fk_28 (n : Nat) (r r' : Rs (List D)) : fCallK TA 28 n r r' = r.bind fun ds => if ds.length = n then r'.bind fun es => fApp 2 F_check_both (ds ++ es) else .no := rfl
@[simp] theorem fc_30 (r : Rs (List D)) : fCall TA 30 r = r.bind (fApp 2 F_does_serve) := rfl
@[simp] theorem fk_30 (n : Nat) (r r' : Rs (List D)) : fCallK TA 30 n r r' = r.bind fun ds => if ds.length = n then r'.bind fun es => fApp 2 F_does_serve (ds ++ es) else .no := rfl
@[simp] theorem fc_31 (r : Rs (List D)) : fCall TA 31 r = r.bind (fApp 2 F_is_serving) := rfl
@[simp] theorem fk_31 (n : Nat) (r r' : Rs (List D)) : fCallK TA 31 n r r' = r.bind fun ds => if ds.length = n then r'.bind fun es => fApp 2 F_is_serving (ds ++ es) else .no := rfl
@[simp] theorem fc_34 (r : Rs (List D)) : fCall TA 34 r = r.bind (fApp 1 F_choices_of) := rfl
@[simp] theorem fk_34 (n : Nat) (r r' : Rs (List D)) : fCallK TA 34 n r r' = r.bind fun ds => if ds.length = n then r'.bind fun es => fApp 1 F_choices_of (ds ++ es) else .no := rfl
@[simp] theorem fc_37 (r : Rs (List D)) : fCall TA 37 r = r.bind (fApp 1 F_code_of) := rfl
@[simp] theorem fk_37 (n : Nat) (r r' : Rs (List D)) : fCallK TA 37 n r r' = r.bind fun ds => if ds.length = n then r'.bind fun es => fApp 1 F_code_of (ds ++ es) else .no := rfl
@[simp] theorem fc_38 (r : Rs (List D)) : fCall TA 38 r = r.bind (fApp 2 F_reduced) := rfl
@[simp] theorem fk_38 (n : Nat) (r r' : Rs (List D)) : fCallK TA 38 n r r' = r.bind fun ds => if ds.length = n then r'.bind fun es => fApp 2 F_reduced (ds ++ es) else .no := rfl
@[simp] theorem fc_40 (r : Rs (List D)) : fCall TA 40 r = r.bind (fApp 2 F_rank) := rfl
@[simp] theorem fk_40 (n : Nat) (r r' : Rs (List D)) : fCallK TA 40 n r r' = r.bind fun ds => if ds.length = n then r'.bind fun es => fApp 2 F_rank (ds ++ es) else .no := rfl
@[simp] theorem fc_41 (r : Rs (List D)) : fCall TA 41 r = r.bind (fApp 2 F_wishes) := rfl
@[simp] theorem fk_41 (n : Nat) (r r' : Rs (List D)) : fCallK TA 41 n r r' = r.bind fun ds => if ds.length = n then r'.bind fun es => fApp 2 F_wishes (ds ++ es) else .no := rfl
@[simp] theorem fc_42 (r : Rs (List D)) : fCall TA 42 r = r.bind (fApp 3 F_extended) := rfl
@[simp] theorem fk_42 (n : Nat) (r r' : Rs (List D)) : fCallK TA 42 n r r' = r.bind fun ds => if ds.length = n then r'.bind fun es => fApp 3 F_extended (ds ++ es) else .no := rfl
@[simp] theorem fc_43 (r : Rs (List D)) : fCall TA 43 r = r.bind (fApp 2 F_least_many) := rfl
@[simp] theorem fk_43 (n : Nat) (r r' : Rs (List D)) : fCallK TA 43 n r r' = r.bind fun ds => if ds.length = n then r'.bind fun es => fApp 2 F_least_many (ds ++ es) else .no := rfl
@[simp] theorem fc_44 (r : Rs (List D)) : fCall TA 44 r = r.bind (fApp 1 F_fewest) := rfl
@[simp] theorem fk_44 (n : Nat) (r r' : Rs (List D)) : fCallK TA 44 n r r' = r.bind fun ds => if ds.length = n then r'.bind fun es => fApp 1 F_fewest (ds ++ es) else .no := rfl
@[simp] theorem fc_45 (r : Rs (List D)) : fCall TA 45 r = r.bind (fApp 1 F_all_found) := rfl
@[simp] theorem fk_45 (n : Nat) (r r' : Rs (List D)) : fCallK TA 45 n r r' = r.bind fun ds => if ds.length = n then r'.bind fun es => fApp 1 F_all_found (ds ++ es) else .no := rfl
@[simp] theorem fc_46 (r : Rs (List D)) : fCall TA 46 r = r.bind (fApp 1 F_best_code) := rfl
@[simp] theorem fk_46 (n : Nat) (r r' : Rs (List D)) : fCallK TA 46 n r r' = r.bind fun ds => if ds.length = n then r'.bind fun es => fApp 1 F_best_code (ds ++ es) else .no := rfl
@[simp] theorem fc_67 (r : Rs (List D)) : fCall TA 67 r = r.bind (fApp 2 F_tells_more) := rfl
@[simp] theorem fk_67 (n : Nat) (r r' : Rs (List D)) : fCallK TA 67 n r r' = r.bind fun ds => if ds.length = n then r'.bind fun es => fApp 2 F_tells_more (ds ++ es) else .no := rfl
@[simp] theorem fc_68 (r : Rs (List D)) : fCall TA 68 r = r.bind (fApp 1 F_discreet_bases) := rfl
@[simp] theorem fk_68 (n : Nat) (r r' : Rs (List D)) : fCallK TA 68 n r r' = r.bind fun ds => if ds.length = n then r'.bind fun es => fApp 1 F_discreet_bases (ds ++ es) else .no := rfl
@[simp] theorem fc_69 (r : Rs (List D)) : fCall TA 69 r = r.bind (fApp 1 F_fewest_discreet) := rfl
@[simp] theorem fk_69 (n : Nat) (r r' : Rs (List D)) : fCallK TA 69 n r r' = r.bind fun ds => if ds.length = n then r'.bind fun es => fApp 1 F_fewest_discreet (ds ++ es) else .no := rfl
@[simp] theorem fc_70 (r : Rs (List D)) : fCall TA 70 r = r.bind (fApp 2 F_is_discreet) := rfl
@[simp] theorem fk_70 (n : Nat) (r r' : Rs (List D)) : fCallK TA 70 n r r' = r.bind fun ds => if ds.length = n then r'.bind fun es => fApp 2 F_is_discreet (ds ++ es) else .no := rfl
@[simp] theorem fc_71 (r : Rs (List D)) : fCall TA 71 r = r.bind (fApp 1 F_discreet_code) := rfl
@[simp] theorem fk_71 (n : Nat) (r r' : Rs (List D)) : fCallK TA 71 n r r' = r.bind fun ds => if ds.length = n then r'.bind fun es => fApp 1 F_discreet_code (ds ++ es) else .no := rfl
@[simp] theorem fc_72 (r : Rs (List D)) : fCall TA 72 r = r.bind (fApp 3 F_survives) := rfl
@[simp] theorem fk_72 (n : Nat) (r r' : Rs (List D)) : fCallK TA 72 n r r' = r.bind fun ds => if ds.length = n then r'.bind fun es => fApp 3 F_survives (ds ++ es) else .no := rfl
@[simp] theorem fc_73 (r : Rs (List D)) : fCall TA 73 r = r.bind (fApp 3 F_is_safe) := rfl
@[simp] theorem fk_73 (n : Nat) (r r' : Rs (List D)) : fCallK TA 73 n r r' = r.bind fun ds => if ds.length = n then r'.bind fun es => fApp 3 F_is_safe (ds ++ es) else .no := rfl
@[simp] theorem fc_74 (r : Rs (List D)) : fCall TA 74 r = r.bind (fApp 2 F_weakest) := rfl
@[simp] theorem fk_74 (n : Nat) (r r' : Rs (List D)) : fCallK TA 74 n r r' = r.bind fun ds => if ds.length = n then r'.bind fun es => fApp 2 F_weakest (ds ++ es) else .no := rfl
@[simp] theorem fc_111 (r : Rs (List D)) : fCall TA 111 r = r.bind (fApp 2 F__law_lasting) := rfl
@[simp] theorem fk_111 (n : Nat) (r r' : Rs (List D)) : fCallK TA 111 n r r' = r.bind fun ds => if ds.length = n then r'.bind fun es => fApp 2 F__law_lasting (ds ++ es) else .no := rfl
abbrev nLaw : Nat := 13
/- slots: 0 script, 1 town, 2 k, 3 task, 4 messages, 5 receivers, 6 many, 7 found, 8 code, 9 want, 10 known, 11 blind, 12 best -/
end L19
namespace L19
open PySem PySem.Spec PyProof.Rows L2 Q GF
theorem seg {n : Nat} {rs : List Rn} (ht : TOk n rs) (s0 s1 s2 s4 s5 s6 s7 s8 s9 s10 s11 s12 : S) :
    evS TA sg0 [s0, s1, s2, .d (tD n rs), s4, s5, s6, s7, s8, s9, s10, s11, s12] = .nx [s0, s1, s2, .d (tD n rs), .d (nI n), .d (.tuple (rs.map rD)), .d (optN (dfst n rs)), .d (optC (dfst n rs)), s8, s9, s10, s11, s12] := by
  have fo := dfst_ok ht
  cases e : dfst n rs with
  | none => simp [sg0, fewest_discreet_eq ht, discreet_code_eq ht, e, optC, optN, isNo, PyData.eqv]
  | some c =>
    rw [e] at fo
    have no : isNo (cD c) = false := rfl
    have no' : isNo (nI c.length) = false := rfl
    have le := lm_le ht.n6 ht.ro (beg := []) ⟨by simp, by simp, .nil⟩ fo.1.red (fun v hv => by cases (show v = 0 from hv); exact Sp.zero _) fo.1.srv
    have lt : f2 .lt (.d (nI c.length)) (.d (nI (lm rs []))) = .ok (.d (.bool false)) := by unfold nI; simp; omega
    simp [sg0, fewest_discreet_eq ht, discreet_code_eq ht, e, optC, optN, no, no', fewest_eq ht, lt, PyData.eqv]
theorem loop {n : Nat} {rs : List Rn} {d : List Nat} (ht : TOk n rs) (hd : Dis n rs d) (s0 s1 s2 s3 s5 s6 s8 s11 s12 : S) : ∀ (ts : List Rn) (s9 s10 : S), (∀ r ∈ ts, r ∈ rs) → ∃ t9 t10,
    evFor (.cons (.nm 9) (.cons (.nm 10) .nil)) (evS TA (.cons (.ifS (.bin .ne (.call 26 (.cons (.var 4) (.cons (.var 7) (.cons (.var 10) .nil)))) (.blt .tup (.cons (.blt .srt (.cons (.bin .add (.var 10) (.tup (.cons (.var 9) .nil))) .nil)) .nil))) (.cons (.ret (.con (.bool false))) .nil) .nil) .nil)) (ts.map rD) [s0, s1, s2, s3, .d (nI n), s5, s6, .d (cD d), s8, s9, s10, s11, s12] = .nx [s0, s1, s2, s3, .d (nI n), s5, s6, .d (cD d), s8, t9, t10, s11, s12]
  | [], s9, s10, _ => ⟨s9, s10, rfl⟩
  | r :: ts, s9, s10, h => by
    have hr := h r List.mem_cons_self
    have ok := ht.ok r hr
    have lt := ht.lt r hr
    obtain ⟨t9, t10, e⟩ := loop ht hd s0 s1 s2 s3 s5 s6 s8 s11 s12 ts (.d (nI r.1)) (.d (mD r.2)) fun d hd => h d (List.mem_cons_of_mem _ hd)
    refine ⟨t9, t10, ?_⟩
    rw [List.map_cons]
    unfold evFor
    rw [show bindP (.cons (.nm 9) (.cons (.nm 10) .nil)) (rD r) [s0, s1, s2, s3, .d (nI n), s5, s6, .d (cD d), s8, s9, s10, s11, s12] = some [s0, s1, s2, s3, .d (nI n), s5, s6, .d (cD d), s8, .d (nI r.1), .d (mD r.2), s11, s12] from rfl]
    have okd : COk n d := ⟨fun v hv => ⟨hd.red.nz v hv, hd.lt v hv⟩⟩
    have l8 : d.length ≤ 8 := by have := red_lenn hd.red hd.lt; have := ht.n6; omega
    have le := learned_eq ht.n1 ht.n6 okd l8 ok.k
    rw [bas_self hd.red, ← lrn_dis ht hd hr] at le
    have ml : (msgs r.2).length ≤ 6 := (Bits.msgs r.2).len
    have ad : f2 .add (.d (mD r.2)) (.d (.tuple [nI r.1])) = .ok (.d (.tuple (iL (msgs r.2) ++ [nI r.1]))) := by unfold mD; rw [f2_2, show lenOk ((iL (msgs r.2)).length + [nI r.1].length) = true by simp [lenOk, iL]; omega]; rfl
    have sb : srtB (iL (msgs r.2) ++ [nI r.1]) = true := by
      rw [show iL (msgs r.2) ++ [nI r.1] = iL (msgs r.2 ++ [(r.1 : Int)]) by simp [iL, nI]]
      exact srtB_ints _
    simp [le, ad, sb, srt_know lt.2 lt.1 ok.nw]
    have ee : PyData.eqv (.tuple (iL (msgs (r.2 ||| 2 ^ r.1)))) (.tuple (iL (msgs (r.2 ||| 2 ^ r.1)))) = true := by rw [eqv_tup, eqvAll_ints]; simp
    simp [ee]
    exact e

theorem tail {n : Nat} {rs : List Rn} {c : List Nat} (ht : TOk n rs) (h4 : n ≤ 4) (hc : COk n c) (l : c.length ≤ 5) (s0 s1 s2 s9 s10 s11 s12 : S) :
    (evS TA cp1 [s0, s1, s2, .d (tD n rs), .d (nI n), .d (.tuple (rs.map rD)), .d (optN (dfst n rs)), .d (optC (dfst n rs)), .d (cD c), s9, s10, s11, s12]).is fun env => ∃ t2 t3 t4 t5 t6 t7 t8 t9 t10 t11 t12, env = [s0, s1, t2, t3, t4, t5, t6, t7, t8, t9, t10, t11, t12] := by
  have n1 := ht.n1
  have n6 := ht.n6
  have hc6 := hc.lt n6
  have l8 : c.length ≤ 8 := by omega
  have rb := bas_red hc6
  have okb := bas_ok n6 hc
  have lb : ∀ x ∈ bas c, x < 2 ^ n := fun x hx => (okb.ok x hx).2
  have lnb := red_lenn rb lb
  have e1 := is_discreet_eq ht hc l8
  have e2 := is_discreet_eq ht okb (by omega)
  rw [dsB_bas hc6] at e2
  have eb : ∀ b : Bool, PyData.eqv (.bool b) (.bool b) = true := fun b => by cases b <;> rfl
  have hB := (mem_bests ht).mp (bst_mem ht)
  have okB := bests_cok ht (bst_mem ht)
  have lB := red_lenn hB.1 (bests_lt ht (bst_mem ht))
  have fo := dfst_ok ht
  have go4 : ∀ s6 s7 s9 s10 : S, (evS TA cp1_3 [s0, s1, s2, .d (tD n rs), .d (nI n), .d (.tuple (rs.map rD)), s6, s7, .d (cD c), s9, s10, s11, s12]).is fun env => ∃ t2 t3 t4 t5 t6 t7 t8 t9 t10 t11 t12, env = [s0, s1, t2, t3, t4, t5, t6, t7, t8, t9, t10, t11, t12] := fun s6 s7 s9 s10 => by
    have fr : fRng (.d (nI n)) = .ok (rngD 0 n) := by
      have h1 : ((n : Int) ≤ 1000000) := by omega
      have h2 : (-1000000 : Int) ≤ (n : Int) := by omega
      unfold nI
      simp [h1, h2]
    have tb : PyData.tuple [nI n, .tuple ((List.range n).map fun w => .tuple [nI w, .tuple []])] = tD n (bld n) := by
      have m0 : mD 0 = .tuple [] := by unfold mD; rw [show msgs 0 = [] from by decide]; rfl
      unfold tD bld
      rw [List.map_map]
      have : (rD ∘ fun w => ((w, 0) : Rn)) = fun w => .tuple [nI w, .tuple []] := by funext w; simp [rD, m0]
      rw [this]
    have ft : (List.range n).filter (fun _ => true) = List.range n := List.filter_eq_self.mpr fun _ _ => rfl
    have fb := fewest_discreet_eq (bld_ok n1 n6)
    have nb : isNo (optN (dfst n (bld n))) = decide (1 < n) := by
      rw [← bld_dfst n1 n6]
      cases dfst n (bld n) <;> rfl
    have gt : Q.f2 .gt (.d (nI n)) (.d (.int 1)) = .ok (.d (.bool (decide (1 < n)))) := by unfold nI; simp; omega
    have sB := is_safe_sf ht okB (by omega) (j := 1) (by omega)
    have okBB := okB.app okB
    have lBB : (bst rs ++ bst rs).length ≤ 8 := by simp; omega
    have sBB := is_safe_sf ht okBB lBB (j := 1) (by omega)
    rw [sfB_bst ht] at sB
    rw [sfB_twice hB.1.lt hB.2.1 (lm_pos ht)] at sBB
    obtain ⟨i, ei⟩ := wk_bst ht
    have wB := weakest_eq ht okB (by omega)
    rw [ei] at wB
    have lw : fBl .len [.d (optD (some [i]))] = .ok (.d (.int 1)) := rfl
    have ad := cD_add (a := bst rs) (b := bst rs) (by omega)
    replace sB : F_is_safe [.d (tD n rs), .d (cD (bst rs)), .d (.int 1)] = .ok (.d (.bool false)) := sB
    replace sBB : F_is_safe [.d (tD n rs), .d (cD (bst rs ++ bst rs)), .d (.int 1)] = .ok (.d (.bool true)) := sBB
    simp [cp1_3, fr, rng_nL]
    rw [cmpL_pure nI (fun v => true) (fun w => .tuple [nI w, .tuple []]) fun v hv => ⟨_, by simp; rfl, by simp, fun _ => by simp⟩]
    simp [-List.map_map, ft, tb, cp1_4, cp1_5, cp1_6, cp1_7, fb, nb, gt, eb, best_code_eq ht, sB, sBB, ad, wB, lw, law_lasting_eq ht hc l8, law_lasting_eq ht okBB lBB]
  cases e : dfst n rs with
  | none =>
    rw [e] at fo
    have nd : dsB n rs c = false := by
      cases q : dsB n rs c with
      | false => rfl
      | true => rw [← dsB_bas hc6, dsB_red rb lb] at q; exact absurd q (fo _)
    simp [cp1, cp1_1, cp1_2, e1, e2, reduced_eq n1 n6 hc l8, eb, nd, optC, optN, isNo]
    exact go4 _ _ _ _
  | some d =>
    rw [e] at fo
    have hd := fo.1
    have okd : COk n d := ⟨fun v hv => ⟨hd.red.nz v hv, hd.lt v hv⟩⟩
    have ld := red_lenn hd.red hd.lt
    have dd := is_discreet_eq ht okd (by omega)
    rw [(dsB_red hd.red hd.lt).mpr hd] at dd
    have rd := reduced_eq n1 n6 okd (by omega)
    rw [bas_self hd.red] at rd
    have no : isNo (cD d) = false := rfl
    have no' : isNo (nI d.length) = false := rfl
    have ln : fBl .len [.d (cD d)] = .ok (.d (nI d.length)) := by unfold cD; simp [nI]
    have en : PyData.eqv (nI d.length) (nI d.length) = true := by unfold nI; simp
    have rk : dsB n rs c = true → Q.f2 .lt (.d (nI (bas c).length)) (.d (nI d.length)) = .ok (.d (.bool false)) := fun q => by
      rw [← dsB_bas hc6, dsB_red rb lb] at q
      have := (fo.2 _ q).1
      unfold nI; simp; omega
    obtain ⟨t9, t10, el⟩ := loop ht hd s0 s1 s2 (.d (tD n rs)) (.d (.tuple (rs.map rD))) (.d (nI d.length)) (.d (cD c)) s11 s12 rs s9 s10 fun r hr => hr
    have g2 : (evS TA cp1_2 [s0, s1, s2, .d (tD n rs), .d (nI n), .d (.tuple (rs.map rD)), .d (nI d.length), .d (cD d), .d (cD c), s9, s10, s11, s12]).is fun env => ∃ t2 t3 t4 t5 t6 t7 t8 t9 t10 t11 t12, env = [s0, s1, t2, t3, t4, t5, t6, t7, t8, t9, t10, t11, t12] := by
      simp [-List.map_map, cp1_2, no, dd, ln, en, rd, eqv_cc]
      rw [el]
      have dB := is_discreet_eq ht okB (by omega)
      cases q : dsB n rs (bst rs) with
      | false =>
        rw [q] at dB
        simp [best_code_eq ht, dB]
        exact go4 _ _ _ _
      | true =>
        rw [q] at dB
        have hb := (dsB_red hB.1 (bests_lt ht (bst_mem ht))).mp q
        have l1 := (fo.2 _ hb).1
        have l2 := lm_le ht.n6 ht.ro (beg := []) ⟨by simp, by simp, .nil⟩ hd.red (fun v hv => by cases (show v = 0 from hv); exact Sp.zero _) hd.srv
        have l3 : lm rs [] = d.length := by have := hB.2.2; omega
        simp [best_code_eq ht, dB, fewest_eq ht, l3, en]
        exact go4 _ _ _ _
    cases q : dsB n rs c with
    | false =>
      rw [q] at e1 e2
      simp [cp1, cp1_1, e1, e2, reduced_eq n1 n6 hc l8, eb, optC, optN]
      exact g2
    | true =>
      rw [q] at e1 e2
      simp [cp1, cp1_1, e1, e2, reduced_eq n1 n6 hc l8, eb, optC, optN, no', rank_eq n1 n6 hc l8, rk q]
      exact g2
section
variable {sa : Addr}
theorem f0 : (δ sa).fns 0 = some (3, spDraw sa) := rfl
theorem f1 : (δ sa).fns 1 = some (0, spBegun) := rfl
theorem f2 : (δ sa).fns 2 = some (4, spTaskN sa) := rfl
theorem f3 : (δ sa).fns 3 = some (3, spSumN sa) := rfl
theorem f4 : (δ sa).fns 4 = some (4, spCodeN sa) := rfl
theorem rd_law {N : List Str} (hN : N.length = nLaw) : ∀ ds (ω : Option Addr) Qc Ec, ds.length = 1 → spLaw sa ds ω Qc Ec → denS (δ sa) c_law Ec ⟨fun _ ω' => Qc (.d .none) ω', Qc, fun _ _ => False, fun _ _ => False⟩ (startE N ds) ω := by
  rintro ds ω Qc Ec hl ⟨rfl, rfl, q⟩
  simp [c_law, denS, den, startE, hN, dFn_of f0, dFn_of f1, dFn_of f2]
  intro t
  refine forL_ind (I := fun xs env ω' => some t = ω' ∧ ∃ s2 s3 s4 s5 s6 s7 s8 s9 s10 s11 s12 : S, env = [.r (.ref sa), .r (.ref t), s2, s3, s4, s5, s6, s7, s8, s9, s10, s11, s12]) ?_ ?_ _ _ _ ⟨rfl, _, _, _, _, _, _, _, _, _, _, _, rfl⟩
  · rintro env ω ⟨rfl, s2, s3, s4, s5, s6, s7, s8, s9, s10, s11, s12, rfl⟩
    simp [cp3, denS, den]
    exact q _
  · rintro x xs env ω ih ⟨rfl, s2, s3, s4, s5, s6, s7, s8, s9, s10, s11, s12, rfl⟩
    rw [forL_cons]
    simp
    refine ⟨t, 4, 4, rfl, rfl, by decide, by decide, by decide, by decide, fun n rs ok h1 h2 => ?_⟩
    have n1 := ok.n1
    have n6 := ok.n6
    refine run_nx tabA (a := sg0) rfl (seg ok _ _ _ _ _ _ _ _ _ _ _ _) ?_
    simp [denS, den, dFn_of f4]
    refine ⟨t, n, 5, rfl, rfl, n1, n6, by decide, by decide, fun c hc hl => ?_⟩
    refine evS_ok tabA cp1 _ _ _ _ (Out.is_wp (tail ok (by omega) hc (by omega) _ _ _ _ _ _ _) fun env h => ?_)
    obtain ⟨t2, t3, t4, t5, t6, t7, t8, t9, t10, t11, t12, rfl⟩ := h
    exact ih _ _ ⟨rfl, _, _, _, _, _, _, _, _, _, _, _, rfl⟩
end
end L19
namespace L19
open PySem PySem.Spec PyProof.Rows L2 Q GF
def topS (i : Nat) : Stmt := PySem.Challenge.pw_codecast_k19_whole_secrecy.main.body.getD i (.Pass ⟨0, 0, 0, 0⟩)
def fnL : List (Nat × Str) := ([(0, "_law_draw"), (1, "_law_begun"), (2, "_law_task"), (3, "_law_sum"), (4, "_law_code"), (5, "bit"), (6, "number_of"), (7, "messages_of"), (8, "lowest"), (9, "cleared"), (10, "joined"), (11, "basis_of"), (12, "told"), (13, "is_between"), (14, "is_ascending"), (15, "are_messages"), (16, "is_receiver"), (17, "is_task"), (18, "check_task"), (19, "check_messages"), (20, "is_sum"), (21, "is_code_of"), (23, "check_code"), (24, "basis_for"), (25, "learned_from"), (26, "learned"), (27, "served_by"), (28, "check_both"), (30, "does_serve"), (31, "is_serving")] : List (Nat × Str)) ++ ([(34, "choices_of"), (37, "code_of"), (38, "reduced"), (40, "rank"), (41, "wishes"), (42, "extended"), (43, "least_many"), (44, "fewest"), (45, "all_found"), (46, "best_code"), (67, "tells_more"), (68, "discreet_bases"), (69, "fewest_discreet"), (70, "is_discreet"), (71, "discreet_code"), (72, "survives"), (73, "is_safe"), (74, "weakest"), (111, "_law_lasting")] : List (Nat × Str))
def cnL : List (Nat × Str) := [(0, "MOST"), (1, "SUMS")]
def exL : List (Nat × Str) := [(0, "CastError"), (1, "InvalidTask"), (2, "InvalidMessages"), (3, "InvalidCode"), (4, "InvalidKnown"), (7, "InvalidNumber")]
def G : Glob := { fns := fun k => fnL.lookup k, cns := fun k => cnL.lookup k, exs := fun k => exL.lookup k, nf := 0, kws := [] }
abbrev s__law_draw : Stmt := topS 58
abbrev s__law_begun : Stmt := topS 59
abbrev s__law_task : Stmt := topS 60
abbrev s__law_sum : Stmt := topS 61
abbrev s__law_code : Stmt := topS 62
abbrev s_bit : Stmt := topS 9
abbrev s_number_of : Stmt := topS 8
abbrev s_messages_of : Stmt := topS 10
abbrev s_lowest : Stmt := topS 11
abbrev s_cleared : Stmt := topS 12
abbrev s_joined : Stmt := topS 13
abbrev s_basis_of : Stmt := topS 14
abbrev s_told : Stmt := topS 15
abbrev s_is_between : Stmt := topS 19
abbrev s_is_ascending : Stmt := topS 20
abbrev s_are_messages : Stmt := topS 21
abbrev s_is_receiver : Stmt := topS 22
abbrev s_is_task : Stmt := topS 23
abbrev s_check_task : Stmt := topS 24
abbrev s_check_messages : Stmt := topS 25
abbrev s_is_sum : Stmt := topS 26
abbrev s_is_code_of : Stmt := topS 27
abbrev s_check_code : Stmt := topS 28
abbrev s_basis_for : Stmt := topS 29
abbrev s_learned_from : Stmt := topS 30
abbrev s_learned : Stmt := topS 31
abbrev s_served_by : Stmt := topS 32
abbrev s_check_both : Stmt := topS 33
abbrev s_does_serve : Stmt := topS 34
abbrev s_is_serving : Stmt := topS 35
abbrev s_choices_of : Stmt := topS 37
abbrev s_code_of : Stmt := topS 38
abbrev s_reduced : Stmt := topS 39
abbrev s_rank : Stmt := topS 40
abbrev s_wishes : Stmt := topS 42
abbrev s_extended : Stmt := topS 43
abbrev s_least_many : Stmt := topS 44
abbrev s_fewest : Stmt := topS 45
abbrev s_all_found : Stmt := topS 46
abbrev s_best_code : Stmt := topS 47
abbrev s_tells_more : Stmt := topS 49
abbrev s_discreet_bases : Stmt := topS 51
abbrev s_fewest_discreet : Stmt := topS 52
abbrev s_is_discreet : Stmt := topS 50
abbrev s_discreet_code : Stmt := topS 53
abbrev s_survives : Stmt := topS 54
abbrev s_is_safe : Stmt := topS 55
abbrev s_weakest : Stmt := topS 56
abbrev s__law_lasting : Stmt := topS 63
abbrev s_law : Stmt := topS 64
def n__law_task : List Str := ["script", "town", "most", "many", "total", "receivers", "k", "want", "some", "one"]
theorem sc__law_task : FnScope n__law_task ["script", "town", "most", "many"] (defScope s__law_task) := ⟨rfl, rfl, rfl, by decide +kernel, rfl, by decide +kernel, by decide +kernel⟩
theorem ck__law_task : (chkS (G.at 2) c__law_task).l ⟨n__law_task, defScope s__law_task, fun _ => true, false⟩ (defBody s__law_task) = true := by decide +kernel
def n__law_sum : List Str := ["script", "town", "messages", "found", "one"]
theorem sc__law_sum : FnScope n__law_sum ["script", "town", "messages"] (defScope s__law_sum) := ⟨rfl, rfl, rfl, by decide +kernel, rfl, by decide +kernel, by decide +kernel⟩
theorem ck__law_sum : (chkS (G.at 3) c__law_sum).l ⟨n__law_sum, defScope s__law_sum, fun _ => true, false⟩ (defBody s__law_sum) = true := by decide +kernel
def n__law_code : List Str := ["script", "town", "messages", "most", "k"]
theorem sc__law_code : FnScope n__law_code ["script", "town", "messages", "most"] (defScope s__law_code) := ⟨rfl, rfl, rfl, by decide +kernel, rfl, by decide +kernel, by decide +kernel⟩
theorem ck__law_code : (chkS (G.at 4) c__law_code).l ⟨n__law_code, defScope s__law_code, fun _ => true, false⟩ (defBody s__law_code) = true := by decide +kernel
def n_bit : List Str := ["message", "found", "turn"]
theorem sc_bit : FnScope n_bit ["message"] (defScope s_bit) := ⟨rfl, rfl, rfl, by decide +kernel, rfl, by decide +kernel, by decide +kernel⟩
theorem ck_bit : (chkS (G.at 5) c_bit).l ⟨n_bit, defScope s_bit, fun _ => true, false⟩ (defBody s_bit) = true := by decide +kernel
def n_number_of : List Str := ["some", "found", "message"]
theorem sc_number_of : FnScope n_number_of ["some"] (defScope s_number_of) := ⟨rfl, rfl, rfl, by decide +kernel, rfl, by decide +kernel, by decide +kernel⟩
theorem ck_number_of : (chkS (G.at 6) c_number_of).l ⟨n_number_of, defScope s_number_of, fun _ => true, false⟩ (defBody s_number_of) = true := by decide +kernel
def n_messages_of : List Str := ["number", "found", "message"]
theorem sc_messages_of : FnScope n_messages_of ["number"] (defScope s_messages_of) := ⟨rfl, rfl, rfl, by decide +kernel, rfl, by decide +kernel, by decide +kernel⟩
theorem ck_messages_of : (chkS (G.at 7) c_messages_of).l ⟨n_messages_of, defScope s_messages_of, fun _ => true, false⟩ (defBody s_messages_of) = true := by decide +kernel
def n_lowest : List Str := ["number"]
theorem sc_lowest : FnScope n_lowest ["number"] (defScope s_lowest) := ⟨rfl, rfl, rfl, by decide +kernel, rfl, by decide +kernel, by decide +kernel⟩
theorem ck_lowest : (chkS (G.at 8) c_lowest).l ⟨n_lowest, defScope s_lowest, fun _ => true, false⟩ (defBody s_lowest) = true := by decide +kernel
def n_cleared : List Str := ["basis", "number", "one"]
theorem sc_cleared : FnScope n_cleared ["basis", "number"] (defScope s_cleared) := ⟨rfl, rfl, rfl, by decide +kernel, rfl, by decide +kernel, by decide +kernel⟩
theorem ck_cleared : (chkS (G.at 9) c_cleared).l ⟨n_cleared, defScope s_cleared, fun _ => true, false⟩ (defBody s_cleared) = true := by decide +kernel
def n_joined : List Str := ["basis", "number", "rest", "mark", "found", "one", "least"]
theorem sc_joined : FnScope n_joined ["basis", "number"] (defScope s_joined) := ⟨rfl, rfl, rfl, by decide +kernel, rfl, by decide +kernel, by decide +kernel⟩
theorem ck_joined : (chkS (G.at 10) c_joined).l ⟨n_joined, defScope s_joined, fun _ => true, false⟩ (defBody s_joined) = true := by decide +kernel
def n_basis_of : List Str := ["numbers", "found", "number"]
theorem sc_basis_of : FnScope n_basis_of ["numbers"] (defScope s_basis_of) := ⟨rfl, rfl, rfl, by decide +kernel, rfl, by decide +kernel, by decide +kernel⟩
theorem ck_basis_of : (chkS (G.at 11) c_basis_of).l ⟨n_basis_of, defScope s_basis_of, fun _ => true, false⟩ (defBody s_basis_of) = true := by decide +kernel
def n_told : List Str := ["basis", "known", "message", "mark", "rows", "one"]
theorem sc_told : FnScope n_told ["basis", "known", "message"] (defScope s_told) := ⟨rfl, rfl, rfl, by decide +kernel, rfl, by decide +kernel, by decide +kernel⟩
theorem ck_told : (chkS (G.at 12) c_told).l ⟨n_told, defScope s_told, fun _ => true, false⟩ (defBody s_told) = true := by decide +kernel
def n_is_between : List Str := ["value", "low", "high"]
theorem sc_is_between : FnScope n_is_between ["value", "low", "high"] (defScope s_is_between) := ⟨rfl, rfl, rfl, by decide +kernel, rfl, by decide +kernel, by decide +kernel⟩
theorem ck_is_between : (chkS (G.at 13) c_is_between).l ⟨n_is_between, defScope s_is_between, fun _ => true, false⟩ (defBody s_is_between) = true := by decide +kernel
def n_is_ascending : List Str := ["values", "one", "other"]
theorem sc_is_ascending : FnScope n_is_ascending ["values"] (defScope s_is_ascending) := ⟨rfl, rfl, rfl, by decide +kernel, rfl, by decide +kernel, by decide +kernel⟩
theorem ck_is_ascending : (chkS (G.at 14) c_is_ascending).l ⟨n_is_ascending, defScope s_is_ascending, fun _ => true, false⟩ (defBody s_is_ascending) = true := by decide +kernel
def n_are_messages : List Str := ["messages", "value", "one"]
theorem sc_are_messages : FnScope n_are_messages ["messages", "value"] (defScope s_are_messages) := ⟨rfl, rfl, rfl, by decide +kernel, rfl, by decide +kernel, by decide +kernel⟩
theorem ck_are_messages : (chkS (G.at 15) c_are_messages).l ⟨n_are_messages, defScope s_are_messages, fun _ => true, false⟩ (defBody s_are_messages) = true := by decide +kernel
def n_is_receiver : List Str := ["messages", "value"]
theorem sc_is_receiver : FnScope n_is_receiver ["messages", "value"] (defScope s_is_receiver) := ⟨rfl, rfl, rfl, by decide +kernel, rfl, by decide +kernel, by decide +kernel⟩
theorem ck_is_receiver : (chkS (G.at 16) c_is_receiver).l ⟨n_is_receiver, defScope s_is_receiver, fun _ => true, false⟩ (defBody s_is_receiver) = true := by decide +kernel
def n_is_task : List Str := ["value", "messages", "receivers", "one"]
theorem sc_is_task : FnScope n_is_task ["value"] (defScope s_is_task) := ⟨rfl, rfl, rfl, by decide +kernel, rfl, by decide +kernel, by decide +kernel⟩
theorem ck_is_task : (chkS (G.at 17) c_is_task).l ⟨n_is_task, defScope s_is_task, fun _ => true, false⟩ (defBody s_is_task) = true := by decide +kernel
def n_check_task : List Str := ["task"]
theorem sc_check_task : FnScope n_check_task ["task"] (defScope s_check_task) := ⟨rfl, rfl, rfl, by decide +kernel, rfl, by decide +kernel, by decide +kernel⟩
theorem ck_check_task : (chkS (G.at 18) c_check_task).l ⟨n_check_task, defScope s_check_task, fun _ => true, false⟩ (defBody s_check_task) = true := by decide +kernel
def n_check_messages : List Str := ["messages"]
theorem sc_check_messages : FnScope n_check_messages ["messages"] (defScope s_check_messages) := ⟨rfl, rfl, rfl, by decide +kernel, rfl, by decide +kernel, by decide +kernel⟩
theorem ck_check_messages : (chkS (G.at 19) c_check_messages).l ⟨n_check_messages, defScope s_check_messages, fun _ => true, false⟩ (defBody s_check_messages) = true := by decide +kernel
def n_is_sum : List Str := ["messages", "value"]
theorem sc_is_sum : FnScope n_is_sum ["messages", "value"] (defScope s_is_sum) := ⟨rfl, rfl, rfl, by decide +kernel, rfl, by decide +kernel, by decide +kernel⟩
theorem ck_is_sum : (chkS (G.at 20) c_is_sum).l ⟨n_is_sum, defScope s_is_sum, fun _ => true, false⟩ (defBody s_is_sum) = true := by decide +kernel
def n_is_code_of : List Str := ["messages", "value", "one"]
theorem sc_is_code_of : FnScope n_is_code_of ["messages", "value"] (defScope s_is_code_of) := ⟨rfl, rfl, rfl, by decide +kernel, rfl, by decide +kernel, by decide +kernel⟩
theorem ck_is_code_of : (chkS (G.at 21) c_is_code_of).l ⟨n_is_code_of, defScope s_is_code_of, fun _ => true, false⟩ (defBody s_is_code_of) = true := by decide +kernel
def n_check_code : List Str := ["messages", "code"]
theorem sc_check_code : FnScope n_check_code ["messages", "code"] (defScope s_check_code) := ⟨rfl, rfl, rfl, by decide +kernel, rfl, by decide +kernel, by decide +kernel⟩
theorem ck_check_code : (chkS (G.at 23) c_check_code).l ⟨n_check_code, defScope s_check_code, fun _ => true, false⟩ (defBody s_check_code) = true := by decide +kernel
def n_basis_for : List Str := ["code", "one"]
theorem sc_basis_for : FnScope n_basis_for ["code"] (defScope s_basis_for) := ⟨rfl, rfl, rfl, by decide +kernel, rfl, by decide +kernel, by decide +kernel⟩
theorem ck_basis_for : (chkS (G.at 24) c_basis_for).l ⟨n_basis_for, defScope s_basis_for, fun _ => true, false⟩ (defBody s_basis_for) = true := by decide +kernel
def n_learned_from : List Str := ["messages", "basis", "known", "number", "message"]
theorem sc_learned_from : FnScope n_learned_from ["messages", "basis", "known"] (defScope s_learned_from) := ⟨rfl, rfl, rfl, by decide +kernel, rfl, by decide +kernel, by decide +kernel⟩
theorem ck_learned_from : (chkS (G.at 25) c_learned_from).l ⟨n_learned_from, defScope s_learned_from, fun _ => true, false⟩ (defBody s_learned_from) = true := by decide +kernel
def n_learned : List Str := ["messages", "code", "known"]
theorem sc_learned : FnScope n_learned ["messages", "code", "known"] (defScope s_learned) := ⟨rfl, rfl, rfl, by decide +kernel, rfl, by decide +kernel, by decide +kernel⟩
theorem ck_learned : (chkS (G.at 26) c_learned).l ⟨n_learned, defScope s_learned, fun _ => true, false⟩ (defBody s_learned) = true := by decide +kernel
def n_served_by : List Str := ["task", "basis", "rows", "at", "want", "known"]
theorem sc_served_by : FnScope n_served_by ["task", "basis"] (defScope s_served_by) := ⟨rfl, rfl, rfl, by decide +kernel, rfl, by decide +kernel, by decide +kernel⟩
theorem ck_served_by : (chkS (G.at 27) c_served_by).l ⟨n_served_by, defScope s_served_by, fun _ => true, false⟩ (defBody s_served_by) = true := by decide +kernel
def n_check_both : List Str := ["task", "code"]
theorem sc_check_both : FnScope n_check_both ["task", "code"] (defScope s_check_both) := ⟨rfl, rfl, rfl, by decide +kernel, rfl, by decide +kernel, by decide +kernel⟩
theorem ck_check_both : (chkS (G.at 28) c_check_both).l ⟨n_check_both, defScope s_check_both, fun _ => true, false⟩ (defBody s_check_both) = true := by decide +kernel
def n_does_serve : List Str := ["task", "basis"]
theorem sc_does_serve : FnScope n_does_serve ["task", "basis"] (defScope s_does_serve) := ⟨rfl, rfl, rfl, by decide +kernel, rfl, by decide +kernel, by decide +kernel⟩
theorem ck_does_serve : (chkS (G.at 30) c_does_serve).l ⟨n_does_serve, defScope s_does_serve, fun _ => true, false⟩ (defBody s_does_serve) = true := by decide +kernel
def n_is_serving : List Str := ["task", "code"]
theorem sc_is_serving : FnScope n_is_serving ["task", "code"] (defScope s_is_serving) := ⟨rfl, rfl, rfl, by decide +kernel, rfl, by decide +kernel, by decide +kernel⟩
theorem ck_is_serving : (chkS (G.at 31) c_is_serving).l ⟨n_is_serving, defScope s_is_serving, fun _ => true, false⟩ (defBody s_is_serving) = true := by decide +kernel
def n_choices_of : List Str := ["many", "rows", "one", "size", "row"]
theorem sc_choices_of : FnScope n_choices_of ["many"] (defScope s_choices_of) := ⟨rfl, rfl, rfl, by decide +kernel, rfl, by decide +kernel, by decide +kernel⟩
theorem ck_choices_of : (chkS (G.at 34) c_choices_of).l ⟨n_choices_of, defScope s_choices_of, fun _ => true, false⟩ (defBody s_choices_of) = true := by decide +kernel
def n_code_of : List Str := ["basis", "one"]
theorem sc_code_of : FnScope n_code_of ["basis"] (defScope s_code_of) := ⟨rfl, rfl, rfl, by decide +kernel, rfl, by decide +kernel, by decide +kernel⟩
theorem ck_code_of : (chkS (G.at 37) c_code_of).l ⟨n_code_of, defScope s_code_of, fun _ => true, false⟩ (defBody s_code_of) = true := by decide +kernel
def n_reduced : List Str := ["messages", "code"]
theorem sc_reduced : FnScope n_reduced ["messages", "code"] (defScope s_reduced) := ⟨rfl, rfl, rfl, by decide +kernel, rfl, by decide +kernel, by decide +kernel⟩
theorem ck_reduced : (chkS (G.at 38) c_reduced).l ⟨n_reduced, defScope s_reduced, fun _ => true, false⟩ (defBody s_reduced) = true := by decide +kernel
def n_rank : List Str := ["messages", "code"]
theorem sc_rank : FnScope n_rank ["messages", "code"] (defScope s_rank) := ⟨rfl, rfl, rfl, by decide +kernel, rfl, by decide +kernel, by decide +kernel⟩
theorem ck_rank : (chkS (G.at 40) c_rank).l ⟨n_rank, defScope s_rank, fun _ => true, false⟩ (defBody s_rank) = true := by decide +kernel
def n_wishes : List Str := ["want", "known", "rows", "message", "one"]
theorem sc_wishes : FnScope n_wishes ["want", "known"] (defScope s_wishes) := ⟨rfl, rfl, rfl, by decide +kernel, rfl, by decide +kernel, by decide +kernel⟩
theorem ck_wishes : (chkS (G.at 41) c_wishes).l ⟨n_wishes, defScope s_wishes, fun _ => true, false⟩ (defBody s_wishes) = true := by decide +kernel
def n_extended : List Str := ["task", "begin", "most", "rows", "want", "known", "some", "further", "basis", "one"]
theorem sc_extended : FnScope n_extended ["task", "begin", "most"] (defScope s_extended) := ⟨rfl, rfl, rfl, by decide +kernel, rfl, by decide +kernel, by decide +kernel⟩
theorem ck_extended : (chkS (G.at 42) c_extended).l ⟨n_extended, defScope s_extended, fun _ => true, false⟩ (defBody s_extended) = true := by decide +kernel
def n_least_many : List Str := ["task", "begin", "most"]
theorem sc_least_many : FnScope n_least_many ["task", "begin"] (defScope s_least_many) := ⟨rfl, rfl, rfl, by decide +kernel, rfl, by decide +kernel, by decide +kernel⟩
theorem ck_least_many : (chkS (G.at 43) c_least_many).l ⟨n_least_many, defScope s_least_many, fun _ => true, false⟩ (defBody s_least_many) = true := by decide +kernel
def n_fewest : List Str := ["task"]
theorem sc_fewest : FnScope n_fewest ["task"] (defScope s_fewest) := ⟨rfl, rfl, rfl, by decide +kernel, rfl, by decide +kernel, by decide +kernel⟩
theorem ck_fewest : (chkS (G.at 44) c_fewest).l ⟨n_fewest, defScope s_fewest, fun _ => true, false⟩ (defBody s_fewest) = true := by decide +kernel
def n_all_found : List Str := ["task", "basis"]
theorem sc_all_found : FnScope n_all_found ["task"] (defScope s_all_found) := ⟨rfl, rfl, rfl, by decide +kernel, rfl, by decide +kernel, by decide +kernel⟩
theorem ck_all_found : (chkS (G.at 45) c_all_found).l ⟨n_all_found, defScope s_all_found, fun _ => true, false⟩ (defBody s_all_found) = true := by decide +kernel
def n_best_code : List Str := ["task"]
theorem sc_best_code : FnScope n_best_code ["task"] (defScope s_best_code) := ⟨rfl, rfl, rfl, by decide +kernel, rfl, by decide +kernel, by decide +kernel⟩
theorem ck_best_code : (chkS (G.at 46) c_best_code).l ⟨n_best_code, defScope s_best_code, fun _ => true, false⟩ (defBody s_best_code) = true := by decide +kernel
def n_tells_more : List Str := ["task", "basis", "want", "known", "one"]
theorem sc_tells_more : FnScope n_tells_more ["task", "basis"] (defScope s_tells_more) := ⟨rfl, rfl, rfl, by decide +kernel, rfl, by decide +kernel, by decide +kernel⟩
theorem ck_tells_more : (chkS (G.at 67) c_tells_more).l ⟨n_tells_more, defScope s_tells_more, fun _ => true, false⟩ (defBody s_tells_more) = true := by decide +kernel
def n_discreet_bases : List Str := ["task", "rows", "want", "known", "some", "further", "basis", "good", "one"]
theorem sc_discreet_bases : FnScope n_discreet_bases ["task"] (defScope s_discreet_bases) := ⟨rfl, rfl, rfl, by decide +kernel, rfl, by decide +kernel, by decide +kernel⟩
theorem ck_discreet_bases : (chkS (G.at 68) c_discreet_bases).l ⟨n_discreet_bases, defScope s_discreet_bases, fun _ => true, false⟩ (defBody s_discreet_bases) = true := by decide +kernel
def n_fewest_discreet : List Str := ["task", "some", "basis"]
theorem sc_fewest_discreet : FnScope n_fewest_discreet ["task"] (defScope s_fewest_discreet) := ⟨rfl, rfl, rfl, by decide +kernel, rfl, by decide +kernel, by decide +kernel⟩
theorem ck_fewest_discreet : (chkS (G.at 69) c_fewest_discreet).l ⟨n_fewest_discreet, defScope s_fewest_discreet, fun _ => true, false⟩ (defBody s_fewest_discreet) = true := by decide +kernel
def n_is_discreet : List Str := ["task", "code", "basis"]
theorem sc_is_discreet : FnScope n_is_discreet ["task", "code"] (defScope s_is_discreet) := ⟨rfl, rfl, rfl, by decide +kernel, rfl, by decide +kernel, by decide +kernel⟩
theorem ck_is_discreet : (chkS (G.at 70) c_is_discreet).l ⟨n_is_discreet, defScope s_is_discreet, fun _ => true, false⟩ (defBody s_is_discreet) = true := by decide +kernel
def n_discreet_code : List Str := ["task", "some", "basis"]
theorem sc_discreet_code : FnScope n_discreet_code ["task"] (defScope s_discreet_code) := ⟨rfl, rfl, rfl, by decide +kernel, rfl, by decide +kernel, by decide +kernel⟩
theorem ck_discreet_code : (chkS (G.at 71) c_discreet_code).l ⟨n_discreet_code, defScope s_discreet_code, fun _ => true, false⟩ (defBody s_discreet_code) = true := by decide +kernel
def n_survives : List Str := ["task", "code", "lost", "at", "one"]
theorem sc_survives : FnScope n_survives ["task", "code", "lost"] (defScope s_survives) := ⟨rfl, rfl, rfl, by decide +kernel, rfl, by decide +kernel, by decide +kernel⟩
theorem ck_survives : (chkS (G.at 72) c_survives).l ⟨n_survives, defScope s_survives, fun _ => true, false⟩ (defBody s_survives) = true := by decide +kernel
def n_is_safe : List Str := ["task", "code", "losses", "size", "lost"]
theorem sc_is_safe : FnScope n_is_safe ["task", "code", "losses"] (defScope s_is_safe) := ⟨rfl, rfl, rfl, by decide +kernel, rfl, by decide +kernel, by decide +kernel⟩
theorem ck_is_safe : (chkS (G.at 73) c_is_safe).l ⟨n_is_safe, defScope s_is_safe, fun _ => true, false⟩ (defBody s_is_safe) = true := by decide +kernel
def n_weakest : List Str := ["task", "code", "lost"]
theorem sc_weakest : FnScope n_weakest ["task", "code"] (defScope s_weakest) := ⟨rfl, rfl, rfl, by decide +kernel, rfl, by decide +kernel, by decide +kernel⟩
theorem ck_weakest : (chkS (G.at 74) c_weakest).l ⟨n_weakest, defScope s_weakest, fun _ => true, false⟩ (defBody s_weakest) = true := by decide +kernel
def n__law_lasting : List Str := ["task", "code", "found", "losses", "good"]
theorem sc__law_lasting : FnScope n__law_lasting ["task", "code"] (defScope s__law_lasting) := ⟨rfl, rfl, rfl, by decide +kernel, rfl, by decide +kernel, by decide +kernel⟩
theorem ck__law_lasting : (chkS (G.at 111) c__law_lasting).l ⟨n__law_lasting, defScope s__law_lasting, fun _ => true, false⟩ (defBody s__law_lasting) = true := by decide +kernel
def n_law : List Str := ["script", "town", "k", "task", "messages", "receivers", "many", "found", "code", "want", "known", "blind", "best"]
theorem sc_law : FnScope n_law ["script"] (defScope s_law) := ⟨rfl, rfl, rfl, by decide +kernel, rfl, by decide +kernel, by decide +kernel⟩
theorem ck_law : (chkS (G.at 150) c_law).l ⟨n_law, defScope s_law, fun _ => true, false⟩ (defBody s_law) = true := by decide +kernel
section
variable {P : Program} {w : World} {K : PySem.W.Frag} {mg : Str → Option Value} {base : Heap}
def n__law_draw : List Str := ["script", "town", "many", "at", "rest", "number"]
theorem sc__law_draw : FnScope n__law_draw ["script", "town", "many"] (defScope s__law_draw) := ⟨rfl, rfl, rfl, by decide +kernel, rfl, by decide +kernel, by decide +kernel⟩
theorem ok__law_draw {cx : Nat → Value} {sa : Addr} {ns : List Int} {T : Option Addr} (hns : ns.length ≤ 63) {f : Addr} {fd : FuncData} (Fn : FunD K "_law_draw" "_law_draw" (defArgs s__law_draw) (defBody s__law_draw) (defScope s__law_draw) [] [] f fd) (ml : mg "len" = none) : FnOk P w K mg base (L2.CX P w) 1 f fd ["script", "town", "many"] (spOf (Wd K sa ns T) cx 3 (spDraw sa)) := by
  refine Fn.ok sc__law_draw (fun vs H Q E h => ?_) fun cdv A outer s H vs Q E hr h => ?_
  · obtain ⟨F, M, ω, ds, Qc, Ec, hw, r, hl, _⟩ := h
    have := Paired.length r
    rw [hl] at this
    exact this
  · obtain ⟨F, M, ω, ds, Qc, Ec, hw, r, hl, ⟨t, many, rfl, rfl, hm0, hm1, kd⟩, kq, _⟩ := h
    have hu := hu_of hr
    obtain ⟨v1, v2, v3, rfl, r1, r2, r3⟩ : ∃ v1 v2 v3, vs = [v1, v2, v3] ∧ v1 = .ref sa ∧ v2 = .ref t ∧ v3 = .int many := by
      cases r with
      | cons a b =>
        cases b with
        | cons b c =>
          cases c with
          | cons c d => cases d; exact ⟨_, _, _, rfl, a, b, rp_int c⟩
    subst r1 r2 r3
    obtain ⟨hS, r, c, kvs, ht, hrr, hrt, hk⟩ := hw.w
    have nd := sc__law_draw.nd
    refine ⟨_, pss_cons (ps_dput hu (pv 1) pe_str (pe_op op_add (pe_dget hu (pv 1) pe_str (fun _ _ => rfl)) pe_int) rfl)
      (pss_cons (ps_set (i := 3) nd rfl (.inl rfl) (pe_ifExp (pt_truth (pv 0) (by intro _; rfl)) (pe_op op_mod (pe_dget hu (pv 1) pe_str (fun _ _ => rfl)) (pe_callB call_len_seq (by rfl) ml PySem.boot_len (pa_cons (pv 0) pa_nil))) pe_int))
      (pss_cons (ps_set (i := 4) nd rfl (.inl rfl) (pe_dget2 hu (pe_dget hu (pv 1) pe_str (fun _ _ => rfl)) (pv 3) (pe_ifExp (pt_truth (pv 0) (by intro _; rfl)) (pe_ix ix_list (pv 0) (pv 3) (fun _ _ => rfl)) pe_int) ⟨rfl, rfl, rfl, rfl⟩))
      (pss_cons (ps_if (pt_cmpR op_ge (pv 4) (pe_op op_pow pe_int pe_int) (nomark _)) (pss_cons (ps_dput hu (pe_dget hu (pv 1) pe_str (fun _ _ => rfl)) (pv 3) (pe_op op_fdiv (pv 4) (pv 2)) rfl) (pss_one (ps_ret (pe_op op_mod (pv 4) (pv 2))))) pss_nil)
      (pss_cons (ps_set (i := 5) nd rfl (.inl rfl) (pe_op op_mod (pe_op op_add (pv 4) (pe_op op_mul pe_int (pe_dget hu (pv 1) pe_str (fun _ _ => rfl)))) pe_int))
      (pss_cons (ps_set (i := 5) nd rfl (.inl rfl) (pe_op op_mod (pe_op op_pow (pv 5) pe_int) pe_int))
      (pss_one (ps_ret (pe_op op_mod (pe_op op_fdiv (pe_op op_mod (pe_op op_add (pe_op op_mul (pe_op op_fdiv (pv 5) pe_int) pe_int) (pv 5)) pe_int) pe_int) (pv 2))))))))), ?_⟩
    -- town['count'] = town['count'] + 1
    have Ht : H t = some (townD c r) := hw.mh _ _ ht
    obtain ⟨g1, g2, g3, gx⟩ := world_upd (o := townD (c + 1) r) hw.fh hw.mh hw.fm ht plain_dK
    have M1r : upd M t (townD (c + 1) r) r = some (.dK kvs) := by rw [upd_ne hrt]; exact hrr
    have H1r : upd H t (townD (c + 1) r) r = some (.dK kvs) := g2 _ _ M1r
    have H1t : upd H t (townD (c + 1) r) t = some (townD (c + 1) r) := upd_same
    have H1S : SqL K (upd H t (townD (c + 1) r)) sa (ns.map V.int) := sqL_mono g2 (base_upd hS ht).1
    refine ⟨_, rfl, t, _, rfl, DGet.k (k := Sum.inr ("count" : Str)) Ht, _, _, rfl, rfl, _, rfl, t, _, rfl, DPut.k (k := Sum.inr ("count" : Str)) Ht (by show 2 < sizeLine; rw [sizeLine_eq]; decide), ?_⟩
    rw [town_put]
    rw [show HO.dK [((Sum.inr ("count" : Str) : Key), V.int (c + 1)), (Sum.inr ("rests" : Str), V.ref r)] = townD (c + 1) r from rfl]
    by_cases h0 : ns = []
    · -- an empty script
      refine ⟨_, rfl, false, .inl ⟨_, H1S, by rw [h0]; rfl⟩, iteF ?_⟩
      refine ⟨_, rfl, t, _, rfl, DGet.k (k := Sum.inr ("rests" : Str)) H1t, r, rfl, .inl ⟨kvs, .inl H1r⟩, _, rfl, _, rfl, false, .inl ⟨_, H1S, by rw [h0]; rfl⟩, iteF ⟨_, DGet.k (k := Sum.inl 0) H1r, ?_⟩⟩
      obtain ⟨rest, hrest⟩ : ∃ i, (valV kvs (Sum.inl 0 : Key)).getD (V.int 0) = V.int i := by
        cases e : valV kvs (Sum.inl 0 : Key) with
        | none => exact ⟨0, rfl⟩
        | some v => obtain ⟨i, rfl⟩ := hk.val e; exact ⟨i, rfl⟩
      rw [hrest]
      refine ⟨_, rfl, _, _, rfl, rfl, ⟨by decide, by decide, by decide⟩, rest, _, rfl, rfl, _, rfl, ?_⟩
      refine ite2 (fun _ => ?_) (fun _ => ?_)
      · -- a great cell: its digits
        obtain ⟨k1, k2, k3, kx⟩ := world_upd (o := .dK (putK kvs (Sum.inl 0) (.int (rest / many)))) g1 g2 g3 M1r plain_dK
        refine ⟨_, rfl, _, rfl, _, _, rfl, rfl, ⟨hm0, by omega⟩, _, rfl, t, _, rfl, DGet.k (k := Sum.inr ("rests" : Str)) H1t, _, rfl, r, _, rfl, DPut.k (k := Sum.inl 0) H1r (by have := hk.len; rw [sizeLine_eq]; omega), ?_⟩
        refine ⟨_, rfl, _, rfl, _, _, rfl, rfl, hm0, ?_⟩
        refine kq _ _ _ _ F (upd (upd M t (townD (c + 1) r)) r (.dK (putK kvs (Sum.inl 0) (.int (rest / many))))) (kd (rest % many) (Int.emod_nonneg _ (by omega)) (Int.emod_lt_of_pos _ hm0)) ⟨k1, k2, k3, hw.fp, base_upd (base_upd hS ht) M1r, r, c + 1, _, by rw [upd_ne (Ne.symm hrt), upd_same], upd_same, hrt, hk.put (by decide) (by decide)⟩ (gx.trans kx) (.int _)
      · -- mixed of a cell
        refine ⟨_, rfl, _, rfl, t, _, rfl, DGet.k (k := Sum.inr ("count" : Str)) H1t, _, _, rfl, rfl, .inl ⟨by decide, by decide⟩, _, _, rfl, rfl, _, _, rfl, rfl, (by show (0 : Int) < _; decide), ?_⟩
        have b1 : 0 ≤ (rest + 104729 * (c + 1)) % 4294967291 := Int.emod_nonneg _ (by decide)
        have b2 : (rest + 104729 * (c + 1)) % 4294967291 < 4294967291 := Int.emod_lt_of_pos _ (by decide)
        refine ⟨_, rfl, _, _, rfl, rfl, ⟨by decide, by decide, by omega⟩, _, _, rfl, rfl, (by show (0 : Int) < _; decide), ?_⟩
        have b3 : 0 ≤ ((rest + 104729 * (c + 1)) % 4294967291) ^ (5 : Int).toNat % 4294967279 := Int.emod_nonneg _ (by decide)
        have b4 : ((rest + 104729 * (c + 1)) % 4294967291) ^ (5 : Int).toNat % 4294967279 < 4294967279 := Int.emod_lt_of_pos _ (by decide)
        refine ⟨_, rfl, _, _, rfl, rfl, ⟨by decide, by decide⟩, _, _, rfl, rfl, .inr ⟨by decide, by decide⟩, _, rfl, _, _, rfl, rfl, _, _, rfl, rfl, (by show (0 : Int) < _; decide), _, _, rfl, rfl, ⟨by decide, by decide⟩, _, rfl, _, _, rfl, rfl, hm0, ?_⟩
        exact kq _ _ _ _ F (upd M t (townD (c + 1) r)) (kd _ (Int.emod_nonneg _ (by omega)) (Int.emod_lt_of_pos _ hm0)) ⟨g1, g2, g3, hw.fp, base_upd hS ht, r, c + 1, kvs, upd_same, M1r, hrt, hk⟩ gx (.int _)
    · have hl0 : 0 < ns.length := List.length_pos_iff.mpr h0
      have ht0 : (!(ns.map V.int).isEmpty) = true := by cases ns with | nil => exact absurd rfl h0 | cons _ _ => rfl
      refine ⟨_, rfl, true, .inl ⟨_, H1S, ht0.symm⟩, iteT ?_⟩
      refine ⟨_, rfl, t, _, rfl, DGet.k (k := Sum.inr ("count" : Str)) H1t, _, rfl, sa, _, rfl, .inl H1S, _, _, rfl, rfl, by simp; omega, ?_⟩
      have c0 : 0 ≤ (c + 1) % ((ns.map V.int).length : Int) := Int.emod_nonneg _ (by simp; omega)
      have c1 : (c + 1) % ((ns.map V.int).length : Int) < ns.length := by
        have := Int.emod_lt_of_pos (c + 1) (b := ((ns.map V.int).length : Int)) (by simp; omega)
        simpa using this
      have ha0 : 0 ≤ ((c + 1) % ((ns.map V.int).length : Int)) := c0
      have ha1 : ((c + 1) % ((ns.map V.int).length : Int)) < 63 := by omega
      have hlt : ((c + 1) % ((ns.map V.int).length : Int)).toNat < ns.length := by omega
      have hat : atI (ns.map V.int) ((c + 1) % ((ns.map V.int).length : Int)) = some (V.int ns[((c + 1) % ((ns.map V.int).length : Int)).toNat]) := by
        have := atI_nat (xs := ns.map V.int) (j := ((c + 1) % ((ns.map V.int).length : Int)).toNat) (v := V.int ns[((c + 1) % ((ns.map V.int).length : Int)).toNat]) (by rw [List.getElem?_map, List.getElem?_eq_getElem hlt]; rfl)
        rwa [Int.toNat_of_nonneg ha0] at this
      refine ⟨_, rfl, t, _, rfl, DGet.k (k := Sum.inr ("rests" : Str)) H1t, r, rfl, .inl ⟨kvs, .inl H1r⟩, _, rfl, _, rfl, true, .inl ⟨_, H1S, ht0.symm⟩, iteT ⟨_, rfl, _, rfl, sa, _, _, _, rfl, rfl, H1S, hat, _, DGet.k (k := Sum.inl ((c + 1) % ((ns.map V.int).length : Int))) H1r, ?_⟩⟩
      generalize ns[((c + 1) % ((ns.map V.int).length : Int)).toNat] = z
      obtain ⟨rest, hrest⟩ : ∃ i, (valV kvs (Sum.inl ((c + 1) % ((ns.map V.int).length : Int)) : Key)).getD (V.int z) = V.int i := by
        cases e : valV kvs (Sum.inl ((c + 1) % ((ns.map V.int).length : Int)) : Key) with
        | none => exact ⟨z, rfl⟩
        | some v => obtain ⟨i, rfl⟩ := hk.val e; exact ⟨i, rfl⟩
      rw [hrest]
      refine ⟨_, rfl, _, _, rfl, rfl, ⟨by decide, by decide, by decide⟩, rest, _, rfl, rfl, _, rfl, ?_⟩
      refine ite2 (fun _ => ?_) (fun _ => ?_)
      · -- a great cell: its digits
        obtain ⟨k1, k2, k3, kx⟩ := world_upd (o := .dK (putK kvs (Sum.inl ((c + 1) % ((ns.map V.int).length : Int))) (.int (rest / many)))) g1 g2 g3 M1r plain_dK
        refine ⟨_, rfl, _, rfl, _, _, rfl, rfl, ⟨hm0, by omega⟩, _, rfl, t, _, rfl, DGet.k (k := Sum.inr ("rests" : Str)) H1t, _, rfl, r, _, rfl, DPut.k (k := Sum.inl ((c + 1) % ((ns.map V.int).length : Int))) H1r (by have := hk.len; rw [sizeLine_eq]; omega), ?_⟩
        refine ⟨_, rfl, _, rfl, _, _, rfl, rfl, hm0, ?_⟩
        refine kq _ _ _ _ F (upd (upd M t (townD (c + 1) r)) r (.dK (putK kvs (Sum.inl ((c + 1) % ((ns.map V.int).length : Int))) (.int (rest / many))))) (kd (rest % many) (Int.emod_nonneg _ (by omega)) (Int.emod_lt_of_pos _ hm0)) ⟨k1, k2, k3, hw.fp, base_upd (base_upd hS ht) M1r, r, c + 1, _, by rw [upd_ne (Ne.symm hrt), upd_same], upd_same, hrt, hk.put ha0 ha1⟩ (gx.trans kx) (.int _)
      · -- mixed of a cell
        refine ⟨_, rfl, _, rfl, t, _, rfl, DGet.k (k := Sum.inr ("count" : Str)) H1t, _, _, rfl, rfl, .inl ⟨by decide, by decide⟩, _, _, rfl, rfl, _, _, rfl, rfl, (by show (0 : Int) < _; decide), ?_⟩
        have b1 : 0 ≤ (rest + 104729 * (c + 1)) % 4294967291 := Int.emod_nonneg _ (by decide)
        have b2 : (rest + 104729 * (c + 1)) % 4294967291 < 4294967291 := Int.emod_lt_of_pos _ (by decide)
        refine ⟨_, rfl, _, _, rfl, rfl, ⟨by decide, by decide, by omega⟩, _, _, rfl, rfl, (by show (0 : Int) < _; decide), ?_⟩
        have b3 : 0 ≤ ((rest + 104729 * (c + 1)) % 4294967291) ^ (5 : Int).toNat % 4294967279 := Int.emod_nonneg _ (by decide)
        have b4 : ((rest + 104729 * (c + 1)) % 4294967291) ^ (5 : Int).toNat % 4294967279 < 4294967279 := Int.emod_lt_of_pos _ (by decide)
        refine ⟨_, rfl, _, _, rfl, rfl, ⟨by decide, by decide⟩, _, _, rfl, rfl, .inr ⟨by decide, by decide⟩, _, rfl, _, _, rfl, rfl, _, _, rfl, rfl, (by show (0 : Int) < _; decide), _, _, rfl, rfl, ⟨by decide, by decide⟩, _, rfl, _, _, rfl, rfl, hm0, ?_⟩
        exact kq _ _ _ _ F (upd M t (townD (c + 1) r)) (kd _ (Int.emod_nonneg _ (by omega)) (Int.emod_lt_of_pos _ hm0)) ⟨g1, g2, g3, hw.fp, base_upd hS ht, r, c + 1, kvs, upd_same, M1r, hrt, hk⟩ gx (.int _)
/-- _law_begun -/
def n__law_begun : List Str := []
theorem sc__law_begun : FnScope n__law_begun [] (defScope s__law_begun) := ⟨rfl, rfl, rfl, by decide +kernel, rfl, by decide +kernel, by decide +kernel⟩
theorem ok__law_begun {cx : Nat → Value} {sa : Addr} {ns : List Int} {T : Option Addr} {f : Addr} {fd : FuncData} (Fn : FunD K "_law_begun" "_law_begun" (defArgs s__law_begun) (defBody s__law_begun) (defScope s__law_begun) [] [] f fd) : FnOk P w K mg base (L2.CX P w) 1 f fd [] (spOf (Wd K sa ns T) cx 0 spBegun) := by
  refine Fn.ok sc__law_begun (fun vs H Q E h => ?_) fun cdv A outer s H vs Q E hr h => ?_
  · obtain ⟨F, M, ω, ds, Qc, Ec, hw, r, hl, _⟩ := h
    have := Paired.length r
    rw [hl] at this
    exact this
  · obtain ⟨F, M, ω, ds, Qc, Ec, hw, r, hl, ⟨rfl, rfl, kd⟩, kq, _⟩ := h
    cases r
    refine ⟨_, pss_one (ps_ret (pe_disp (pps_cons pe_str pe_int (pps_cons pe_str pe_dnewK pps_nil)) (by rfl) (by rfl) (fun z => by cases z) (by decide))), ?_⟩
    intro p np r nr
    have rp : r ≠ p := fun z => by rw [z, upd_same] at nr; cases nr
    obtain ⟨b1, b2⟩ := begun_new hw np nr
    exact ⟨(upd_ne (Ne.symm rp)).trans upd_same, [(Sum.inr "count", .int 0), (Sum.inr "rests", .ref r)], rfl, Nat.le_of_ble_eq_true rfl, kq _ _ _ _ _ _ (kd p) b1 b2 rfl⟩
end
end L19
namespace L19
open PySem PySem.Spec PyProof.Rows L2 Q GF
def fn : List He.DefD := ([⟨("_law_draw", none), "_law_draw", "_law_draw", defArgs s__law_draw, defBody s__law_draw, defScope s__law_draw, [], []⟩, ⟨("_law_begun", none), "_law_begun", "_law_begun", defArgs s__law_begun, defBody s__law_begun, defScope s__law_begun, [], []⟩, ⟨("_law_task", none), "_law_task", "_law_task", defArgs s__law_task, defBody s__law_task, defScope s__law_task, [], []⟩, ⟨("_law_sum", none), "_law_sum", "_law_sum", defArgs s__law_sum, defBody s__law_sum, defScope s__law_sum, [], []⟩, ⟨("_law_code", none), "_law_code", "_law_code", defArgs s__law_code, defBody s__law_code, defScope s__law_code, [], []⟩, ⟨("bit", none), "bit", "bit", defArgs s_bit, defBody s_bit, defScope s_bit, [], []⟩, ⟨("number_of", none), "number_of", "number_of", defArgs s_number_of, defBody s_number_of, defScope s_number_of, [], []⟩, ⟨("messages_of", none), "messages_of", "messages_of", defArgs s_messages_of, defBody s_messages_of, defScope s_messages_of, [], []⟩, ⟨("lowest", none), "lowest", "lowest", defArgs s_lowest, defBody s_lowest, defScope s_lowest, [], []⟩, ⟨("cleared", none), "cleared", "cleared", defArgs s_cleared, defBody s_cleared, defScope s_cleared, [], []⟩, ⟨("joined", none), "joined", "joined", defArgs s_joined, defBody s_joined, defScope s_joined, [], []⟩, ⟨("basis_of", none), "basis_of", "basis_of", defArgs s_basis_of, defBody s_basis_of, defScope s_basis_of, [], []⟩, ⟨("told", none), "told", "told", defArgs s_told, defBody s_told, defScope s_told, [], []⟩, ⟨("is_between", none), "is_between", "is_between", defArgs s_is_between, defBody s_is_between, defScope s_is_between, [], []⟩, ⟨("is_ascending", none), "is_ascending", "is_ascending", defArgs s_is_ascending, defBody s_is_ascending, defScope s_is_ascending, [], []⟩, ⟨("are_messages", none), "are_messages", "are_messages", defArgs s_are_messages, defBody s_are_messages, defScope s_are_messages, [], []⟩, ⟨("is_receiver", none), "is_receiver", "is_receiver", defArgs s_is_receiver, defBody s_is_receiver, defScope s_is_receiver, [], []⟩, ⟨("is_task", none), "is_task", "is_task", defArgs s_is_task, defBody s_is_task, defScope s_is_task, [], []⟩, ⟨("check_task", none), "check_task", "check_task", defArgs s_check_task, defBody s_check_task, defScope s_check_task, [], []⟩, ⟨("check_messages", none), "check_messages", "check_messages", defArgs s_check_messages, defBody s_check_messages, defScope s_check_messages, [], []⟩, ⟨("is_sum", none), "is_sum", "is_sum", defArgs s_is_sum, defBody s_is_sum, defScope s_is_sum, [], []⟩, ⟨("is_code_of", none), "is_code_of", "is_code_of", defArgs s_is_code_of, defBody s_is_code_of, defScope s_is_code_of, [], []⟩, ⟨("check_code", none), "check_code", "check_code", defArgs s_check_code, defBody s_check_code, defScope s_check_code, [], []⟩, ⟨("basis_for", none), "basis_for", "basis_for", defArgs s_basis_for, defBody s_basis_for, defScope s_basis_for, [], []⟩, ⟨("learned_from", none), "learned_from", "learned_from", defArgs s_learned_from, defBody s_learned_from, defScope s_learned_from, [], []⟩, ⟨("learned", none), "learned", "learned", defArgs s_learned, defBody s_learned, defScope s_learned, [], []⟩, ⟨("served_by", none), "served_by", "served_by", defArgs s_served_by, defBody s_served_by, defScope s_served_by, [], []⟩, ⟨("check_both", none), "check_both", "check_both", defArgs s_check_both, defBody s_check_both, defScope s_check_both, [], []⟩, ⟨("does_serve", none), "does_serve", "does_serve", defArgs s_does_serve, defBody s_does_serve, defScope s_does_serve, [], []⟩, ⟨("is_serving", none), "is_serving", "is_serving", defArgs s_is_serving, defBody s_is_serving, defScope s_is_serving, [], []⟩] : List He.DefD) ++ ([⟨("choices_of", none), "choices_of", "choices_of", defArgs s_choices_of, defBody s_choices_of, defScope s_choices_of, [], []⟩, ⟨("code_of", none), "code_of", "code_of", defArgs s_code_of, defBody s_code_of, defScope s_code_of, [], []⟩, ⟨("reduced", none), "reduced", "reduced", defArgs s_reduced, defBody s_reduced, defScope s_reduced, [], []⟩, ⟨("rank", none), "rank", "rank", defArgs s_rank, defBody s_rank, defScope s_rank, [], []⟩, ⟨("wishes", none), "wishes", "wishes", defArgs s_wishes, defBody s_wishes, defScope s_wishes, [], []⟩, ⟨("extended", none), "extended", "extended", defArgs s_extended, defBody s_extended, defScope s_extended, [], []⟩, ⟨("least_many", none), "least_many", "least_many", defArgs s_least_many, defBody s_least_many, defScope s_least_many, [], []⟩, ⟨("fewest", none), "fewest", "fewest", defArgs s_fewest, defBody s_fewest, defScope s_fewest, [], []⟩, ⟨("all_found", none), "all_found", "all_found", defArgs s_all_found, defBody s_all_found, defScope s_all_found, [], []⟩, ⟨("best_code", none), "best_code", "best_code", defArgs s_best_code, defBody s_best_code, defScope s_best_code, [], []⟩, ⟨("tells_more", none), "tells_more", "tells_more", defArgs s_tells_more, defBody s_tells_more, defScope s_tells_more, [], []⟩, ⟨("discreet_bases", none), "discreet_bases", "discreet_bases", defArgs s_discreet_bases, defBody s_discreet_bases, defScope s_discreet_bases, [], []⟩, ⟨("fewest_discreet", none), "fewest_discreet", "fewest_discreet", defArgs s_fewest_discreet, defBody s_fewest_discreet, defScope s_fewest_discreet, [], []⟩, ⟨("is_discreet", none), "is_discreet", "is_discreet", defArgs s_is_discreet, defBody s_is_discreet, defScope s_is_discreet, [], []⟩, ⟨("discreet_code", none), "discreet_code", "discreet_code", defArgs s_discreet_code, defBody s_discreet_code, defScope s_discreet_code, [], []⟩, ⟨("survives", none), "survives", "survives", defArgs s_survives, defBody s_survives, defScope s_survives, [], []⟩, ⟨("is_safe", none), "is_safe", "is_safe", defArgs s_is_safe, defBody s_is_safe, defScope s_is_safe, [], []⟩, ⟨("weakest", none), "weakest", "weakest", defArgs s_weakest, defBody s_weakest, defScope s_weakest, [], []⟩, ⟨("_law_lasting", none), "_law_lasting", "_law_lasting", defArgs s__law_lasting, defBody s__law_lasting, defScope s__law_lasting, [], []⟩, ⟨("law", none), "law", "law", defArgs s_law, defBody s_law, defScope s_law, [], []⟩] : List He.DefD)
def fa : List He.Fa := ([.free "len", .free "tuple", .free "list", .free "all", .free "sorted", .free "min", .free "max", .free "isinstance", .free "int", .free "bool", .free "str", .free "range", .free "zip", .free "enumerate", .free "set", .free "dict", .glo "_law_draw", .glo "_law_begun", .glo "_law_task", .glo "_law_sum", .glo "_law_code", .glo "bit", .glo "number_of", .glo "messages_of", .glo "lowest", .glo "cleared", .glo "joined", .glo "basis_of", .glo "told", .glo "is_between"] : List He.Fa) ++ ([.glo "is_ascending", .glo "are_messages", .glo "is_receiver", .glo "is_task", .glo "check_task", .glo "check_messages", .glo "is_sum", .glo "is_code_of", .glo "check_code", .glo "basis_for", .glo "learned_from", .glo "learned", .glo "served_by", .glo "check_both", .glo "does_serve", .glo "is_serving", .glo "choices_of", .glo "code_of", .glo "reduced", .glo "rank", .glo "wishes", .glo "extended", .glo "least_many", .glo "fewest", .glo "all_found", .glo "best_code", .glo "tells_more", .glo "discreet_bases", .glo "fewest_discreet", .glo "is_discreet"] : List He.Fa) ++ ([.glo "discreet_code", .glo "survives", .glo "is_safe", .glo "weakest", .glo "_law_lasting", .glo "law", .int "MOST" 6, .int "SUMS" 8, .glo "CastError", .exc "CastError", .glo "InvalidTask", .exc "InvalidTask", .glo "InvalidMessages", .exc "InvalidMessages", .glo "InvalidCode", .exc "InvalidCode", .glo "InvalidKnown", .exc "InvalidKnown", .glo "InvalidNumber", .exc "InvalidNumber"] : List He.Fa)
abbrev R : PySem.W.OpenRow := PySem.W.OpenLaw.row PySem.Challenge.rw_codecast_k19_whole_secrecy
abbrev hk : PySem.W.Hook := He.hookD 4 fa fn
def ob (s : PySem.W.SharedT) : He.AlD := He.obsDG 4 fa fn (HandSHeadRun.getT s)
theorem ob_eq (s : PySem.W.SharedT) : ob s = hk.obs s.abs := He.obsDG_eq (HandSHeadRun.getT_eq s)
def loose : List Str := (["CastError", "InvalidTask", "InvalidMessages", "InvalidCode", "InvalidKnown", "InvalidNumber", "number_of", "bit", "messages_of", "lowest", "cleared", "joined", "basis_of", "told", "MOST", "SUMS", "is_between", "is_ascending", "are_messages", "is_receiver", "is_task", "check_task", "check_messages", "is_sum", "is_code_of", "check_code", "basis_for", "learned_from", "learned", "served_by"] : List Str) ++ (["check_both", "does_serve", "is_serving", "choices_of", "code_of", "reduced", "rank", "wishes", "extended", "least_many", "fewest", "all_found", "best_code", "tells_more", "is_discreet", "discreet_bases", "fewest_discreet", "discreet_code", "survives", "is_safe", "weakest", "_law_draw", "_law_begun", "_law_task", "_law_sum", "_law_code", "_law_lasting"] : List Str)
theorem run (w : World) : HandSHeadRun.RunEq R (PySem.W.view R.prog [64]) hk ob 6000 loose w := by
  intro os
  kernel_rfl
section
variable {P : Program} {w : World} {K : PySem.W.Frag} {h : Heap} {mg : Str → Option Value}
theorem txt {sa : Addr} (X : K.In h) (Gn : h.Ns mainGlobals mg) (c : He.SaysD fa fn K) : Txt (δ sa) G (cxU K) K mg where
  blt := fun x hx => by
    rw [bltNames] at hx
    simp only [List.mem_cons, List.not_mem_nil, or_false] at hx
    rcases hx with rfl | rfl | rfl | rfl | rfl | rfl | rfl | rfl | rfl | rfl | rfl | rfl | rfl | rfl | rfl | rfl
    · exact He.free_ok X Gn (c.fact 0 (f := .free "len") rfl)
    · exact He.free_ok X Gn (c.fact 1 (f := .free "tuple") rfl)
    · exact He.free_ok X Gn (c.fact 2 (f := .free "list") rfl)
    · exact He.free_ok X Gn (c.fact 3 (f := .free "all") rfl)
    · exact He.free_ok X Gn (c.fact 4 (f := .free "sorted") rfl)
    · exact He.free_ok X Gn (c.fact 5 (f := .free "min") rfl)
    · exact He.free_ok X Gn (c.fact 6 (f := .free "max") rfl)
    · exact He.free_ok X Gn (c.fact 7 (f := .free "isinstance") rfl)
    · exact He.free_ok X Gn (c.fact 8 (f := .free "int") rfl)
    · exact He.free_ok X Gn (c.fact 9 (f := .free "bool") rfl)
    · exact He.free_ok X Gn (c.fact 10 (f := .free "str") rfl)
    · exact He.free_ok X Gn (c.fact 11 (f := .free "range") rfl)
    · exact He.free_ok X Gn (c.fact 12 (f := .free "zip") rfl)
    · exact He.free_ok X Gn (c.fact 13 (f := .free "enumerate") rfl)
    · exact He.free_ok X Gn (c.fact 14 (f := .free "set") rfl)
    · exact He.free_ok X Gn (c.fact 15 (f := .free "dict") rfl)
  con := fun k x e => by
    have hm := lookup_mem (show cnL.lookup k = some x from e)
    simp only [cnL, List.mem_cons, Prod.mk.injEq, List.not_mem_nil, or_false] at hm
    rcases hm with ⟨rfl, rfl⟩ | ⟨rfl, rfl⟩
    · obtain ⟨t, q⟩ := He.int_ok X Gn (c.fact 66 (f := .int "MOST" 6) rfl); exact ⟨6, t, q, rfl⟩
    · obtain ⟨t, q⟩ := He.int_ok X Gn (c.fact 67 (f := .int "SUMS" 8) rfl); exact ⟨8, t, q, rfl⟩
  exs := fun k x e => by
    have hm := lookup_mem (show exL.lookup k = some x from e)
    simp only [exL, List.mem_cons, Prod.mk.injEq, List.not_mem_nil, or_false] at hm
    rcases hm with ⟨rfl, rfl⟩ | ⟨rfl, rfl⟩ | ⟨rfl, rfl⟩ | ⟨rfl, rfl⟩ | ⟨rfl, rfl⟩ | ⟨rfl, rfl⟩
    · obtain ⟨a1, a2, a3, a4⟩ := He.exc_ok (c.fact 69 (f := .exc "CastError") rfl)
      exact ⟨_, rfl, He.glo_ok X Gn (c.fact 68 (f := .glo "CastError") rfl), a1, a2, a3, a4⟩
    · obtain ⟨a1, a2, a3, a4⟩ := He.exc_ok (c.fact 71 (f := .exc "InvalidTask") rfl)
      exact ⟨_, rfl, He.glo_ok X Gn (c.fact 70 (f := .glo "InvalidTask") rfl), a1, a2, a3, a4⟩
    · obtain ⟨a1, a2, a3, a4⟩ := He.exc_ok (c.fact 73 (f := .exc "InvalidMessages") rfl)
      exact ⟨_, rfl, He.glo_ok X Gn (c.fact 72 (f := .glo "InvalidMessages") rfl), a1, a2, a3, a4⟩
    · obtain ⟨a1, a2, a3, a4⟩ := He.exc_ok (c.fact 75 (f := .exc "InvalidCode") rfl)
      exact ⟨_, rfl, He.glo_ok X Gn (c.fact 74 (f := .glo "InvalidCode") rfl), a1, a2, a3, a4⟩
    · obtain ⟨a1, a2, a3, a4⟩ := He.exc_ok (c.fact 77 (f := .exc "InvalidKnown") rfl)
      exact ⟨_, rfl, He.glo_ok X Gn (c.fact 76 (f := .glo "InvalidKnown") rfl), a1, a2, a3, a4⟩
    · obtain ⟨a1, a2, a3, a4⟩ := He.exc_ok (c.fact 79 (f := .exc "InvalidNumber") rfl)
      exact ⟨_, rfl, He.glo_ok X Gn (c.fact 78 (f := .glo "InvalidNumber") rfl), a1, a2, a3, a4⟩
theorem chain {sa : Addr} {ns : List Int} (hns : ns.length ≤ 63) (X : K.In h) (Gn : h.Ns mainGlobals mg) (c : He.SaysD fa fn K) (base : Heap) : ∃ fd, FunD K "law" "law" (defArgs s_law) (defBody s_law) (defScope s_law) [] [] (He.ga K "law") fd ∧ FnOk P w K mg base (L2.CX P w) 151 (He.ga K "law") fd ["script"] (spOf (Wd K sa ns none) (cxU K) 1 (spLaw sa)) := by
  have T := txt (sa := sa) X Gn c
  have A0 : Prev (Wd K sa ns none) (δ sa) G (cxU K) P w K mg base 0 := Prev.zero
  obtain ⟨fd0, F0⟩ := c.def_ 0 (d := ⟨("_law_draw", none), "_law_draw", "_law_draw", defArgs s__law_draw, defBody s__law_draw, defScope s__law_draw, [], []⟩) rfl
  have b0 : L2.Binds K fd0 ["script", "town", "many"] [] := F0.bindsN fun _ _ _ _ _ _ us hl => match us, hl with | [_, _, _], _ => rfl
  have A1 := A0.snoc (x := "_law_draw") rfl rfl ⟨rfl, He.glo_ok X Gn (c.fact 16 (f := .glo "_law_draw") rfl), F0.kp, b0, (fun n ks hm => by simp [G] at hm), (ok__law_draw hns F0 (T.blt "len" (by decide))).mono (by decide)⟩
  obtain ⟨fd1, F1⟩ := c.def_ 1 (d := ⟨("_law_begun", none), "_law_begun", "_law_begun", defArgs s__law_begun, defBody s__law_begun, defScope s__law_begun, [], []⟩) rfl
  have b1 : L2.Binds K fd1 [] [] := F1.bindsN fun _ _ _ _ _ _ us hl => match us, hl with | [], _ => rfl
  have A2 := A1.snoc (x := "_law_begun") rfl rfl ⟨rfl, He.glo_ok X Gn (c.fact 17 (f := .glo "_law_begun") rfl), F1.kp, b1, (fun n ks hm => by simp [G] at hm), (ok__law_begun F1).mono (by decide)⟩
  obtain ⟨fd2, F2⟩ := c.def_ 2 (d := ⟨("_law_task", none), "_law_task", "_law_task", defArgs s__law_task, defBody s__law_task, defScope s__law_task, [], []⟩) rfl
  have b2 : L2.Binds K fd2 ["script", "town", "most", "many"] [] := F2.bindsN fun _ _ _ _ _ _ us hl => match us, hl with | [_, _, _, _], _ => rfl
  have A3 := A2.snoc (x := "_law_task") rfl rfl ⟨rfl, He.glo_ok X Gn (c.fact 18 (f := .glo "_law_task") rfl), F2.kp, b2, (fun n ks hm => by simp [G] at hm), def_ok T A2 F2 sc__law_task ck__law_task (rd_task f0 rfl)⟩
  obtain ⟨fd3, F3⟩ := c.def_ 3 (d := ⟨("_law_sum", none), "_law_sum", "_law_sum", defArgs s__law_sum, defBody s__law_sum, defScope s__law_sum, [], []⟩) rfl
  have b3 : L2.Binds K fd3 ["script", "town", "messages"] [] := F3.bindsN fun _ _ _ _ _ _ us hl => match us, hl with | [_, _, _], _ => rfl
  have A4 := A3.snoc (x := "_law_sum") rfl rfl ⟨rfl, He.glo_ok X Gn (c.fact 19 (f := .glo "_law_sum") rfl), F3.kp, b3, (fun n ks hm => by simp [G] at hm), def_ok T A3 F3 sc__law_sum ck__law_sum (rd_sum f0 rfl)⟩
  obtain ⟨fd4, F4⟩ := c.def_ 4 (d := ⟨("_law_code", none), "_law_code", "_law_code", defArgs s__law_code, defBody s__law_code, defScope s__law_code, [], []⟩) rfl
  have b4 : L2.Binds K fd4 ["script", "town", "messages", "most"] [] := F4.bindsN fun _ _ _ _ _ _ us hl => match us, hl with | [_, _, _, _], _ => rfl
  have A5 := A4.snoc (x := "_law_code") rfl rfl ⟨rfl, He.glo_ok X Gn (c.fact 20 (f := .glo "_law_code") rfl), F4.kp, b4, (fun n ks hm => by simp [G] at hm), def_ok T A4 F4 sc__law_code ck__law_code (rd_code f0 f3 rfl)⟩
  obtain ⟨fd5, F5⟩ := c.def_ 5 (d := ⟨("bit", none), "bit", "bit", defArgs s_bit, defBody s_bit, defScope s_bit, [], []⟩) rfl
  have b5 : L2.Binds K fd5 ["message"] [] := F5.bindsN fun _ _ _ _ _ _ us hl => match us, hl with | [_], _ => rfl
  have A6 := A5.snoc (x := "bit") rfl rfl ⟨rfl, He.glo_ok X Gn (c.fact 21 (f := .glo "bit") rfl), F5.kp, b5, (fun n ks hm => by simp [G] at hm), def_ok T A5 F5 sc_bit ck_bit (rd_pure tabA sub_nil rfl rfl)⟩
  obtain ⟨fd6, F6⟩ := c.def_ 6 (d := ⟨("number_of", none), "number_of", "number_of", defArgs s_number_of, defBody s_number_of, defScope s_number_of, [], []⟩) rfl
  have b6 : L2.Binds K fd6 ["some"] [] := F6.bindsN fun _ _ _ _ _ _ us hl => match us, hl with | [_], _ => rfl
  have A7 := A6.snoc (x := "number_of") rfl rfl ⟨rfl, He.glo_ok X Gn (c.fact 22 (f := .glo "number_of") rfl), F6.kp, b6, (fun n ks hm => by simp [G] at hm), def_ok T A6 F6 sc_number_of ck_number_of (rd_pure tabA (sub_cons rfl sub_nil) rfl rfl)⟩
  obtain ⟨fd7, F7⟩ := c.def_ 7 (d := ⟨("messages_of", none), "messages_of", "messages_of", defArgs s_messages_of, defBody s_messages_of, defScope s_messages_of, [], []⟩) rfl
  have b7 : L2.Binds K fd7 ["number"] [] := F7.bindsN fun _ _ _ _ _ _ us hl => match us, hl with | [_], _ => rfl
  have A8 := A7.snoc (x := "messages_of") rfl rfl ⟨rfl, He.glo_ok X Gn (c.fact 23 (f := .glo "messages_of") rfl), F7.kp, b7, (fun n ks hm => by simp [G] at hm), def_ok T A7 F7 sc_messages_of ck_messages_of (rd_pure tabA sub_nil rfl rfl)⟩
  obtain ⟨fd8, F8⟩ := c.def_ 8 (d := ⟨("lowest", none), "lowest", "lowest", defArgs s_lowest, defBody s_lowest, defScope s_lowest, [], []⟩) rfl
  have b8 : L2.Binds K fd8 ["number"] [] := F8.bindsN fun _ _ _ _ _ _ us hl => match us, hl with | [_], _ => rfl
  have A9 := A8.snoc (x := "lowest") rfl rfl ⟨rfl, He.glo_ok X Gn (c.fact 24 (f := .glo "lowest") rfl), F8.kp, b8, (fun n ks hm => by simp [G] at hm), def_ok T A8 F8 sc_lowest ck_lowest (rd_pure tabA sub_nil rfl rfl)⟩
  obtain ⟨fd9, F9⟩ := c.def_ 9 (d := ⟨("cleared", none), "cleared", "cleared", defArgs s_cleared, defBody s_cleared, defScope s_cleared, [], []⟩) rfl
  have b9 : L2.Binds K fd9 ["basis", "number"] [] := F9.bindsN fun _ _ _ _ _ _ us hl => match us, hl with | [_, _], _ => rfl
  have A10 := A9.snoc (x := "cleared") rfl rfl ⟨rfl, He.glo_ok X Gn (c.fact 25 (f := .glo "cleared") rfl), F9.kp, b9, (fun n ks hm => by simp [G] at hm), def_ok T A9 F9 sc_cleared ck_cleared (rd_pure tabA (sub_cons rfl sub_nil) rfl rfl)⟩
  obtain ⟨fd10, F10⟩ := c.def_ 10 (d := ⟨("joined", none), "joined", "joined", defArgs s_joined, defBody s_joined, defScope s_joined, [], []⟩) rfl
  have b10 : L2.Binds K fd10 ["basis", "number"] [] := F10.bindsN fun _ _ _ _ _ _ us hl => match us, hl with | [_, _], _ => rfl
  have A11 := A10.snoc (x := "joined") rfl rfl ⟨rfl, He.glo_ok X Gn (c.fact 26 (f := .glo "joined") rfl), F10.kp, b10, (fun n ks hm => by simp [G] at hm), def_ok T A10 F10 sc_joined ck_joined (rd_pure tabA (sub_cons rfl (sub_cons rfl sub_nil)) rfl rfl)⟩
  obtain ⟨fd11, F11⟩ := c.def_ 11 (d := ⟨("basis_of", none), "basis_of", "basis_of", defArgs s_basis_of, defBody s_basis_of, defScope s_basis_of, [], []⟩) rfl
  have b11 : L2.Binds K fd11 ["numbers"] [] := F11.bindsN fun _ _ _ _ _ _ us hl => match us, hl with | [_], _ => rfl
  have A12 := A11.snoc (x := "basis_of") rfl rfl ⟨rfl, He.glo_ok X Gn (c.fact 27 (f := .glo "basis_of") rfl), F11.kp, b11, (fun n ks hm => by simp [G] at hm), def_ok T A11 F11 sc_basis_of ck_basis_of (rd_pure tabA (sub_cons rfl sub_nil) rfl rfl)⟩
  obtain ⟨fd12, F12⟩ := c.def_ 12 (d := ⟨("told", none), "told", "told", defArgs s_told, defBody s_told, defScope s_told, [], []⟩) rfl
  have b12 : L2.Binds K fd12 ["basis", "known", "message"] [] := F12.bindsN fun _ _ _ _ _ _ us hl => match us, hl with | [_, _, _], _ => rfl
  have A13 := A12.snoc (x := "told") rfl rfl ⟨rfl, He.glo_ok X Gn (c.fact 28 (f := .glo "told") rfl), F12.kp, b12, (fun n ks hm => by simp [G] at hm), def_ok T A12 F12 sc_told ck_told (rd_pure tabA (sub_cons rfl (sub_cons rfl (sub_cons rfl sub_nil))) rfl rfl)⟩
  obtain ⟨fd13, F13⟩ := c.def_ 13 (d := ⟨("is_between", none), "is_between", "is_between", defArgs s_is_between, defBody s_is_between, defScope s_is_between, [], []⟩) rfl
  have b13 : L2.Binds K fd13 ["value", "low", "high"] [] := F13.bindsN fun _ _ _ _ _ _ us hl => match us, hl with | [_, _, _], _ => rfl
  have A14 := A13.snoc (x := "is_between") rfl rfl ⟨rfl, He.glo_ok X Gn (c.fact 29 (f := .glo "is_between") rfl), F13.kp, b13, (fun n ks hm => by simp [G] at hm), def_ok T A13 F13 sc_is_between ck_is_between (rd_pure tabA sub_nil rfl rfl)⟩
  obtain ⟨fd14, F14⟩ := c.def_ 14 (d := ⟨("is_ascending", none), "is_ascending", "is_ascending", defArgs s_is_ascending, defBody s_is_ascending, defScope s_is_ascending, [], []⟩) rfl
  have b14 : L2.Binds K fd14 ["values"] [] := F14.bindsN fun _ _ _ _ _ _ us hl => match us, hl with | [_], _ => rfl
  have A15 := A14.snoc (x := "is_ascending") rfl rfl ⟨rfl, He.glo_ok X Gn (c.fact 30 (f := .glo "is_ascending") rfl), F14.kp, b14, (fun n ks hm => by simp [G] at hm), def_ok T A14 F14 sc_is_ascending ck_is_ascending (rd_pure tabA sub_nil rfl rfl)⟩
  obtain ⟨fd15, F15⟩ := c.def_ 15 (d := ⟨("are_messages", none), "are_messages", "are_messages", defArgs s_are_messages, defBody s_are_messages, defScope s_are_messages, [], []⟩) rfl
  have b15 : L2.Binds K fd15 ["messages", "value"] [] := F15.bindsN fun _ _ _ _ _ _ us hl => match us, hl with | [_, _], _ => rfl
  have A16 := A15.snoc (x := "are_messages") rfl rfl ⟨rfl, He.glo_ok X Gn (c.fact 31 (f := .glo "are_messages") rfl), F15.kp, b15, (fun n ks hm => by simp [G] at hm), def_ok T A15 F15 sc_are_messages ck_are_messages (rd_pure tabA (sub_cons rfl (sub_cons rfl sub_nil)) rfl rfl)⟩
  obtain ⟨fd16, F16⟩ := c.def_ 16 (d := ⟨("is_receiver", none), "is_receiver", "is_receiver", defArgs s_is_receiver, defBody s_is_receiver, defScope s_is_receiver, [], []⟩) rfl
  have b16 : L2.Binds K fd16 ["messages", "value"] [] := F16.bindsN fun _ _ _ _ _ _ us hl => match us, hl with | [_, _], _ => rfl
  have A17 := A16.snoc (x := "is_receiver") rfl rfl ⟨rfl, He.glo_ok X Gn (c.fact 32 (f := .glo "is_receiver") rfl), F16.kp, b16, (fun n ks hm => by simp [G] at hm), def_ok T A16 F16 sc_is_receiver ck_is_receiver (rd_pure tabA (sub_cons rfl (sub_cons rfl sub_nil)) rfl rfl)⟩
  obtain ⟨fd17, F17⟩ := c.def_ 17 (d := ⟨("is_task", none), "is_task", "is_task", defArgs s_is_task, defBody s_is_task, defScope s_is_task, [], []⟩) rfl
  have b17 : L2.Binds K fd17 ["value"] [] := F17.bindsN fun _ _ _ _ _ _ us hl => match us, hl with | [_], _ => rfl
  have A18 := A17.snoc (x := "is_task") rfl rfl ⟨rfl, He.glo_ok X Gn (c.fact 33 (f := .glo "is_task") rfl), F17.kp, b17, (fun n ks hm => by simp [G] at hm), def_ok T A17 F17 sc_is_task ck_is_task (rd_pure tabA (sub_cons rfl (sub_cons rfl sub_nil)) rfl rfl)⟩
  obtain ⟨fd18, F18⟩ := c.def_ 18 (d := ⟨("check_task", none), "check_task", "check_task", defArgs s_check_task, defBody s_check_task, defScope s_check_task, [], []⟩) rfl
  have b18 : L2.Binds K fd18 ["task"] [] := F18.bindsN fun _ _ _ _ _ _ us hl => match us, hl with | [_], _ => rfl
  have A19 := A18.snoc (x := "check_task") rfl rfl ⟨rfl, He.glo_ok X Gn (c.fact 34 (f := .glo "check_task") rfl), F18.kp, b18, (fun n ks hm => by simp [G] at hm), def_ok T A18 F18 sc_check_task ck_check_task (rd_pure tabA (sub_cons rfl sub_nil) rfl rfl)⟩
  obtain ⟨fd19, F19⟩ := c.def_ 19 (d := ⟨("check_messages", none), "check_messages", "check_messages", defArgs s_check_messages, defBody s_check_messages, defScope s_check_messages, [], []⟩) rfl
  have b19 : L2.Binds K fd19 ["messages"] [] := F19.bindsN fun _ _ _ _ _ _ us hl => match us, hl with | [_], _ => rfl
  have A20 := A19.snoc (x := "check_messages") rfl rfl ⟨rfl, He.glo_ok X Gn (c.fact 35 (f := .glo "check_messages") rfl), F19.kp, b19, (fun n ks hm => by simp [G] at hm), def_ok T A19 F19 sc_check_messages ck_check_messages (rd_pure tabA (sub_cons rfl sub_nil) rfl rfl)⟩
  obtain ⟨fd20, F20⟩ := c.def_ 20 (d := ⟨("is_sum", none), "is_sum", "is_sum", defArgs s_is_sum, defBody s_is_sum, defScope s_is_sum, [], []⟩) rfl
  have b20 : L2.Binds K fd20 ["messages", "value"] [] := F20.bindsN fun _ _ _ _ _ _ us hl => match us, hl with | [_, _], _ => rfl
  have A21 := A20.snoc (x := "is_sum") rfl rfl ⟨rfl, He.glo_ok X Gn (c.fact 36 (f := .glo "is_sum") rfl), F20.kp, b20, (fun n ks hm => by simp [G] at hm), def_ok T A20 F20 sc_is_sum ck_is_sum (rd_pure tabA (sub_cons rfl sub_nil) rfl rfl)⟩
  obtain ⟨fd21, F21⟩ := c.def_ 21 (d := ⟨("is_code_of", none), "is_code_of", "is_code_of", defArgs s_is_code_of, defBody s_is_code_of, defScope s_is_code_of, [], []⟩) rfl
  have b21 : L2.Binds K fd21 ["messages", "value"] [] := F21.bindsN fun _ _ _ _ _ _ us hl => match us, hl with | [_, _], _ => rfl
  have A22 := A21.snoc (x := "is_code_of") rfl rfl ⟨rfl, He.glo_ok X Gn (c.fact 37 (f := .glo "is_code_of") rfl), F21.kp, b21, (fun n ks hm => by simp [G] at hm), def_ok T A21 F21 sc_is_code_of ck_is_code_of (rd_pure tabA (sub_cons rfl sub_nil) rfl rfl)⟩
  obtain ⟨fd22, F22⟩ := c.def_ 22 (d := ⟨("check_code", none), "check_code", "check_code", defArgs s_check_code, defBody s_check_code, defScope s_check_code, [], []⟩) rfl
  have A23 := A22.gapB (m := 23) (by decide +kernel) (by decide)
  have b22 : L2.Binds K fd22 ["messages", "code"] [] := F22.bindsN fun _ _ _ _ _ _ us hl => match us, hl with | [_, _], _ => rfl
  have A24 := A23.snoc (x := "check_code") rfl rfl ⟨rfl, He.glo_ok X Gn (c.fact 38 (f := .glo "check_code") rfl), F22.kp, b22, (fun n ks hm => by simp [G] at hm), def_ok T A23 F22 sc_check_code ck_check_code (rd_pure tabA (sub_cons rfl sub_nil) rfl rfl)⟩
  obtain ⟨fd23, F23⟩ := c.def_ 23 (d := ⟨("basis_for", none), "basis_for", "basis_for", defArgs s_basis_for, defBody s_basis_for, defScope s_basis_for, [], []⟩) rfl
  have b23 : L2.Binds K fd23 ["code"] [] := F23.bindsN fun _ _ _ _ _ _ us hl => match us, hl with | [_], _ => rfl
  have A25 := A24.snoc (x := "basis_for") rfl rfl ⟨rfl, He.glo_ok X Gn (c.fact 39 (f := .glo "basis_for") rfl), F23.kp, b23, (fun n ks hm => by simp [G] at hm), def_ok T A24 F23 sc_basis_for ck_basis_for (rd_pure tabA (sub_cons rfl (sub_cons rfl sub_nil)) rfl rfl)⟩
  obtain ⟨fd24, F24⟩ := c.def_ 24 (d := ⟨("learned_from", none), "learned_from", "learned_from", defArgs s_learned_from, defBody s_learned_from, defScope s_learned_from, [], []⟩) rfl
  have b24 : L2.Binds K fd24 ["messages", "basis", "known"] [] := F24.bindsN fun _ _ _ _ _ _ us hl => match us, hl with | [_, _, _], _ => rfl
  have A26 := A25.snoc (x := "learned_from") rfl rfl ⟨rfl, He.glo_ok X Gn (c.fact 40 (f := .glo "learned_from") rfl), F24.kp, b24, (fun n ks hm => by simp [G] at hm), def_ok T A25 F24 sc_learned_from ck_learned_from (rd_pure tabA (sub_cons rfl (sub_cons rfl sub_nil)) rfl rfl)⟩
  obtain ⟨fd25, F25⟩ := c.def_ 25 (d := ⟨("learned", none), "learned", "learned", defArgs s_learned, defBody s_learned, defScope s_learned, [], []⟩) rfl
  have b25 : L2.Binds K fd25 ["messages", "code", "known"] [] := F25.bindsN fun _ _ _ _ _ _ us hl => match us, hl with | [_, _, _], _ => rfl
  have A27 := A26.snoc (x := "learned") rfl rfl ⟨rfl, He.glo_ok X Gn (c.fact 41 (f := .glo "learned") rfl), F25.kp, b25, (fun n ks hm => by simp [G] at hm), def_ok T A26 F25 sc_learned ck_learned (rd_pure tabA (sub_cons rfl (sub_cons rfl (sub_cons rfl (sub_cons rfl (sub_cons rfl sub_nil))))) rfl rfl)⟩
  obtain ⟨fd26, F26⟩ := c.def_ 26 (d := ⟨("served_by", none), "served_by", "served_by", defArgs s_served_by, defBody s_served_by, defScope s_served_by, [], []⟩) rfl
  have b26 : L2.Binds K fd26 ["task", "basis"] [] := F26.bindsN fun _ _ _ _ _ _ us hl => match us, hl with | [_, _], _ => rfl
  have A28 := A27.snoc (x := "served_by") rfl rfl ⟨rfl, He.glo_ok X Gn (c.fact 42 (f := .glo "served_by") rfl), F26.kp, b26, (fun n ks hm => by simp [G] at hm), def_ok T A27 F26 sc_served_by ck_served_by (rd_pure tabA (sub_cons rfl (sub_cons rfl sub_nil)) rfl rfl)⟩
  obtain ⟨fd27, F27⟩ := c.def_ 27 (d := ⟨("check_both", none), "check_both", "check_both", defArgs s_check_both, defBody s_check_both, defScope s_check_both, [], []⟩) rfl
  have b27 : L2.Binds K fd27 ["task", "code"] [] := F27.bindsN fun _ _ _ _ _ _ us hl => match us, hl with | [_, _], _ => rfl
  have A29 := A28.snoc (x := "check_both") rfl rfl ⟨rfl, He.glo_ok X Gn (c.fact 43 (f := .glo "check_both") rfl), F27.kp, b27, (fun n ks hm => by simp [G] at hm), def_ok T A28 F27 sc_check_both ck_check_both (rd_pure tabA (sub_cons rfl (sub_cons rfl sub_nil)) rfl rfl)⟩
  obtain ⟨fd28, F28⟩ := c.def_ 28 (d := ⟨("does_serve", none), "does_serve", "does_serve", defArgs s_does_serve, defBody s_does_serve, defScope s_does_serve, [], []⟩) rfl
  have A30 := A29.gapB (m := 30) (by decide +kernel) (by decide)
  have b28 : L2.Binds K fd28 ["task", "basis"] [] := F28.bindsN fun _ _ _ _ _ _ us hl => match us, hl with | [_, _], _ => rfl
  have A31 := A30.snoc (x := "does_serve") rfl rfl ⟨rfl, He.glo_ok X Gn (c.fact 44 (f := .glo "does_serve") rfl), F28.kp, b28, (fun n ks hm => by simp [G] at hm), def_ok T A30 F28 sc_does_serve ck_does_serve (rd_pure tabA (sub_cons rfl sub_nil) rfl rfl)⟩
  obtain ⟨fd29, F29⟩ := c.def_ 29 (d := ⟨("is_serving", none), "is_serving", "is_serving", defArgs s_is_serving, defBody s_is_serving, defScope s_is_serving, [], []⟩) rfl
  have b29 : L2.Binds K fd29 ["task", "code"] [] := F29.bindsN fun _ _ _ _ _ _ us hl => match us, hl with | [_, _], _ => rfl
  have A32 := A31.snoc (x := "is_serving") rfl rfl ⟨rfl, He.glo_ok X Gn (c.fact 45 (f := .glo "is_serving") rfl), F29.kp, b29, (fun n ks hm => by simp [G] at hm), def_ok T A31 F29 sc_is_serving ck_is_serving (rd_pure tabA (sub_cons rfl (sub_cons rfl (sub_cons rfl sub_nil))) rfl rfl)⟩
  obtain ⟨fd30, F30⟩ := c.def_ 30 (d := ⟨("choices_of", none), "choices_of", "choices_of", defArgs s_choices_of, defBody s_choices_of, defScope s_choices_of, [], []⟩) rfl
  have A34 := A32.gapB (m := 34) (by decide +kernel) (by decide)
  have b30 : L2.Binds K fd30 ["many"] [] := F30.bindsN fun _ _ _ _ _ _ us hl => match us, hl with | [_], _ => rfl
  have A35 := A34.snoc (x := "choices_of") rfl rfl ⟨rfl, He.glo_ok X Gn (c.fact 46 (f := .glo "choices_of") rfl), F30.kp, b30, (fun n ks hm => by simp [G] at hm), def_ok T A34 F30 sc_choices_of ck_choices_of (rd_pure tabA sub_nil rfl rfl)⟩
  obtain ⟨fd31, F31⟩ := c.def_ 31 (d := ⟨("code_of", none), "code_of", "code_of", defArgs s_code_of, defBody s_code_of, defScope s_code_of, [], []⟩) rfl
  have A37 := A35.gapB (m := 37) (by decide +kernel) (by decide)
  have b31 : L2.Binds K fd31 ["basis"] [] := F31.bindsN fun _ _ _ _ _ _ us hl => match us, hl with | [_], _ => rfl
  have A38 := A37.snoc (x := "code_of") rfl rfl ⟨rfl, He.glo_ok X Gn (c.fact 47 (f := .glo "code_of") rfl), F31.kp, b31, (fun n ks hm => by simp [G] at hm), def_ok T A37 F31 sc_code_of ck_code_of (rd_pure tabA (sub_cons rfl sub_nil) rfl rfl)⟩
  obtain ⟨fd32, F32⟩ := c.def_ 32 (d := ⟨("reduced", none), "reduced", "reduced", defArgs s_reduced, defBody s_reduced, defScope s_reduced, [], []⟩) rfl
  have b32 : L2.Binds K fd32 ["messages", "code"] [] := F32.bindsN fun _ _ _ _ _ _ us hl => match us, hl with | [_, _], _ => rfl
  have A39 := A38.snoc (x := "reduced") rfl rfl ⟨rfl, He.glo_ok X Gn (c.fact 48 (f := .glo "reduced") rfl), F32.kp, b32, (fun n ks hm => by simp [G] at hm), def_ok T A38 F32 sc_reduced ck_reduced (rd_pure tabA (sub_cons rfl (sub_cons rfl (sub_cons rfl (sub_cons rfl sub_nil)))) rfl rfl)⟩
  obtain ⟨fd33, F33⟩ := c.def_ 33 (d := ⟨("rank", none), "rank", "rank", defArgs s_rank, defBody s_rank, defScope s_rank, [], []⟩) rfl
  have A40 := A39.gapB (m := 40) (by decide +kernel) (by decide)
  have b33 : L2.Binds K fd33 ["messages", "code"] [] := F33.bindsN fun _ _ _ _ _ _ us hl => match us, hl with | [_, _], _ => rfl
  have A41 := A40.snoc (x := "rank") rfl rfl ⟨rfl, He.glo_ok X Gn (c.fact 49 (f := .glo "rank") rfl), F33.kp, b33, (fun n ks hm => by simp [G] at hm), def_ok T A40 F33 sc_rank ck_rank (rd_pure tabA (sub_cons rfl (sub_cons rfl (sub_cons rfl sub_nil))) rfl rfl)⟩
  obtain ⟨fd34, F34⟩ := c.def_ 34 (d := ⟨("wishes", none), "wishes", "wishes", defArgs s_wishes, defBody s_wishes, defScope s_wishes, [], []⟩) rfl
  have b34 : L2.Binds K fd34 ["want", "known"] [] := F34.bindsN fun _ _ _ _ _ _ us hl => match us, hl with | [_, _], _ => rfl
  have A42 := A41.snoc (x := "wishes") rfl rfl ⟨rfl, He.glo_ok X Gn (c.fact 50 (f := .glo "wishes") rfl), F34.kp, b34, (fun n ks hm => by simp [G] at hm), def_ok T A41 F34 sc_wishes ck_wishes (rd_pure tabA (sub_cons rfl sub_nil) rfl rfl)⟩
  obtain ⟨fd35, F35⟩ := c.def_ 35 (d := ⟨("extended", none), "extended", "extended", defArgs s_extended, defBody s_extended, defScope s_extended, [], []⟩) rfl
  have b35 : L2.Binds K fd35 ["task", "begin", "most"] [] := F35.bindsN fun _ _ _ _ _ _ us hl => match us, hl with | [_, _, _], _ => rfl
  have A43 := A42.snoc (x := "extended") rfl rfl ⟨rfl, He.glo_ok X Gn (c.fact 51 (f := .glo "extended") rfl), F35.kp, b35, (fun n ks hm => by simp [G] at hm), def_ok T A42 F35 sc_extended ck_extended (rd_pure tabA (sub_cons rfl (sub_cons rfl (sub_cons rfl (sub_cons rfl sub_nil)))) rfl rfl)⟩
  obtain ⟨fd36, F36⟩ := c.def_ 36 (d := ⟨("least_many", none), "least_many", "least_many", defArgs s_least_many, defBody s_least_many, defScope s_least_many, [], []⟩) rfl
  have b36 : L2.Binds K fd36 ["task", "begin"] [] := F36.bindsN fun _ _ _ _ _ _ us hl => match us, hl with | [_, _], _ => rfl
  have A44 := A43.snoc (x := "least_many") rfl rfl ⟨rfl, He.glo_ok X Gn (c.fact 52 (f := .glo "least_many") rfl), F36.kp, b36, (fun n ks hm => by simp [G] at hm), def_ok T A43 F36 sc_least_many ck_least_many (rd_pure tabA (sub_cons rfl sub_nil) rfl rfl)⟩
  obtain ⟨fd37, F37⟩ := c.def_ 37 (d := ⟨("fewest", none), "fewest", "fewest", defArgs s_fewest, defBody s_fewest, defScope s_fewest, [], []⟩) rfl
  have b37 : L2.Binds K fd37 ["task"] [] := F37.bindsN fun _ _ _ _ _ _ us hl => match us, hl with | [_], _ => rfl
  have A45 := A44.snoc (x := "fewest") rfl rfl ⟨rfl, He.glo_ok X Gn (c.fact 53 (f := .glo "fewest") rfl), F37.kp, b37, (fun n ks hm => by simp [G] at hm), def_ok T A44 F37 sc_fewest ck_fewest (rd_pure tabA (sub_cons rfl (sub_cons rfl sub_nil)) rfl rfl)⟩
  obtain ⟨fd38, F38⟩ := c.def_ 38 (d := ⟨("all_found", none), "all_found", "all_found", defArgs s_all_found, defBody s_all_found, defScope s_all_found, [], []⟩) rfl
  have b38 : L2.Binds K fd38 ["task"] [] := F38.bindsN fun _ _ _ _ _ _ us hl => match us, hl with | [_], _ => rfl
  have A46 := A45.snoc (x := "all_found") rfl rfl ⟨rfl, He.glo_ok X Gn (c.fact 54 (f := .glo "all_found") rfl), F38.kp, b38, (fun n ks hm => by simp [G] at hm), def_ok T A45 F38 sc_all_found ck_all_found (rd_pure tabA (sub_cons rfl (sub_cons rfl (sub_cons rfl sub_nil))) rfl rfl)⟩
  obtain ⟨fd39, F39⟩ := c.def_ 39 (d := ⟨("best_code", none), "best_code", "best_code", defArgs s_best_code, defBody s_best_code, defScope s_best_code, [], []⟩) rfl
  have b39 : L2.Binds K fd39 ["task"] [] := F39.bindsN fun _ _ _ _ _ _ us hl => match us, hl with | [_], _ => rfl
  have A47 := A46.snoc (x := "best_code") rfl rfl ⟨rfl, He.glo_ok X Gn (c.fact 55 (f := .glo "best_code") rfl), F39.kp, b39, (fun n ks hm => by simp [G] at hm), def_ok T A46 F39 sc_best_code ck_best_code (rd_pure tabA (sub_cons rfl (sub_cons rfl sub_nil)) rfl rfl)⟩
  obtain ⟨fd40, F40⟩ := c.def_ 40 (d := ⟨("tells_more", none), "tells_more", "tells_more", defArgs s_tells_more, defBody s_tells_more, defScope s_tells_more, [], []⟩) rfl
  have A67 := A47.gapB (m := 67) (by decide +kernel) (by decide)
  have b40 : L2.Binds K fd40 ["task", "basis"] [] := F40.bindsN fun _ _ _ _ _ _ us hl => match us, hl with | [_, _], _ => rfl
  have A68 := A67.snoc (x := "tells_more") rfl rfl ⟨rfl, He.glo_ok X Gn (c.fact 56 (f := .glo "tells_more") rfl), F40.kp, b40, (fun n ks hm => by simp [G] at hm), def_ok T A67 F40 sc_tells_more ck_tells_more (rd_pure tabA (sub_cons rfl sub_nil) rfl rfl)⟩
  obtain ⟨fd41, F41⟩ := c.def_ 41 (d := ⟨("discreet_bases", none), "discreet_bases", "discreet_bases", defArgs s_discreet_bases, defBody s_discreet_bases, defScope s_discreet_bases, [], []⟩) rfl
  have b41 : L2.Binds K fd41 ["task"] [] := F41.bindsN fun _ _ _ _ _ _ us hl => match us, hl with | [_], _ => rfl
  have A69 := A68.snoc (x := "discreet_bases") rfl rfl ⟨rfl, He.glo_ok X Gn (c.fact 57 (f := .glo "discreet_bases") rfl), F41.kp, b41, (fun n ks hm => by simp [G] at hm), def_ok T A68 F41 sc_discreet_bases ck_discreet_bases (rd_pure tabA (sub_cons rfl (sub_cons rfl (sub_cons rfl (sub_cons rfl (sub_cons rfl sub_nil))))) rfl rfl)⟩
  obtain ⟨fd42, F42⟩ := c.def_ 42 (d := ⟨("fewest_discreet", none), "fewest_discreet", "fewest_discreet", defArgs s_fewest_discreet, defBody s_fewest_discreet, defScope s_fewest_discreet, [], []⟩) rfl
  have b42 : L2.Binds K fd42 ["task"] [] := F42.bindsN fun _ _ _ _ _ _ us hl => match us, hl with | [_], _ => rfl
  have A70 := A69.snoc (x := "fewest_discreet") rfl rfl ⟨rfl, He.glo_ok X Gn (c.fact 58 (f := .glo "fewest_discreet") rfl), F42.kp, b42, (fun n ks hm => by simp [G] at hm), def_ok T A69 F42 sc_fewest_discreet ck_fewest_discreet (rd_pure tabA (sub_cons rfl (sub_cons rfl sub_nil)) rfl rfl)⟩
  obtain ⟨fd43, F43⟩ := c.def_ 43 (d := ⟨("is_discreet", none), "is_discreet", "is_discreet", defArgs s_is_discreet, defBody s_is_discreet, defScope s_is_discreet, [], []⟩) rfl
  have b43 : L2.Binds K fd43 ["task", "code"] [] := F43.bindsN fun _ _ _ _ _ _ us hl => match us, hl with | [_, _], _ => rfl
  have A71 := A70.snoc (x := "is_discreet") rfl rfl ⟨rfl, He.glo_ok X Gn (c.fact 59 (f := .glo "is_discreet") rfl), F43.kp, b43, (fun n ks hm => by simp [G] at hm), def_ok T A70 F43 sc_is_discreet ck_is_discreet (rd_pure tabA (sub_cons rfl (sub_cons rfl (sub_cons rfl (sub_cons rfl sub_nil)))) rfl rfl)⟩
  obtain ⟨fd44, F44⟩ := c.def_ 44 (d := ⟨("discreet_code", none), "discreet_code", "discreet_code", defArgs s_discreet_code, defBody s_discreet_code, defScope s_discreet_code, [], []⟩) rfl
  have b44 : L2.Binds K fd44 ["task"] [] := F44.bindsN fun _ _ _ _ _ _ us hl => match us, hl with | [_], _ => rfl
  have A72 := A71.snoc (x := "discreet_code") rfl rfl ⟨rfl, He.glo_ok X Gn (c.fact 60 (f := .glo "discreet_code") rfl), F44.kp, b44, (fun n ks hm => by simp [G] at hm), def_ok T A71 F44 sc_discreet_code ck_discreet_code (rd_pure tabA (sub_cons rfl (sub_cons rfl (sub_cons rfl sub_nil))) rfl rfl)⟩
  obtain ⟨fd45, F45⟩ := c.def_ 45 (d := ⟨("survives", none), "survives", "survives", defArgs s_survives, defBody s_survives, defScope s_survives, [], []⟩) rfl
  have b45 : L2.Binds K fd45 ["task", "code", "lost"] [] := F45.bindsN fun _ _ _ _ _ _ us hl => match us, hl with | [_, _, _], _ => rfl
  have A73 := A72.snoc (x := "survives") rfl rfl ⟨rfl, He.glo_ok X Gn (c.fact 61 (f := .glo "survives") rfl), F45.kp, b45, (fun n ks hm => by simp [G] at hm), def_ok T A72 F45 sc_survives ck_survives (rd_pure tabA (sub_cons rfl (sub_cons rfl sub_nil)) rfl rfl)⟩
  obtain ⟨fd46, F46⟩ := c.def_ 46 (d := ⟨("is_safe", none), "is_safe", "is_safe", defArgs s_is_safe, defBody s_is_safe, defScope s_is_safe, [], []⟩) rfl
  have b46 : L2.Binds K fd46 ["task", "code", "losses"] [] := F46.bindsN fun _ _ _ _ _ _ us hl => match us, hl with | [_, _, _], _ => rfl
  have A74 := A73.snoc (x := "is_safe") rfl rfl ⟨rfl, He.glo_ok X Gn (c.fact 62 (f := .glo "is_safe") rfl), F46.kp, b46, (fun n ks hm => by simp [G] at hm), def_ok T A73 F46 sc_is_safe ck_is_safe (rd_pure tabA (sub_cons rfl (sub_cons rfl (sub_cons rfl (sub_cons rfl sub_nil)))) rfl rfl)⟩
  obtain ⟨fd47, F47⟩ := c.def_ 47 (d := ⟨("weakest", none), "weakest", "weakest", defArgs s_weakest, defBody s_weakest, defScope s_weakest, [], []⟩) rfl
  have b47 : L2.Binds K fd47 ["task", "code"] [] := F47.bindsN fun _ _ _ _ _ _ us hl => match us, hl with | [_, _], _ => rfl
  have A75 := A74.snoc (x := "weakest") rfl rfl ⟨rfl, He.glo_ok X Gn (c.fact 63 (f := .glo "weakest") rfl), F47.kp, b47, (fun n ks hm => by simp [G] at hm), def_ok T A74 F47 sc_weakest ck_weakest (rd_pure tabA (sub_cons rfl (sub_cons rfl (sub_cons rfl sub_nil))) rfl rfl)⟩
  obtain ⟨fd48, F48⟩ := c.def_ 48 (d := ⟨("_law_lasting", none), "_law_lasting", "_law_lasting", defArgs s__law_lasting, defBody s__law_lasting, defScope s__law_lasting, [], []⟩) rfl
  have A111 := A75.gapB (m := 111) (by decide +kernel) (by decide)
  have b48 : L2.Binds K fd48 ["task", "code"] [] := F48.bindsN fun _ _ _ _ _ _ us hl => match us, hl with | [_, _], _ => rfl
  have A112 := A111.snoc (x := "_law_lasting") rfl rfl ⟨rfl, He.glo_ok X Gn (c.fact 64 (f := .glo "_law_lasting") rfl), F48.kp, b48, (fun n ks hm => by simp [G] at hm), def_ok T A111 F48 sc__law_lasting ck__law_lasting (rd_pure tabA (sub_cons rfl (sub_cons rfl (sub_cons rfl sub_nil))) rfl rfl)⟩
  obtain ⟨fd49, F49⟩ := c.def_ 49 (d := ⟨("law", none), "law", "law", defArgs s_law, defBody s_law, defScope s_law, [], []⟩) rfl
  have A150 := A112.gapB (m := 150) (by decide +kernel) (by decide)
  exact ⟨fd49, F49, def_ok T A150 F49 sc_law ck_law (rd_law rfl)⟩
theorem facts {f : Addr} (X : K.In h) (Gn : h.Ns mainGlobals mg) (hfa : mg ("law" : Str) = some (.ref f)) (c : He.SaysD fa fn K) : ∃ fd : FuncData, (∀ (s : Shared) (v : Value), BindsTo s fd ⟨[v], []⟩ [("script", v)]) ∧ ∀ base : Heap, FnOk P w K mg base (CXA P) 151 f fd ["script"] (spTop K) := by
  have e := hfa.symm.trans (He.glo_ok X Gn (c.fact 65 (f := .glo "law") rfl))
  cases e
  obtain ⟨fd, F⟩ := c.def_ 49 (d := ⟨("law", none), "law", "law", defArgs s_law, defBody s_law, defScope s_law, [], []⟩) rfl
  have b := FunD.bindsA (ps := ["script"]) F fun _ _ _ _ _ _ us hl => match us, hl with | [_], _ => rfl
  refine ⟨fd, fun s v => b s [v] rfl, fun base => top_ok (cx := cxU K) fun sa ns hns => ?_⟩
  obtain ⟨fd2, F2, ok⟩ := chain (P := P) (w := w) (sa := sa) hns X Gn c base
  cases funD_same F F2
  exact ok
end
end L19
open PySem PySem.W PySem.Calls PyProof.Rows
theorem PySem.Challenge.cw_codecast_k19_whole_secrecy_holds : PySem.Challenge.rw_codecast_k19_whole_secrecy.Holds := by
  w_on; o_law
  refine HandSHeadRun.head_any (r := OpenLaw.row PySem.Challenge.rw_codecast_k19_whole_secrecy) (q := view (OpenLaw.row PySem.Challenge.rw_codecast_k19_whole_secrecy).prog [64]) (H := L19.hk) (ob := L19.ob) (M := 6000) (loose := L19.loose) (d := HandSHeadRun.topDef (OpenLaw.row PySem.Challenge.rw_codecast_k19_whole_secrecy).prog 64) (kwd := []) L19.ob_eq
    (by kernel_rfl) (fun s => by kernel_rfl) L19.run (by kernel_rfl) (by kernel_rfl) (by kernel_rfl) (by rfl) (by first | assumption | decide +kernel) (by decide +kernel) ⟨rfl, rfl, rfl, rfl, rfl, by decide +kernel⟩ ?hw ?hc
  case hw => w_witness2
  case hc =>
    refine L2.walk_ofE (l := PySem.Challenge.rw_codecast_k19_whole_secrecy) (n := 63) (k := 151) (x := "script") (CX := Q.CXA (PySem.Challenge.rw_codecast_k19_whole_secrecy).prog) rfl (by decide) (by kernel_rfl) ⟨rfl, by decide, by decide⟩ ?F Q.cx_no
    intro w mg fa h Y G hmg0
    obtain ⟨K, KX, c⟩ := Y
    have hmg : mg ("law" : PySem.Str) = some (.ref fa) := by
      have e : (HandSHeadRun.topDef (OpenLaw.row PySem.Challenge.rw_codecast_k19_whole_secrecy).prog 64).name = ("law" : PySem.Str) := by kernel_rfl
      rw [← e]
      exact hmg0
    obtain ⟨fd, hb, hF⟩ := L19.facts (P := (PySem.Challenge.rw_codecast_k19_whole_secrecy).prog) (w := w) KX G hmg c
    exact ⟨K, fd, Q.spTop K, KX, hb, fun H a ns hl hO hS => ⟨a, ns, rfl, hl, hO, hS, fun _ => rfl⟩, fun base _ _ => hF base⟩
