import PyProof.Rows.All
import Wide.All
import OpenK.AllK
import Wide.FinOn
import HandS.ForMost
import HandS.Deep
import HandS.IsInst
import HandS.DictComp
import HandS.EndTab
import HandS.Star
import HandS.TupAny
import HandS.More
import HandS.Strs
import HandS.SetFor
import KE.KSortedM
import HandS.AnyAll
import HandS.Lambda
import PySem.Challenge.RW_foescome_k16_whole_hands
import HandS.TupLe
import HandS.Nested
import HandS.Conv
import KE.KDictKeyed
import HandS.NamedTupSort
import HandS.EndOwn
set_option Elab.async false
set_option linter.all false
set_option maxRecDepth 100000
/-! Judgements over plain data: an expression in an environment of data has a value that is data; a block ends in an environment or a value. -/
namespace FK
open PySem PySem.Spec PyProof.Rows L2

/-! ### data in the heap: lists are tracked ones -/
mutual
inductive Dq (K : PySem.W.Frag) (H : Hp) : V → PyData → Prop
  | non : Dq K H .non .none
  | bl (b : Bool) : Dq K H (.bl b) (.bool b)
  | int (i : Int) : Dq K H (.int i) (.int i)
  | str (x : Str) : Dq K H (.str x) (.str x)
  | lst {a : Addr} {xs : List V} {ds : List PyData} (h : H a = some (.lst xs)) (r : DqAll K H xs ds) : Dq K H (.ref a) (.list ds)
  | tup {a : Addr} {xs : List V} {ds : List PyData} (h : SqT K H a xs) (r : DqAll K H xs ds) : Dq K H (.ref a) (.tuple ds)
inductive DqAll (K : PySem.W.Frag) (H : Hp) : List V → List PyData → Prop
  | nil : DqAll K H [] []
  | cons {v : V} {vs : List V} {d : PyData} {ds : List PyData} (h : Dq K H v d) (r : DqAll K H vs ds) : DqAll K H (v :: vs) (d :: ds)
end
mutual
theorem dq_dp {K : PySem.W.Frag} {H : Hp} : ∀ (d : PyData) (v : V), Dq K H v d → L2.Dp K H v d
  | .none, _, h => by cases h; exact .non
  | .bool b, _, h => by cases h; exact .bl b
  | .int i, _, h => by cases h; exact .int i
  | .str x, _, h => by cases h; exact .str x
  | .list ds, _, h => by
    cases h with
    | lst hs ha => exact .lst (SqL.of hs) (dq_dpAll ds _ ha)
  | .tuple ds, _, h => by
    cases h with
    | tup hs ha => exact .tup hs (dq_dpAll ds _ ha)
  | .dict _, _, h => by cases h
theorem dq_dpAll {K : PySem.W.Frag} {H : Hp} : ∀ (ds : List PyData) (vs : List V), DqAll K H vs ds → L2.DpAll K H vs ds
  | [], _, h => by cases h; exact .nil
  | d :: ds, _, h => by
    cases h with
    | cons h1 h2 => exact .cons (dq_dp d _ h1) (dq_dpAll ds _ h2)
end

/-! ### worlds -/
/-- what may change (mu), what stays true (J) -/
structure Wd where
  mu : Addr → HO → Prop
  J : Hp → Prop
  mtup : ∀ a xs, ¬ mu a (.tup xs)
  mlst : ∀ a xs, ¬ mu a (.lst xs)
  mfrz : ∀ a o u, ¬ mu a (.frz o u)
  mdk : ∀ a kvs, ¬ mu a (.dK kvs)
  jal : ∀ (H : Hp) (p : Addr) (o : HO), H p = none → J H → J (upd H p o)
  jlst : ∀ (H : Hp) (p : Addr) (xs ys : List V), H p = some (.lst xs) → J H → J (upd H p (.lst ys))
  jdk : ∀ (H : Hp) (p : Addr) (kvs kvs' : List (Key × V)), H p = some (.dK kvs) → J H → J (upd H p (.dK kvs'))
def Ex (W : Wd) (H H' : Hp) : Prop := ∀ a o, H a = some o → ¬ W.mu a o → H' a = some o
section
variable {W : Wd} {H H1 H2 H' : Hp} {K : PySem.W.Frag} {a p : Addr} {o : HO} {xs : List V}
theorem Ex.refl (H : Hp) : Ex W H H := fun _ _ h _ => h
theorem Ex.trans (a : Ex W H H1) (b : Ex W H1 H2) : Ex W H H2 := fun c o h n => b c o (a c o h n) n
theorem Ex.new (h : H p = none) : Ex W H (upd H p o) := fun a u e _ => by
  rw [upd_ne (ne_of_none e h)]
  exact e
theorem Ex.same (h : ∀ b u, H b = some u → H' b = some u) : Ex W H H' := fun b u e _ => h b u e
theorem Ex.mut (e : Ex W H H') (h : H p = none) : Ex W H (upd H' p o) := fun a u ha n => by
  rw [upd_ne (ne_of_none ha h)]
  exact e a u ha n
theorem Ex.rd {u : HO} (e : Ex W H H') (hn : ¬ W.mu a u) (h : Rd H a u) : Rd H' a u := by
  rcases h with h | ⟨o, h⟩
  · exact .inl (e a _ h hn)
  · exact .inr ⟨o, e a _ h (W.mfrz _ _ _)⟩
theorem Ex.seqL (e : Ex W H H') (h : SqL K H a xs) : SqL K H' a xs := by
  rcases h with h | h
  · exact .inl (e.rd (W.mlst _ _) h)
  · exact .inr h
theorem Ex.seqT (e : Ex W H H') (h : SqT K H a xs) : SqT K H' a xs := by
  rcases h with h | h
  · exact .inl (e.rd (W.mtup _ _) h)
  · exact .inr h
mutual
theorem dp_mono (e : Ex W H H') : ∀ (d : PyData) (v : V), Dq K H v d → Dq K H' v d
  | .none, _, h => by cases h; exact .non
  | .bool b, _, h => by cases h; exact .bl b
  | .int i, _, h => by cases h; exact .int i
  | .str x, _, h => by cases h; exact .str x
  | .list ds, _, h => by
    cases h with
    | lst hs ha => exact .lst (e _ _ hs (W.mlst _ _)) (dpAll_mono e ds _ ha)
  | .tuple ds, _, h => by
    cases h with
    | tup hs ha => exact .tup (e.seqT hs) (dpAll_mono e ds _ ha)
  | .dict _, _, h => by cases h
theorem dpAll_mono (e : Ex W H H') : ∀ (ds : List PyData) (vs : List V), DqAll K H vs ds → DqAll K H' vs ds
  | [], _, h => by cases h; exact .nil
  | d :: ds, _, h => by
    cases h with
    | cons h1 h2 => exact .cons (dp_mono e d _ h1) (dpAll_mono e ds _ h2)
end
end

/-- another world: the callee's W' lies within the caller's W -/
structure Sub (W' W : Wd) : Prop where
  mu : ∀ a o, W'.mu a o → W.mu a o
  j : ∀ H, W.J H → W'.J H
  st : ∀ H H', W.J H → Ex W' H H' → W'.J H' → W.J H'
theorem Sub.refl (W : Wd) : Sub W W := ⟨fun _ _ h => h, fun _ h => h, fun _ _ _ _ h => h⟩
theorem Sub.ex {W' W : Wd} {H H' : Hp} (s : Sub W' W) (e : Ex W' H H') : Ex W H H' := fun a o h n => e a o h fun z => n (s.mu a o z)

/-! ### data -/
/-- a value as the environment knows it: data, or the very value -/
inductive AV where
  | d (x : PyData)
  | r (v : V)
  /-- a dict with these ints as keys -/
  | k (ks : List Int)
def AvOk (K : PySem.W.Frag) (H : Hp) (v : V) : AV → Prop
  | .d x => Dq K H v x
  | .r w => v = w
  | .k ks => ∃ a kvs, v = .ref a ∧ H a = some (.dK kvs) ∧ kvs.map (·.1) = ks.map Sum.inl
abbrev AvAll (K : PySem.W.Frag) (H : Hp) : List V → List AV → Prop := Paired fun v a => AvOk K H v a
abbrev Rho := List (Option AV)
structure SlOk (K : PySem.W.Frag) (H : Hp) (σ : L2.St) (ρ : Rho) : Prop where
  len : σ.length = ρ.length
  get : ∀ (i : Nat) (a : AV), ρ[i]? = some (some a) → ∃ v, σ[i]? = some (some v) ∧ AvOk K H v a
/-- ρ' knows less -/
def RLe (ρ' ρ : Rho) : Prop := ρ'.length = ρ.length ∧ ∀ (i : Nat) (a : AV), ρ'[i]? = some (some a) → ρ[i]? = some (some a)
section
variable {W : Wd} {H H1 H2 H' : Hp} {K : PySem.W.Frag} {v : V} {a : AV} {σ : L2.St} {ρ ρ' : Rho}
theorem AvOk.mono (e : Ex W H H') (h : AvOk K H v a) : AvOk K H' v a := by
  cases a with
  | d x => exact dp_mono e x v h
  | r w => exact h
  | k ks =>
    obtain ⟨a, kvs, h1, h2, h3⟩ := h
    exact ⟨a, kvs, h1, e a _ h2 (W.mdk _ _), h3⟩
theorem avAll_mono (e : Ex W H H') : ∀ {vs : List V} {as : List AV}, AvAll K H vs as → AvAll K H' vs as
  | _, _, .nil => .nil
  | _, _, .cons r t => .cons (AvOk.mono e r) (avAll_mono e t)
theorem SlOk.mono (e : Ex W H H') (h : SlOk K H σ ρ) : SlOk K H' σ ρ := ⟨h.len, fun i a hi => by
  obtain ⟨v, e1, r⟩ := h.get i a hi
  exact ⟨v, e1, r.mono e⟩⟩
theorem SlOk.set (h : SlOk K H σ ρ) (i : Nat) (r : AvOk K H v a) : SlOk K H (σ.set i (some v)) (ρ.set i (some a)) := ⟨by rw [List.length_set, List.length_set, h.len], fun j b hj => by
  by_cases hij : i = j
  · subst hij
    by_cases hl : i < ρ.length
    · rw [List.getElem?_set_self hl] at hj
      cases hj
      exact ⟨v, List.getElem?_set_self (by rw [h.len]; exact hl), r⟩
    · rw [List.getElem?_eq_none (by rw [List.length_set]; omega)] at hj
      cases hj
  · rw [List.getElem?_set_ne hij] at hj ⊢
    exact h.get j b hj⟩
theorem SlOk.wipe (h : SlOk K H σ ρ) (i : Nat) : SlOk K H (σ.set i none) (ρ.set i none) := ⟨by rw [List.length_set, List.length_set, h.len], fun j b hj => by
  by_cases hij : i = j
  · subst hij
    by_cases hl : i < ρ.length
    · rw [List.getElem?_set_self hl] at hj
      cases hj
    · rw [List.getElem?_eq_none (by rw [List.length_set]; omega)] at hj
      cases hj
  · rw [List.getElem?_set_ne hij] at hj ⊢
    exact h.get j b hj⟩
theorem SlOk.le (h : SlOk K H σ ρ) (l : RLe ρ' ρ) : SlOk K H σ ρ' := ⟨h.len.trans l.1.symm, fun i a hi => h.get i a (l.2 i a hi)⟩
theorem RLe.refl (ρ : Rho) : RLe ρ ρ := ⟨rfl, fun _ _ h => h⟩
theorem RLe.of_eq (h : ρ' = ρ) : RLe ρ' ρ := by rw [h]; exact RLe.refl _
theorem RLe.trans {ρ1 ρ2 ρ3 : Rho} (a : RLe ρ1 ρ2) (b : RLe ρ2 ρ3) : RLe ρ1 ρ3 := ⟨a.1.trans b.1, fun i x h => b.2 i x (a.2 i x h)⟩
theorem RLe.drop (ρ : Rho) (i : Nat) : RLe (ρ.set i none) ρ := ⟨List.length_set, fun j b hj => by
  by_cases hij : i = j
  · subst hij
    by_cases hl : i < ρ.length
    · rw [List.getElem?_set_self hl] at hj
      cases hj
    · rw [List.getElem?_eq_none (by rw [List.length_set]; omega)] at hj
      cases hj
  · rw [List.getElem?_set_ne hij] at hj
    exact hj⟩
theorem RLe.set (h : RLe ρ' ρ) (i : Nat) (x : Option AV) : RLe (ρ'.set i x) (ρ.set i x) := ⟨by rw [List.length_set, List.length_set, h.1], fun j b hj => by
  by_cases hij : i = j
  · subst hij
    by_cases hl : i < ρ'.length
    · rw [List.getElem?_set_self hl] at hj
      rw [List.getElem?_set_self (by rw [← h.1]; exact hl)]
      exact hj
    · rw [List.getElem?_eq_none (by rw [List.length_set]; omega)] at hj
      cases hj
  · rw [List.getElem?_set_ne hij] at hj ⊢
    exact h.2 j b hj⟩
end

/-! ### reading data -/
section
variable {K : PySem.W.Frag} {H : Hp} {v : V}
theorem dp_int {i : Int} (h : Dq K H v (.int i)) : v = .int i := by cases h; rfl
theorem dp_bl {b : Bool} (h : Dq K H v (.bool b)) : v = .bl b := by cases h; rfl
theorem dp_non (h : Dq K H v .none) : v = .non := by cases h; rfl
theorem dp_tup {ds : List PyData} (h : Dq K H v (.tuple ds)) : ∃ a xs, v = .ref a ∧ SqT K H a xs ∧ DqAll K H xs ds := by
  cases h with
  | tup hs ha => exact ⟨_, _, rfl, hs, ha⟩
theorem dp_lst {ds : List PyData} (h : Dq K H v (.list ds)) : ∃ a xs, v = .ref a ∧ H a = some (.lst xs) ∧ DqAll K H xs ds := by
  cases h with
  | lst hs ha => exact ⟨_, _, rfl, hs, ha⟩
theorem dpAll_len : ∀ {xs : List V} {ds : List PyData}, DqAll K H xs ds → xs.length = ds.length
  | _, [], h => by cases h; rfl
  | _, d :: ds, h => by
    cases h with
    | cons _ h2 => rw [List.length_cons, List.length_cons, dpAll_len h2]
theorem dpAll_get : ∀ {xs : List V} {ds : List PyData} {i : Nat} {d : PyData}, DqAll K H xs ds → ds[i]? = some d → ∃ x, xs[i]? = some x ∧ Dq K H x d
  | _, [], i, d, h, e => by simp at e
  | _, c :: ds, 0, d, h, e => by
    cases h with
    | cons h1 _ =>
      simp at e
      subst e
      exact ⟨_, rfl, h1⟩
  | _, c :: ds, i + 1, d, h, e => by
    cases h with
    | cons _ h2 =>
      obtain ⟨x, e1, r⟩ := dpAll_get (i := i) (d := d) h2 (by simpa using e)
      exact ⟨x, by simpa using e1, r⟩
theorem dpAll_append : ∀ {xs ys : List V} {ds es : List PyData}, DqAll K H xs ds → DqAll K H ys es → DqAll K H (xs ++ ys) (ds ++ es)
  | _, _, [], _, h, s => by cases h; exact s
  | _, _, d :: ds, _, h, s => by
    cases h with
    | cons h1 h2 => exact .cons h1 (dpAll_append h2 s)
theorem dpAll_ints : ∀ {xs : List V} {ns : List Int}, DqAll K H xs (ns.map .int) → xs = ns.map V.int
  | _, [], h => by
    have h' : DqAll K H _ [] := h
    cases h'; rfl
  | _, n :: ns, h => by
    have h' : DqAll K H _ (.int n :: ns.map .int) := h
    cases h' with
    | cons h1 h2 => rw [dp_int h1, dpAll_ints h2]; rfl
theorem ints_dpAll : ∀ (ns : List Int), DqAll K H (ns.map V.int) (ns.map .int)
  | [] => .nil
  | n :: ns => .cons (.int n) (ints_dpAll ns)
theorem dpAll_bls : ∀ {xs : List V} {bs : List Bool}, DqAll K H xs (bs.map .bool) → xs = bs.map V.bl
  | _, [], h => by
    have h' : DqAll K H _ [] := h
    cases h'; rfl
  | _, b :: bs, h => by
    have h' : DqAll K H _ (.bool b :: bs.map .bool) := h
    cases h' with
    | cons h1 h2 => rw [dp_bl h1, dpAll_bls h2]; rfl
theorem bls_dpAll : ∀ (bs : List Bool), DqAll K H (bs.map V.bl) (bs.map .bool)
  | [] => .nil
  | b :: bs => .cons (.bl b) (bls_dpAll bs)
end

/-! ### the judgements -/
inductive Out where
  | nx (ρ : Rho)
  | rt (a : AV)
section
variable (K : PySem.W.Frag) (W : Wd) (ρ : Rho)
def tE (a : AV) : TE := fun σ H Q => W.J H ∧ SlOk K H σ ρ ∧ ∀ v H', Ex W H H' → W.J H' → AvOk K H' v a → Q v H'
def tT (b : Bool) : TT := fun σ H Q => W.J H ∧ SlOk K H σ ρ ∧ ∀ H', Ex W H H' → W.J H' → Q b H'
def tA (as : List AV) : TA := fun σ H Q => W.J H ∧ SlOk K H σ ρ ∧ ∀ vs H', Ex W H H' → W.J H' → AvAll K H' vs as → Q vs H'
def tS (o : Out) : TS := fun D σ H => W.J H ∧ SlOk K H σ ρ ∧ match o with
  | .nx ρ' => ∀ σ' H', Ex W H H' → W.J H' → SlOk K H' σ' ρ' → D.nx σ' H'
  | .rt a => ∀ v H', Ex W H H' → W.J H' → AvOk K H' v a → D.rt v H'
end
abbrev DE (X : Cx) (W : Wd) (ρ : Rho) (e : Expr) (a : AV) : Prop := PE X e (tE X.K W ρ a)
abbrev DT (X : Cx) (W : Wd) (ρ : Rho) (e : Expr) (b : Bool) : Prop := PT X e (tT X.K W ρ b)
abbrev DW (X : Cx) (W : Wd) (ρ : Rho) (e : Expr) (b : Bool) : Prop := PW X e (tT X.K W ρ b)
abbrev DA (X : Cx) (W : Wd) (ρ : Rho) (es : List Expr) (as : List AV) : Prop := PA X es (tA X.K W ρ as)
abbrev DS (X : Cx) (W : Wd) (ρ : Rho) (st : Stmt) (o : Out) : Prop := PS X st (tS X.K W ρ o)
abbrev DSs (X : Cx) (W : Wd) (ρ : Rho) (sts : List Stmt) (o : Out) : Prop := PSs X sts (tS X.K W ρ o)

section
variable {X : Cx} {e : Expr} {es : List Expr} {st : Stmt} {sts : List Stmt}
theorem pe_imp {t t' : TE} (h : PE X e t) (f : ∀ σ H Q, t' σ H Q → t σ H Q) : PE X e t' := ⟨fun pins s σ H Q I q => h.run pins s σ H Q I (f σ H Q q)⟩
theorem pt_imp {t t' : TT} (h : PT X e t) (f : ∀ σ H Q, t' σ H Q → t σ H Q) : PT X e t' := ⟨fun pins s σ H Q I q => h.run pins s σ H Q I (f σ H Q q)⟩
theorem pw_imp {t t' : TT} (h : PW X e t) (f : ∀ σ H Q, t' σ H Q → t σ H Q) : PW X e t' := ⟨fun wh pins s σ H Q I q => h.run wh pins s σ H Q I (f σ H Q q)⟩
theorem pa_imp {t t' : TA} (h : PA X es t) (f : ∀ σ H Q, t' σ H Q → t σ H Q) : PA X es t' := ⟨fun pos pins s σ H Q I q => h.run pos pins s σ H Q I (f σ H Q q)⟩
theorem ps_imp {t t' : TS} (h : PS X st t) (f : ∀ D σ H, t' D σ H → t D σ H) : PS X st t' := ⟨fun pins s σ H D I q => h.run pins s σ H D I (f D σ H q)⟩
theorem pss_imp {t t' : TS} (h : PSs X sts t) (f : ∀ D σ H, t' D σ H → t D σ H) : PSs X sts t' := ⟨fun pins s σ H D I q => h.run pins s σ H D I (f D σ H q)⟩
theorem pe_when {C : Prop} {t : TE} (h : C → PE X e t) : PE X e (fun σ H Q => C ∧ t σ H Q) := ⟨fun pins s σ H Q I q => (h q.1).run pins s σ H Q I q.2⟩
theorem pt_when {C : Prop} {t : TT} (h : C → PT X e t) : PT X e (fun σ H Q => C ∧ t σ H Q) := ⟨fun pins s σ H Q I q => (h q.1).run pins s σ H Q I q.2⟩
theorem pw_when {C : Prop} {t : TT} (h : C → PW X e t) : PW X e (fun σ H Q => C ∧ t σ H Q) := ⟨fun wh pins s σ H Q I q => (h q.1).run wh pins s σ H Q I q.2⟩
theorem pss_when {C : Prop} {t : TS} (h : C → PSs X sts t) : PSs X sts (fun D σ H => C ∧ t D σ H) := ⟨fun pins s σ H D I q => (h q.1).run pins s σ H D I q.2⟩
theorem pe_all {A : Type} {C : A → Prop} {t : A → TE} (h : ∀ i, C i → PE X e (t i)) : PE X e (fun σ H Q => ∃ i, C i ∧ t i σ H Q) := ⟨fun pins s σ H Q I ⟨i, c, q⟩ => (h i c).run pins s σ H Q I q⟩
theorem pt_all {A : Type} {C : A → Prop} {t : A → TT} (h : ∀ i, C i → PT X e (t i)) : PT X e (fun σ H Q => ∃ i, C i ∧ t i σ H Q) := ⟨fun pins s σ H Q I ⟨i, c, q⟩ => (h i c).run pins s σ H Q I q⟩
theorem pts_all {A : Type} {C : A → Prop} {t : A → TT} (h : ∀ i, C i → PTs X es (t i)) : PTs X es (fun σ H Q => ∃ i, C i ∧ t i σ H Q) := ⟨fun pins s σ H Q I ⟨i, c, q⟩ => (h i c).run pins s σ H Q I q⟩
theorem pss_all {A : Type} {C : A → Prop} {t : A → TS} (h : ∀ i, C i → PSs X sts (t i)) : PSs X sts (fun D σ H => ∃ i, C i ∧ t i D σ H) := ⟨fun pins s σ H D I ⟨i, c, q⟩ => (h i c).run pins s σ H D I q⟩
end

/-! ### expressions -/
section
variable {X : Cx} {W : Wd} {ρ ρ' : Rho} {e e1 e2 : Expr} {es rest : List Expr} {a b c : AV} {as : List AV} {pos : Pos} {x y z : Bool}
theorem de_le (l : RLe ρ' ρ) (h : DE X W ρ' e a) : DE X W ρ e a := pe_imp h fun σ H Q ⟨j, s, q⟩ => ⟨j, s.le l, q⟩
theorem de_var (i : Nat) {n : Str} {p : Pos} (hr : ρ[i]? = some (some a)) (hN : X.N[i]? = some n := by rfl) (hv : Vis X.env.scope n := by first | exact Or.inl rfl | exact Or.inr (Or.inl rfl) | exact Or.inr (Or.inr rfl)) (hd : (n == ("__debug__" : Str)) = false := by decide)
    (hcd : (n == ("__classdict__" : Str)) = false := by decide) : DE X W ρ (.Name n p) a :=
  pe_imp (pe_var hN hv hd hcd) fun σ H Q ⟨j, s, q⟩ => by
    obtain ⟨v, e, r⟩ := s.get i a hr
    exact ⟨v, e, q v H (Ex.refl H) j r⟩
theorem de_c {v : V} {t : PyData} (h : PE X e (tC v)) (hv : ∀ K H, Dq K H v t) : DE X W ρ e (.d t) := pe_imp h fun σ H Q ⟨j, s, q⟩ => q v H (Ex.refl H) j (hv _ _)
theorem de_int {i : Int} {j p} : DE X W ρ (.Constant (.int i) j p) (.d (.int i)) := de_c pe_int fun _ _ => .int i
theorem de_bl {i : Bool} {j p} : DE X W ρ (.Constant (.bool i) j p) (.d (.bool i)) := de_c pe_bl fun _ _ => .bl i
theorem de_non {j p} : DE X W ρ (.Constant .none j p) (.d .none) := de_c pe_non fun _ _ => .non
theorem de_gint {n : Str} {i : Int} {t : Tok} {p : Pos} (hm : X.mg n = some (.int i t)) (hg : Gl X n := by rfl) (hd : (n == ("__debug__" : Str)) = false := by decide) : DE X W ρ (.Name n p) (.d (.int i)) :=
  de_c (pe_glob (v := .int i) hg hm ⟨t, rfl⟩ hd) fun _ _ => .int i
theorem de_bltn {n : Str} {v : V} {u : Value} {p : Pos} (hm : X.mg n = none) (hv : bootBuiltins n = some u) (r : RelV v u) (hg : Gl X n := by rfl) (hn : n ≠ "__name__" := by decide) (hd : (n == ("__debug__" : Str)) = false := by decide) : DE X W ρ (.Name n p) (.r v) :=
  pe_imp (pe_bltn hg hm hv r hn hd) fun σ H Q ⟨j, s, q⟩ => q v H (Ex.refl H) j rfl
/-- what an operation on values gives -/
def RvOk (K : PySem.W.Frag) (W : Wd) (r : R2) (a b c : AV) : Prop := ∀ x y H, AvOk K H x a → AvOk K H y b → W.J H → ∀ Q : VK, (∀ v H', Ex W H H' → W.J H' → AvOk K H' v c → Q v H') → r x y H Q
theorem de_op {op : Operator} {r : R2} (ho : OpR X (binaryOp op) r) (ha : DE X W ρ e1 a) (hb : DE X W ρ e2 b) (hr : RvOk X.K W r a b c) : DE X W ρ (.BinOp e1 op e2 pos) c :=
  pe_imp (pe_op ho ha hb) fun σ H Q ⟨j, s, q⟩ => ⟨j, s, fun v H1 x1 j1 r1 => ⟨j1, s.mono x1, fun u H2 x2 j2 r2 => hr v u H2 (r1.mono x2) r2 j2 Q fun w' H3 x3 j3 r3 => q w' H3 ((x1.trans x2).trans x3) j3 r3⟩⟩
theorem de_cmp {op : CmpOp} {r : R2} (ho : OpR X (compareOp op) r) (ha : DE X W ρ e1 a) (hb : DE X W ρ e2 b) (hr : RvOk X.K W r a b c) (hm : behindInMarks op e2 = false) : DE X W ρ (.Compare e1 [op] [e2] pos) c :=
  pe_imp (pe_cmpR ho ha hb hm) fun σ H Q ⟨j, s, q⟩ => ⟨j, s, fun v H1 x1 j1 r1 => ⟨j1, s.mono x1, fun u H2 x2 j2 r2 => hr v u H2 (r1.mono x2) r2 j2 Q fun w' H3 x3 j3 r3 => q w' H3 ((x1.trans x2).trans x3) j3 r3⟩⟩
theorem dt_cmp {op : CmpOp} {r : R2} (ho : OpR X (compareOp op) r) (ha : DE X W ρ e1 a) (hb : DE X W ρ e2 b) (hr : RvOk X.K W r a b (.d (.bool x))) (hm : behindInMarks op e2 = false) : DT X W ρ (.Compare e1 [op] [e2] pos) x :=
  pt_imp (pt_cmpR ho ha hb hm) fun σ H Q ⟨j, s, q⟩ => ⟨j, s, fun v H1 x1 j1 r1 => ⟨j1, s.mono x1, fun u H2 x2 j2 r2 => hr v u H2 (r1.mono x2) r2 j2 _ fun w' H3 x3 j3 r3 => ⟨x, dp_bl r3, q H3 ((x1.trans x2).trans x3) j3⟩⟩⟩
/-- two ints -/
theorem rv_I0 {K : PySem.W.Frag} {g : Int → Int → V} {i k : Int} {t : PyData} (h : ∀ K H, Dq K H (g i k) t) : RvOk K W (rI0 g) (.d (.int i)) (.d (.int k)) (.d t) := fun x y H h1 h2 j Q q => ⟨i, k, dp_int h1, dp_int h2, q _ H (Ex.refl H) j (h _ _)⟩
theorem rv_I {K : PySem.W.Frag} {C : Int → Int → Prop} {g : Int → Int → V} {i k : Int} {t : PyData} (hc : C i k) (h : ∀ K H, Dq K H (g i k) t) : RvOk K W (rI C g) (.d (.int i)) (.d (.int k)) (.d t) := fun x y H h1 h2 j Q q => ⟨i, k, dp_int h1, dp_int h2, hc, q _ H (Ex.refl H) j (h _ _)⟩
theorem de_add {i k : Int} (ha : DE X W ρ e1 (.d (.int i))) (hb : DE X W ρ e2 (.d (.int k))) : DE X W ρ (.BinOp e1 .Add e2 pos) (.d (.int (i + k))) := de_op op_add ha hb (rv_I0 fun _ _ => .int _)
theorem de_sub {i k : Int} (ha : DE X W ρ e1 (.d (.int i))) (hb : DE X W ρ e2 (.d (.int k))) : DE X W ρ (.BinOp e1 .Sub e2 pos) (.d (.int (i - k))) := de_op op_sub ha hb (rv_I0 fun _ _ => .int _)
theorem dt_lt {i k : Int} (ha : DE X W ρ e1 (.d (.int i))) (hb : DE X W ρ e2 (.d (.int k))) : DT X W ρ (.Compare e1 [.Lt] [e2] pos) (decide (i < k)) := dt_cmp op_lt ha hb (rv_I0 fun _ _ => .bl _) (nomark _)
theorem dt_gt {i k : Int} (ha : DE X W ρ e1 (.d (.int i))) (hb : DE X W ρ e2 (.d (.int k))) : DT X W ρ (.Compare e1 [.Gt] [e2] pos) (decide (k < i)) := dt_cmp op_gt ha hb (rv_I0 fun _ _ => .bl _) (nomark _)
theorem rv_eqI {K : PySem.W.Frag} {i k : Int} : RvOk K W rEq (.d (.int i)) (.d (.int k)) (.d (.bool (decide (i = k)))) := fun u v H h1 h2 j Q q => by
  rw [dp_int h1, dp_int h2]
  refine ⟨rfl, q _ H (Ex.refl H) j ?_⟩
  have e : decide (V.int i = V.int k) = decide (i = k) := by rw [dec_int]; exact Bool.beq_eq_decide_eq _ _
  rw [e]
  exact .bl _
theorem rv_neI {K : PySem.W.Frag} {i k : Int} : RvOk K W rNe (.d (.int i)) (.d (.int k)) (.d (.bool (!decide (i = k)))) := fun u v H h1 h2 j Q q => by
  rw [dp_int h1, dp_int h2]
  refine ⟨rfl, q _ H (Ex.refl H) j ?_⟩
  have e : decide (V.int i = V.int k) = decide (i = k) := by rw [dec_int]; exact Bool.beq_eq_decide_eq _ _
  rw [e]
  exact .bl _
theorem rv_neB {K : PySem.W.Frag} {i k : Bool} : RvOk K W rNe (.d (.bool i)) (.d (.bool k)) (.d (.bool (!decide (i = k)))) := fun u v H h1 h2 j Q q => by
  rw [dp_bl h1, dp_bl h2]
  refine ⟨rfl, q _ H (Ex.refl H) j ?_⟩
  have e : decide (V.bl i = V.bl k) = decide (i = k) := by cases i <;> cases k <;> rfl
  rw [e]
  exact .bl _
theorem rv_eqB {K : PySem.W.Frag} {i k : Bool} : RvOk K W rEq (.d (.bool i)) (.d (.bool k)) (.d (.bool (decide (i = k)))) := fun u v H h1 h2 j Q q => by
  rw [dp_bl h1, dp_bl h2]
  refine ⟨rfl, q _ H (Ex.refl H) j ?_⟩
  have e : decide (V.bl i = V.bl k) = decide (i = k) := by cases i <;> cases k <;> rfl
  rw [e]
  exact .bl _
theorem dt_eqI {i k : Int} (ha : DE X W ρ e1 (.d (.int i))) (hb : DE X W ρ e2 (.d (.int k))) : DT X W ρ (.Compare e1 [.Eq] [e2] pos) (decide (i = k)) := dt_cmp op_eq ha hb rv_eqI (nomark _)
theorem dt_neI {i k : Int} (ha : DE X W ρ e1 (.d (.int i))) (hb : DE X W ρ e2 (.d (.int k))) : DT X W ρ (.Compare e1 [.NotEq] [e2] pos) (!decide (i = k)) := dt_cmp op_ne ha hb rv_neI (nomark _)
theorem de_eqI {i k : Int} (ha : DE X W ρ e1 (.d (.int i))) (hb : DE X W ρ e2 (.d (.int k))) : DE X W ρ (.Compare e1 [.Eq] [e2] pos) (.d (.bool (decide (i = k)))) := de_cmp op_eq ha hb rv_eqI (nomark _)
theorem de_gt {i k : Int} (ha : DE X W ρ e1 (.d (.int i))) (hb : DE X W ρ e2 (.d (.int k))) : DE X W ρ (.Compare e1 [.Gt] [e2] pos) (.d (.bool (decide (k < i)))) := de_cmp op_gt ha hb (rv_I0 fun _ _ => .bl _) (nomark _)
/-- items -/
theorem rv_ixT {K : PySem.W.Frag} {ds : List PyData} {i : Int} {k : Nat} {t : PyData} (hi : i = (k : Nat)) (h : ds[k]? = some t) : RvOk K W (rIxT K) (.d (.tuple ds)) (.d (.int i)) (.d t) := fun x y H h1 h2 j Q q => by
  obtain ⟨p, xs, rfl, hs, ha⟩ := dp_tup h1
  obtain ⟨v, e, r⟩ := dpAll_get ha h
  subst hi
  exact ⟨p, xs, (k : Nat), v, rfl, dp_int h2, hs, atI_nat e, q _ H (Ex.refl H) j r⟩
theorem rv_ixL {K : PySem.W.Frag} {ds : List PyData} {i : Int} {k : Nat} {t : PyData} (hi : i = (k : Nat)) (h : ds[k]? = some t) : RvOk K W (rIxL K) (.d (.list ds)) (.d (.int i)) (.d t) := fun x y H h1 h2 j Q q => by
  obtain ⟨p, xs, rfl, hs, ha⟩ := dp_lst h1
  obtain ⟨v, e, r⟩ := dpAll_get ha h
  subst hi
  exact ⟨p, xs, (k : Nat), v, rfl, dp_int h2, SqL.of hs, atI_nat e, q _ H (Ex.refl H) j r⟩
theorem de_ixT {ds : List PyData} {i : Int} {t : PyData} (k : Nat) (ha : DE X W ρ e1 (.d (.tuple ds))) (hb : DE X W ρ e2 (.d (.int i))) (hi : i = (k : Nat)) (h : ds[k]? = some t) (hs : PlainIx e2 := by exact fun _ _ => rfl) : DE X W ρ (.Subscript e1 e2 pos) (.d t) :=
  pe_imp (pe_ix ix_tup ha hb hs) fun σ H Q ⟨j, s, q⟩ => ⟨j, s, fun v H1 x1 j1 r1 => ⟨j1, s.mono x1, fun u H2 x2 j2 r2 => rv_ixT hi h v u H2 (r1.mono x2) r2 j2 Q fun w' H3 x3 j3 r3 => q w' H3 ((x1.trans x2).trans x3) j3 r3⟩⟩
theorem de_ixL {ds : List PyData} {i : Int} {t : PyData} (k : Nat) (ha : DE X W ρ e1 (.d (.list ds))) (hb : DE X W ρ e2 (.d (.int i))) (hi : i = (k : Nat)) (h : ds[k]? = some t) (hs : PlainIx e2 := by exact fun _ _ => rfl) : DE X W ρ (.Subscript e1 e2 pos) (.d t) :=
  pe_imp (pe_ix ix_list ha hb hs) fun σ H Q ⟨j, s, q⟩ => ⟨j, s, fun v H1 x1 j1 r1 => ⟨j1, s.mono x1, fun u H2 x2 j2 r2 => rv_ixL hi h v u H2 (r1.mono x2) r2 j2 Q fun w' H3 x3 j3 r3 => q w' H3 ((x1.trans x2).trans x3) j3 r3⟩⟩
/-! tests, and, or, not -/
theorem dt_val (h : DE X W ρ e (.d (.bool x))) (he : ∀ whole, isTrue e X.env whole = (do let v ← whole; standAt e.pos; holding [v] (truthy v)) := by intro _; rfl) : DT X W ρ e x :=
  pt_imp (pt_val h he) fun σ H Q ⟨j, s, q⟩ => ⟨j, s, fun v H1 x1 j1 r1 => ⟨x, dp_bl r1, q H1 x1 j1⟩⟩
theorem dt_not (h : DT X W ρ e x) : DT X W ρ (.UnaryOp .Not e pos) (!x) := pt_imp (pt_not h) fun σ H Q ⟨j, s, q⟩ => ⟨j, s, fun H1 x1 j1 => q H1 x1 j1⟩
theorem de_not (h : DE X W ρ e (.d (.bool x))) : DE X W ρ (.UnaryOp .Not e pos) (.d (.bool (!x))) := pe_imp (pe_not h) fun σ H Q ⟨j, s, q⟩ => ⟨j, s, fun v H1 x1 j1 r1 => ⟨x, dp_bl r1, q _ H1 x1 j1 (.bl _)⟩⟩
theorem dw_and1 (h : DT X W ρ e x) : DW X W ρ (.BoolOp .And [e] pos) x := pw_and1 h
theorem dw_or1 (h : DT X W ρ e x) : DW X W ρ (.BoolOp .Or [e] pos) x := pw_or1 h
theorem dw_and (h : DT X W ρ e1 x) (h2 : x = true → DW X W ρ (.BoolOp .And (e2 :: rest) pos) y) : DW X W ρ (.BoolOp .And (e1 :: e2 :: rest) pos) (x && y) :=
  pw_imp (pw_and h (pw_when h2)) fun σ H Q ⟨j, s, q⟩ => ⟨j, s, fun H1 x1 j1 => by
    cases x with
    | true => exact ⟨rfl, j1, s.mono x1, fun H2 x2 j2 => q H2 (x1.trans x2) j2⟩
    | false => exact q H1 x1 j1⟩
theorem dw_or (h : DT X W ρ e1 x) (h2 : x = false → DW X W ρ (.BoolOp .Or (e2 :: rest) pos) y) : DW X W ρ (.BoolOp .Or (e1 :: e2 :: rest) pos) (x || y) :=
  pw_imp (pw_or h (pw_when h2)) fun σ H Q ⟨j, s, q⟩ => ⟨j, s, fun H1 x1 j1 => by
    cases x with
    | false => exact ⟨rfl, j1, s.mono x1, fun H2 x2 j2 => q H2 (x1.trans x2) j2⟩
    | true => exact q H1 x1 j1⟩
theorem dt_w (h : DW X W ρ e x) : DT X W ρ e x := h.pt
theorem dt_is {x' : Bool} (h : DT X W ρ e x) (q : x = x') : DT X W ρ e x' := q ▸ h
theorem de_is {a' : AV} (h : DE X W ρ e a) (q : a = a') : DE X W ρ e a' := q ▸ h
theorem de_one {op} (h : DE X W ρ e a) : DE X W ρ (.BoolOp op [e] pos) a := pe_one h
theorem de_and (h : DE X W ρ e1 (.d (.bool x))) (h2 : x = true → DE X W ρ (.BoolOp .And (e2 :: rest) pos) (.d (.bool y))) : DE X W ρ (.BoolOp .And (e1 :: e2 :: rest) pos) (.d (.bool (x && y))) :=
  pe_imp (pe_and h (pe_when h2)) fun σ H Q ⟨j, s, q⟩ => ⟨j, s, fun v H1 x1 j1 r1 => ⟨x, dp_bl r1, by
    cases x with
    | true => exact ⟨rfl, j1, s.mono x1, fun v2 H2 x2 j2 r2 => q v2 H2 (x1.trans x2) j2 r2⟩
    | false => exact q _ H1 x1 j1 (.bl _)⟩⟩
theorem de_or (h : DE X W ρ e1 (.d (.bool x))) (h2 : x = false → DE X W ρ (.BoolOp .Or (e2 :: rest) pos) (.d (.bool y))) : DE X W ρ (.BoolOp .Or (e1 :: e2 :: rest) pos) (.d (.bool (x || y))) :=
  pe_imp (pe_or h (pe_when h2)) fun σ H Q ⟨j, s, q⟩ => ⟨j, s, fun v H1 x1 j1 r1 => ⟨x, dp_bl r1, by
    cases x with
    | false => exact ⟨rfl, j1, s.mono x1, fun v2 H2 x2 j2 r2 => q v2 H2 (x1.trans x2) j2 r2⟩
    | true => exact q _ H1 x1 j1 (.bl _)⟩⟩
theorem de_if {ec : Expr} (h : DT X W ρ ec x) (h1 : x = true → DE X W ρ e1 a) (h2 : x = false → DE X W ρ e2 a) : DE X W ρ (.IfExp ec e1 e2 pos) a :=
  pe_imp (pe_ifExp h (pe_when h1) (pe_when h2)) fun σ H Q ⟨j, s, q⟩ => ⟨j, s, fun H1 x1 j1 => by
    cases x with
    | true => exact ⟨rfl, j1, s.mono x1, fun v2 H2 x2 j2 r2 => q v2 H2 (x1.trans x2) j2 r2⟩
    | false => exact ⟨rfl, j1, s.mono x1, fun v2 H2 x2 j2 r2 => q v2 H2 (x1.trans x2) j2 r2⟩⟩
/-! arguments, displays -/
theorem da_nil : DA X W ρ [] [] := pa_imp pa_nil fun σ H Q ⟨j, s, q⟩ => q [] H (Ex.refl H) j .nil
theorem da_cons (h : DE X W ρ e a) (h2 : DA X W ρ es as) (hs : starEach (e :: es) X.env = (false, eval e X.env) :: starEach es X.env := by rfl) : DA X W ρ (e :: es) (a :: as) :=
  pa_imp (pa_cons h h2 hs) fun σ H Q ⟨j, s, q⟩ => ⟨j, s, fun v H1 x1 j1 r1 => ⟨j1, s.mono x1, fun vs H2 x2 j2 r2 => q (v :: vs) H2 (x1.trans x2) j2 (.cons (r1.mono x2) r2)⟩⟩
theorem dpAll_of {K : PySem.W.Frag} {H : Hp} : ∀ {vs : List V} {ds : List PyData}, AvAll K H vs (ds.map AV.d) → DqAll K H vs ds
  | _, [], h => by
    have h' : AvAll K H _ [] := h
    cases h'; exact .nil
  | _, d :: ds, h => by
    have h' : AvAll K H _ (.d d :: ds.map AV.d) := h
    cases h' with
    | cons h1 h2 => exact .cons h1 (dpAll_of h2)
theorem avAll_len {K : PySem.W.Frag} {H : Hp} {vs : List V} {as : List AV} (h : AvAll K H vs as) : vs.length = as.length := Paired.length h
theorem de_tup {ds : List PyData} {x1} (h : DA X W ρ es (ds.map AV.d)) (hl : ds.length ≤ sizeLine) : DE X W ρ (.Tuple es x1 pos) (.d (.tuple ds)) :=
  pe_imp (pe_tup h) fun σ H Q ⟨j, s, q⟩ => ⟨j, s, fun vs H1 x1 j1 r1 => ⟨by rw [avAll_len r1, List.length_map]; exact hl, fun p hp => q _ _ (x1.trans (Ex.new hp)) (W.jal _ _ _ hp j1) (.tup (SqT.of upd_same) (dpAll_mono (W := W) (Ex.new hp) _ _ (dpAll_of r1)))⟩⟩
theorem de_lst {ds : List PyData} (h : DA X W ρ es (ds.map AV.d)) (hl : ds.length ≤ sizeLine) : DE X W ρ (.List es pos) (.d (.list ds)) :=
  pe_imp (pe_lst h) fun σ H Q ⟨j, s, q⟩ => ⟨j, s, fun vs H1 x1 j1 r1 => ⟨by rw [avAll_len r1, List.length_map]; exact hl, fun p hp => q _ _ (x1.trans (Ex.new hp)) (W.jal _ _ _ hp j1) (.lst upd_same (dpAll_mono (W := W) (Ex.new hp) _ _ (dpAll_of r1)))⟩⟩
/-! calls of built-ins -/
def RcOk (K : PySem.W.Frag) (W : Wd) (r : List V → Hp → VK → Prop) (as : List AV) (c : AV) : Prop := ∀ vs H, AvAll K H vs as → W.J H → ∀ Q : VK, (∀ v H', Ex W H H' → W.J H' → AvOk K H' v c → Q v H') → r vs H Q
theorem de_callB {id : String} {n : Str} {r : List V → Hp → VK → Prop} {p : Pos} (hc : CallR X (.builtin id) r) (hm : X.mg n = none) (hv : bootBuiltins n = some (.builtin id)) (ha : DA X W ρ (e :: es) as) (hr : RcOk X.K W r as c) (hg : Gl X n := by rfl) (hn : n ≠ "__name__" := by decide) (hdb : (n == ("__debug__" : Str)) = false := by decide)
    (he : starEach (e :: es) X.env = (false, eval e X.env) :: starEach es X.env := by rfl) (hpl : (backTo pos (starEach es X.env)).any (·.1) = false := by rfl) : DE X W ρ (.Call (.Name n p) (e :: es) [] pos) c :=
  pe_imp (pe_callB hc hg hm hv ha hn hdb he hpl) fun σ H Q ⟨j, s, q⟩ => ⟨j, s, fun vs H1 x1 j1 r1 => hr vs H1 r1 j1 Q fun w' H3 x3 j3 r3 => q w' H3 (x1.trans x3) j3 r3⟩
theorem de_callTy {T : String} {n : Str} {r : List V → Hp → VK → Prop} {p : Pos} (hc : CallR X (.type T) r) (hm : X.mg n = none) (hv : bootBuiltins n = some (.type T)) (ha : DA X W ρ (e :: es) as) (hr : RcOk X.K W r as c) (hg : Gl X n := by rfl) (hn : n ≠ "__name__" := by decide) (hdb : (n == ("__debug__" : Str)) = false := by decide)
    (he : starEach (e :: es) X.env = (false, eval e X.env) :: starEach es X.env := by rfl) (hpl : (backTo pos (starEach es X.env)).any (·.1) = false := by rfl) : DE X W ρ (.Call (.Name n p) (e :: es) [] pos) c :=
  pe_imp (pe_callTy hc hg hm hv ha hn hdb he hpl) fun σ H Q ⟨j, s, q⟩ => ⟨j, s, fun vs H1 x1 j1 r1 => hr vs H1 r1 j1 Q fun w' H3 x3 j3 r3 => q w' H3 (x1.trans x3) j3 r3⟩
end

/-! ### defs -/
abbrev Rel := List AV → AV → Prop
def avSp (K : PySem.W.Frag) (W : Wd) (n : Nat) (F : Rel) : Sp := fun vs H Q _ => vs.length = n ∧ W.J H ∧ ∃ as r, AvAll K H vs as ∧ F as r ∧ ∀ v H', Ex W H H' → W.J H' → AvOk K H' v r → Q v H'
/-- the name x calls a def of n parameters that keeps F -/
def Callee (P : Program) (w : World) (K : PySem.W.Frag) (mg : Str → Option Value) (base : Heap) (x : Str) (n k : Nat) (W : Wd) (F : Rel) : Prop :=
  ∃ (f : Addr) (fd : FuncData) (ps : List Str), mg x = some (.ref f) ∧ PySem.W.keepIn K (.ref f) = true ∧ Binds K fd ps [] ∧ ps.length = n ∧ FnOk P w K mg base CX0 k f fd ps (avSp K W ps.length F)
theorem Callee.mono {P : Program} {w : World} {K : PySem.W.Frag} {mg : Str → Option Value} {base : Heap} {x : Str} {n j k : Nat} {W : Wd} {F : Rel} (C : Callee P w K mg base x n j W F) (h : j ≤ k) : Callee P w K mg base x n k W F := by
  obtain ⟨f, fd, ps, h1, h2, h3, h4, h5⟩ := C
  exact ⟨f, fd, ps, h1, h2, h3, h4, h5.mono h⟩
section
variable {X : Cx} {W W' : Wd} {ρ : Rho} {e : Expr} {es : List Expr} {as : List AV} {r : AV} {x : Str} {n k : Nat} {F : Rel} {p pos : Pos}
theorem de_call (C : Callee X.prog X.w X.K X.mg X.base x n k W' F) (sub : Sub W' W) (hr : Room k X.A) (ha : DA X W ρ (e :: es) as) (hF : F as r) (hl : as.length = n := by rfl) (hg : Gl X x := by rfl) (hdb : (x == ("__debug__" : Str)) = false := by decide)
    (he : starEach (e :: es) X.env = (false, eval e X.env) :: starEach es X.env := by rfl) (hpl : (backTo pos (starEach es X.env)).any (·.1) = false := by rfl) : DE X W ρ (.Call (.Name x p) (e :: es) [] pos) r := by
  obtain ⟨f, fd, ps, h1, h2, h3, h4, h5⟩ := C
  refine pe_imp (pe_call h5 hr hg h1 h2 h3 .nil pass0 ha hdb he hpl) fun σ H Q ⟨j, s, q⟩ => ⟨j, s, fun vs H1 x1 j1 r1 => ?_⟩
  show avSp X.K W' ps.length F (vs ++ []) H1 Q E0
  rw [List.append_nil]
  exact ⟨by rw [avAll_len r1, hl, h4], sub.j _ j1, as, r, r1, hF, fun v H2 x2 j2 r2 => q v H2 (x1.trans (sub.ex x2)) (sub.st _ _ j1 x2 j2) r2⟩
end

/-! ### statements -/
section
variable {X : Cx} {W : Wd} {ρ ρ' ρ1 : Rho} {e : Expr} {st : Stmt} {rest sts sts1 sts2 : List Stmt} {a : AV} {o : Out} {pos : Pos} {b : Bool}
theorem dss_le (l : RLe ρ' ρ) (h : DSs X W ρ' sts o) : DSs X W ρ sts o := pss_imp h fun D σ H ⟨j, s, q⟩ => ⟨j, s.le l, q⟩
theorem ds_le (l : RLe ρ' ρ) (h : DS X W ρ' st o) : DS X W ρ st o := ps_imp h fun D σ H ⟨j, s, q⟩ => ⟨j, s.le l, q⟩
theorem dss_to (l : RLe ρ' ρ1) (h : DSs X W ρ sts (.nx ρ1)) : DSs X W ρ sts (.nx ρ') := pss_imp h fun D σ H ⟨j, s, q⟩ => ⟨j, s, fun σ' H' x' j' s' => q σ' H' x' j' (s'.le l)⟩
theorem dss_nil : DSs X W ρ [] (.nx ρ) := pss_imp pss_nil fun D σ H ⟨j, s, q⟩ => q σ H (Ex.refl H) j s
theorem dss_cons (h1 : DS X W ρ st (.nx ρ1)) (h2 : DSs X W ρ1 rest o) : DSs X W ρ (st :: rest) o :=
  pss_imp (pss_cons h1 h2) fun D σ H ⟨j, s, q⟩ => ⟨j, s, fun σ1 H1 x1 j1 s1 => ⟨j1, s1, by
    cases o with
    | nx ρ2 => exact fun σ2 H2 x2 j2 s2 => q σ2 H2 (x1.trans x2) j2 s2
    | rt a => exact fun v H2 x2 j2 r2 => q v H2 (x1.trans x2) j2 r2⟩⟩
/-- a return: what stands behind it is never come to -/
theorem dss_rt (h1 : DS X W ρ st (.rt a)) : DSs X W ρ (st :: rest) (.rt a) :=
  pss_imp (pss_cons h1 (pss_never (sts := rest))) fun D σ H ⟨j, s, q⟩ => ⟨j, s, q⟩
theorem dss_one (h1 : DS X W ρ st o) : DSs X W ρ [st] o := pss_imp (pss_one h1) fun D σ H q => q
theorem ds_ret (h : DE X W ρ e a) : DS X W ρ (.Return (some e) pos) (.rt a) := ps_imp (ps_ret h) fun D σ H ⟨j, s, q⟩ => ⟨j, s, q⟩
theorem ds_expr (h : DE X W ρ e a) (hs : swapsWith e none pos.line X.env = pure false := by rfl) : DS X W ρ (.Expr e pos) (.nx ρ) := ps_imp (ps_expr h hs) fun D σ H ⟨j, s, q⟩ => ⟨j, s, fun v H1 x1 j1 r1 => q σ H1 x1 j1 (s.mono x1)⟩
theorem ds_pass : DS X W ρ (.Pass pos) (.nx ρ) := ps_imp ps_pass fun D σ H ⟨j, s, q⟩ => q σ H (Ex.refl H) j s
theorem ds_set (i : Nat) {n : Str} {p : Pos} (h : DE X W ρ e a) (hN : X.N.Nodup) (hi : X.N[i]? = some n := by rfl) (hx : Loc X.env.scope n := by first | exact Or.inl rfl | exact Or.inr rfl) (hs : swapsWith e (some (.Name n p)) pos.line X.env = pure false := by rfl)
    (hf : X.fn n = true ∨ X.env.scope.names.lookup n = some .local := by first | exact .inl rfl | exact .inr rfl) : DS X W ρ (.Assign [.Name n p] e pos) (.nx (ρ.set i (some a))) :=
  ps_imp (ps_set hN hi hx h hs hf) fun D σ H ⟨j, s, q⟩ => ⟨j, s, fun v H1 x1 j1 r1 => q _ H1 x1 j1 ((s.mono x1).set i r1)⟩
theorem ds_if {ec : Expr} (h : DT X W ρ ec b) (h1 : b = true → DSs X W ρ sts1 o) (h2 : b = false → DSs X W ρ sts2 o) : DS X W ρ (.If ec sts1 sts2 pos) o :=
  ps_imp (ps_if h (pss_when h1) (pss_when h2)) fun D σ H ⟨j, s, q⟩ => ⟨j, s, fun H1 x1 j1 => by
    have q1 : tS X.K W ρ o D σ H1 := ⟨j1, s.mono x1, by
      cases o with
      | nx ρ2 => exact fun σ2 H2 x2 j2 s2 => q σ2 H2 (x1.trans x2) j2 s2
      | rt a => exact fun v H2 x2 j2 r2 => q v H2 (x1.trans x2) j2 r2⟩
    cases b with
    | true => exact ⟨rfl, q1⟩
    | false => exact ⟨rfl, q1⟩⟩
/-- an if that is not taken (a refusal) -/
theorem ds_no {ec : Expr} (h : DT X W ρ ec false) : DS X W ρ (.If ec sts1 [] pos) (.nx ρ) := ds_if h (fun z => by cases z) fun _ => dss_nil
end

/-! ### a def -/
def startR (N : List Str) (as : List AV) : Rho := as.map some ++ List.replicate (N.length - as.length) none
theorem start_ok {K : PySem.W.Frag} {H : Hp} {N : List Str} {vs : List V} {as : List AV} (h : AvAll K H vs as) : SlOk K H (L2.start N vs) (startR N as) := by
  have hl := avAll_len h
  refine ⟨by unfold L2.start startR; simp [hl], fun i a hi => ?_⟩
  unfold startR at hi
  by_cases hlt : i < as.length
  · rw [List.getElem?_append_left (by simpa using hlt), List.getElem?_map] at hi
    obtain ⟨v, e, r⟩ : ∃ v, vs[i]? = some v ∧ AvOk K H v a := by
      have key : ∀ (vs : List V) (as : List AV) (i : Nat), AvAll K H vs as → as[i]? = some a → ∃ v, vs[i]? = some v ∧ AvOk K H v a := by
        intro vs as
        induction as generalizing vs with
        | nil => intro i _ e; simp at e
        | cons b as ih =>
          intro i h e
          cases h with
          | cons r t =>
            cases i with
            | zero =>
              simp at e
              subst e
              exact ⟨_, rfl, r⟩
            | succ i =>
              obtain ⟨v, e1, r1⟩ := ih _ i t (by simpa using e)
              exact ⟨v, by simpa using e1, r1⟩
      cases q : as[i]? with
      | none =>
        rw [q] at hi
        cases hi
      | some b =>
        rw [q] at hi
        cases hi
        exact key vs as i h q
    refine ⟨v, ?_, r⟩
    unfold L2.start
    rw [List.getElem?_append_left (by simpa [hl] using hlt), List.getElem?_map, e]
    rfl
  · rw [List.getElem?_append_right (by simpa using hlt), List.getElem?_replicate] at hi
    split at hi <;> cases hi
def Fits (o : Out) (r : AV) : Prop := match o with
  | .rt a => a = r
  | .nx _ => r = .d .none
section
variable {P : Program} {w : World} {K : PySem.W.Frag} {mg : Str → Option Value} {base : Heap}
theorem av_def {x qual : Str} {st : Stmt} {f : Addr} {fd : FuncData} {N ps : List Str} {k : Nat} {F : Rel} {W : Wd} (Fn : Fun K x qual st f fd) (S : FnScope N ps (defScope st))
    (hbody : ∀ (cdv : Value) (A : Around) (outer : List Env) (s : Shared) (H : Hp), Room k (A.deeper (envOfC qual (defScope st) s.heap.objs.size f cdv)) → ∀ as r, as.length = ps.length → F as r →
      ∃ o, DSs (cxOf CX0 P w K mg base N qual (defScope st) f cdv A outer s H E0).nox W (startR N as) (defBody st) o ∧ Fits o r) : FnOk P w K mg base CX0 (k + 1) f fd ps (avSp K W ps.length F) := by
  refine Fn.ok S (fun vs H Q E h => h.1) (fun cdv A outer s H vs Q E hr h => ?_)
  obtain ⟨hn, hj, as, r, ha, hF, q⟩ := h
  obtain ⟨o, hb, hf⟩ := hbody cdv A outer s H hr as r (by rw [← avAll_len ha, hn]) hF
  refine ⟨_, hb, hj, start_ok ha, ?_⟩
  cases o with
  | rt a =>
    obtain rfl : a = r := hf
    exact fun v H' x' j' r' => q v H' x' j' r'
  | nx ρ' =>
    obtain rfl : r = .d .none := hf
    exact fun σ' H' x' j' _ => q .non H' x' j' .non
theorem callee_of {x : Str} {st : Stmt} {f : Addr} {fd : FuncData} {ps : List Str} {n k : Nat} {F : Rel} {W : Wd} (hm : mg x = some (.ref f)) (Fn : Fun K x x st f fd) (hb : Binds K fd ps []) (hn : ps.length = n) (h : FnOk P w K mg base CX0 k f fd ps (avSp K W ps.length F)) : Callee P w K mg base x n k W F :=
  ⟨f, fd, ps, hm, Fn.kp, hb, hn, h⟩
end
end FK
set_option Elab.async false
set_option linter.all false
set_option maxRecDepth 100000
/-! Loops and comprehensions over data. -/
namespace FK
open PySem PySem.Spec PyProof.Rows L2

/-! ### data without lists within: a list's change does not touch it -/
mutual
def noL : PyData → Bool
  | .list _ => false
  | .tuple ds => noLs ds
  | .dict _ => false
  | _ => true
def noLs : List PyData → Bool
  | [] => true
  | d :: ds => noL d && noLs ds
end
section
variable {H H' : Hp} {K : PySem.W.Frag}
/-- tuples and locked things stand -/
def TupEx (H H' : Hp) : Prop := (∀ a xs, H a = some (.tup xs) → H' a = some (.tup xs)) ∧ ∀ a o u, H a = some (.frz o u) → H' a = some (.frz o u)
theorem TupEx.seqT {a : Addr} {xs : List V} (e : TupEx H H') (h : SqT K H a xs) : SqT K H' a xs := by
  rcases h with (h | ⟨o, h⟩) | h
  · exact .inl (.inl (e.1 _ _ h))
  · exact .inl (.inr ⟨o, e.2 _ _ _ h⟩)
  · exact .inr h
theorem TupEx.lst {p : Addr} {xs ys : List V} (h : H p = some (.lst xs)) : TupEx H (upd H p (.lst ys)) := by
  refine ⟨fun a zs e => ?_, fun a o u e => ?_⟩
  · rw [upd_ne (ne_of e h (by intro z; cases z))]
    exact e
  · rw [upd_ne (ne_of e h (by intro z; cases z))]
    exact e
theorem TupEx.dk {p : Addr} {xs ys : List (Key × V)} (h : H p = some (.dK xs)) : TupEx H (upd H p (.dK ys)) := by
  refine ⟨fun a zs e => ?_, fun a o u e => ?_⟩
  · rw [upd_ne (ne_of e h (by intro z; cases z))]
    exact e
  · rw [upd_ne (ne_of e h (by intro z; cases z))]
    exact e
mutual
theorem dp_noL (e : TupEx H H') : ∀ (d : PyData) (v : V), noL d = true → Dq K H v d → Dq K H' v d
  | .none, _, _, h => by cases h; exact .non
  | .bool b, _, _, h => by cases h; exact .bl b
  | .int i, _, _, h => by cases h; exact .int i
  | .str x, _, _, h => by cases h; exact .str x
  | .list ds, _, n, h => by simp [noL] at n
  | .tuple ds, _, n, h => by
    cases h with
    | tup hs ha => exact .tup (e.seqT hs) (dpAll_noL e ds _ (by simpa [noL] using n) ha)
  | .dict _, _, n, h => by cases h
theorem dpAll_noL (e : TupEx H H') : ∀ (ds : List PyData) (vs : List V), noLs ds = true → DqAll K H vs ds → DqAll K H' vs ds
  | [], _, _, h => by cases h; exact .nil
  | d :: ds, _, n, h => by
    cases h with
    | cons h1 h2 =>
      simp only [noLs, Bool.and_eq_true] at n
      exact .cons (dp_noL e d _ n.1 h1) (dpAll_noL e ds _ n.2 h2)
end
theorem noLs_ints : ∀ ns : List Int, noLs (ns.map .int) = true
  | [] => rfl
  | n :: ns => by
    show (noL (.int n) && noLs (ns.map .int)) = true
    rw [noLs_ints ns]
    simp [noL]
theorem noLs_of {α : Type} {f : α → PyData} : ∀ {xs : List α}, (∀ x ∈ xs, noL (f x) = true) → noLs (xs.map f) = true
  | [], _ => rfl
  | x :: xs, h => by
    show (noL (f x) && noLs (xs.map f)) = true
    rw [h x List.mem_cons_self, noLs_of fun y hy => h y (List.mem_cons_of_mem _ hy)]
    rfl
end

/-! ### what is walked -/
def ItOk (K : PySem.W.Frag) (W : Wd) (J : It) (ds : List AV) (H : Hp) : Prop := ∀ H1, Ex W H H1 →
  (∀ i, i < ds.length → J.go i H1) ∧ (∀ i a x H2, ds[i]? = some a → J.yld i H1 x H2 → H2 = H1 ∧ AvOk K H1 x a) ∧ J.stop ds.length H1
def DI (X : Cx) (W : Wd) (ρ : Rho) (tg it : Expr) (ds : List AV) : Prop := ∃ wi, PI X tg it wi ∧ ∀ σ H R, W.J H → SlOk X.K H σ ρ → (∀ J H', Ex W H H' → W.J H' → ItOk X.K W J ds H' → R J H') → wi σ H R
theorem map_at {α β : Type} {f : α → β} {xs : List α} {i : Nat} {b : β} (h : (xs.map f)[i]? = some b) : ∃ a, xs[i]? = some a ∧ b = f a := by
  rw [List.getElem?_map] at h
  cases q : xs[i]? with
  | none =>
    rw [q] at h
    cases h
  | some a =>
    rw [q] at h
    cases h
    exact ⟨a, rfl, rfl⟩
section
variable {X : Cx} {W : Wd} {ρ : Rho} {tg it : Expr} {ds : List PyData} {pos : Pos}
theorem di_list (h : DE X W ρ it (.d (.list ds))) : DI X W ρ tg it (ds.map AV.d) := by
  refine ⟨_, pi_list h, fun σ H R j s q => ⟨j, s, fun v H1 x1 j1 r1 => ?_⟩⟩
  obtain ⟨a, xs, rfl, hs0, ha⟩ := dp_lst r1
  have hs : SqL X.K H1 a xs := SqL.of hs0
  refine ⟨a, rfl, ⟨xs, hs⟩, q _ H1 x1 j1 fun H2 x2 => ⟨fun i hi => ?_, fun i b x H3 hb hy => ?_, xs, x2.seqL hs, ?_⟩⟩
  · rw [List.length_map] at hi
    obtain ⟨x, e, r⟩ := dpAll_get ha (List.getElem?_eq_getElem hi)
    exact ⟨xs, x, x2.seqL hs, e⟩
  · obtain ⟨d, hd, rfl⟩ := map_at hb
    obtain ⟨x', e, r⟩ := dpAll_get ha hd
    obtain ⟨rfl, hy⟩ := hy
    have e2 := hy xs (x2.seqL hs)
    rw [e] at e2
    cases e2
    exact ⟨rfl, dp_mono x2 _ _ r⟩
  · rw [dpAll_len ha, List.length_map]
    exact Nat.le_refl _
theorem di_tup (h : DE X W ρ it (.d (.tuple ds))) : DI X W ρ tg it (ds.map AV.d) := by
  refine ⟨_, pi_tup h, fun σ H R j s q => ⟨j, s, fun v H1 x1 j1 r1 => ?_⟩⟩
  obtain ⟨a, xs, rfl, hs, ha⟩ := dp_tup r1
  refine ⟨a, rfl, ⟨xs, hs⟩, q _ H1 x1 j1 fun H2 x2 => ⟨fun i hi => ?_, fun i b x H3 hb hy => ?_, xs, x2.seqT hs, ?_⟩⟩
  · rw [List.length_map] at hi
    obtain ⟨x, e, r⟩ := dpAll_get ha (List.getElem?_eq_getElem hi)
    exact ⟨xs, x, x2.seqT hs, e⟩
  · obtain ⟨d, hd, rfl⟩ := map_at hb
    obtain ⟨x', e, r⟩ := dpAll_get ha hd
    obtain ⟨rfl, hy⟩ := hy
    have e2 := hy xs (x2.seqT hs)
    rw [e] at e2
    cases e2
    exact ⟨rfl, dp_mono x2 _ _ r⟩
  · rw [dpAll_len ha, List.length_map]
    exact Nat.le_refl _
theorem itr_ok {K : PySem.W.Frag} {H : Hp} (lo : Int) (n : Nat) : ItOk K W (Itr lo n) ((List.range n).map fun i => AV.d (.int (lo + (i : Nat)))) H := by
  intro H1 x1
  refine ⟨fun i hi => ?_, fun i b x H3 hb hy => ?_, ?_⟩
  · rw [List.length_map, List.length_range] at hi
    exact hi
  · obtain ⟨k, hk, rfl⟩ := map_at hb
    obtain ⟨rfl, rfl⟩ := hy
    have e : k = i := by
      obtain ⟨hl, e⟩ := List.getElem?_eq_some_iff.mp hk
      rw [List.getElem_range] at e
      exact e.symm
    subst e
    exact ⟨rfl, .int _⟩
  · rw [List.length_map, List.length_range]
    exact Nat.le_refl n
theorem di_range1 {a : Expr} {n : Int} {p : Pos} (h : DE X W ρ a (.d (.int n))) (hm : X.mg "range" = none) (h1 : -(2 ^ 62) ≤ n) (h2 : n < 2 ^ 62) (hg : Gl X "range" := by rfl) (hs : starEach [a] X.env = [(false, eval a X.env)] := by rfl) :
    DI X W ρ tg (.Call (.Name "range" p) [a] [] pos) ((List.range n.toNat).map fun i => AV.d (.int (0 + (i : Nat)))) := by
  refine ⟨_, pi_range1 hg hm (da_cons h da_nil hs) hs, fun σ H R j s q => ⟨j, s, fun vs H1 x1 j1 r1 => ?_⟩⟩
  cases r1 with
  | cons r r' =>
    cases r'
    exact ⟨n, by rw [dp_int r], h1, h2, q _ H1 x1 j1 (itr_ok 0 n.toNat)⟩
theorem di_range2 {a b : Expr} {m n : Int} {p : Pos} (h : DE X W ρ a (.d (.int m))) (h' : DE X W ρ b (.d (.int n))) (hm : X.mg "range" = none) (hb : -(2 ^ 62) ≤ m ∧ m < 2 ^ 62 ∧ -(2 ^ 62) ≤ n ∧ n < 2 ^ 62) (hg : Gl X "range" := by rfl) (hs : starEach [a, b] X.env = [(false, eval a X.env), (false, eval b X.env)] := by rfl) (hs2 : starEach [b] X.env = [(false, eval b X.env)] := by rfl) :
    DI X W ρ tg (.Call (.Name "range" p) [a, b] [] pos) ((List.range (n - m).toNat).map fun i => AV.d (.int (m + (i : Nat)))) := by
  refine ⟨_, pi_range2 hg hm (da_cons h (da_cons h' da_nil hs2) (by rw [hs2]; exact hs)) hs hs2, fun σ H R j s q => ⟨j, s, fun vs H1 x1 j1 r1 => ?_⟩⟩
  cases r1 with
  | cons r r' =>
    cases r' with
    | cons r2 r3 =>
      cases r3
      exact ⟨m, n, by rw [dp_int r, dp_int r2], hb, q _ H1 x1 j1 (itr_ok m _)⟩
theorem di_is {ds ds' : List AV} (h : DI X W ρ tg it ds) (e : ds = ds') : DI X W ρ tg it ds' := e ▸ h
end

/-! ### targets -/
def TgOk (K : PySem.W.Frag) (W : Wd) (g : TG) (ρ : Rho) (a : AV) (ρ' : Rho) : Prop := ∀ v σ H (Q : L2.St → Hp → Prop), AvOk K H v a → W.J H → SlOk K H σ ρ → (∀ σ' H', Ex W H H' → W.J H' → SlOk K H' σ' ρ' → Q σ' H') → g v σ H Q
theorem tg_name {K : PySem.W.Frag} {W : Wd} {ρ : Rho} {a : AV} (i : Nat) : TgOk K W (gName i) ρ a (ρ.set i (some a)) := fun v σ H Q r j s q => q _ H (Ex.refl H) j (s.set i r)
theorem tg_two {K : PySem.W.Frag} {W : Wd} {ρ : Rho} {d e : PyData} (i j : Nat) : TgOk K W (gTup K 2 (gCons (gName i) (gCons (gName j) gNil))) ρ (.d (.tuple [d, e])) ((ρ.set i (some (.d d))).set j (some (.d e))) := fun v σ H Q r jj s q => by
  obtain ⟨a, xs, rfl, hs, ha⟩ := dp_tup r
  cases ha with
  | cons h1 h2 =>
    cases h2 with
    | cons h3 h4 =>
      cases h4
      exact ⟨a, _, rfl, hs, rfl, _, _, rfl, _, _, rfl, rfl, q _ H (Ex.refl H) jj ((s.set i (a := .d d) h1).set j (a := .d e) h3)⟩

/-! ### for -/
theorem take_next {α : Type} {xs : List α} {i : Nat} (h : i < xs.length) : xs.take (i + 1) = xs.take i ++ [xs[i]] ∧ xs = xs.take i ++ xs[i] :: xs.drop (i + 1) := by
  refine ⟨List.take_succ_eq_append_getElem h, ?_⟩
  rw [List.getElem_cons_drop, List.take_append_drop]
section
variable {X : Cx} {W : Wd} {ρ : Rho} {tg it : Expr} {body : List Stmt} {pos : Pos} {g : TG} {α : Type}
theorem ds_for (xs : List α) (enc : α → AV) (ρs : List α → Rho) (ρt : List α → α → Rho) (hp : PassesOwn (model X.prog X.w) X.A X.env X.xe) (hc : X.calm = true) (hi : DI X W ρ tg it (xs.map enc)) (hg : PG X tg g) (h0 : RLe (ρs []) ρ)
    (ht : ∀ pre x, TgOk X.K W g (ρs pre) (enc x) (ρt pre x)) (hb : ∀ pre x post, xs = pre ++ x :: post → DSs X W (ρt pre x) body (.nx (ρs (pre ++ [x]))))
    (hs : ∀ x, foldedSetIterable it X.env x = pure x := by intro _; rfl) : DS X W ρ (.For tg it body [] pos) (.nx (ρs xs)) := by
  obtain ⟨wi, pi, hw⟩ := hi
  refine ps_imp (ps_for hp hc pi hg (pss_all (A := List α × α) (C := fun p => ∃ post, xs = p.1 ++ p.2 :: post) (t := fun p => tS X.K W (ρt p.1 p.2) (.nx (ρs (p.1 ++ [p.2])))) fun p ⟨post, e⟩ => hb p.1 p.2 post e) hs) fun D σ H ⟨j, s, q⟩ => ?_
  refine hw σ H _ j s fun J H1 x1 j1 ok => ?_
  refine ⟨fun i m σ' H' => m = xs.length - i ∧ i ≤ xs.length ∧ Ex W H1 H' ∧ W.J H' ∧ SlOk X.K H' σ' (ρs (xs.take i)), ⟨xs.length, by simp, Nat.zero_le _, Ex.refl H1, j1, (s.mono x1).le (by simpa using h0)⟩, ?_⟩
  rintro i m σ' H' ⟨rfl, hle, x2, j2, s2⟩
  obtain ⟨ok1, ok2, ok3⟩ := ok H' x2
  rw [List.length_map] at ok1 ok3
  by_cases hlt : i < xs.length
  · obtain ⟨et, ex⟩ := take_next hlt
    refine .inr ⟨ok1 i hlt, fun σ3 H3 => Ex W H1 H3 ∧ W.J H3 ∧ SlOk X.K H3 σ3 (ρs (xs.take (i + 1))), fun σ3 H3 ⟨x3, j3, s3⟩ => ⟨xs.length - (i + 1), by omega, rfl, hlt, x3, j3, s3⟩, fun v H3 hy => ?_⟩
    obtain ⟨rfl, r⟩ := ok2 i (enc xs[i]) v H3 (by rw [List.getElem?_map, List.getElem?_eq_getElem hlt]; rfl) hy
    refine ht (xs.take i) xs[i] v σ' _ _ r j2 s2 fun σ4 H4 x4 j4 s4 => ⟨(xs.take i, xs[i]), ⟨xs.drop (i + 1), ex⟩, j4, s4, fun σ5 H5 x5 j5 s5 => ⟨(x2.trans x4).trans x5, j5, ?_⟩⟩
    rw [et]
    exact s5
  · have e : i = xs.length := by omega
    subst e
    refine .inl ⟨ok3, q σ' H' (x1.trans x2) j2 ?_⟩
    rw [List.take_length] at s2
    exact s2
/-- for x in .., x a name -/
theorem ds_forN (k : Nat) {n : Str} {p : Pos} (xs : List α) (enc : α → AV) (ρs : List α → Rho) (hN : X.N.Nodup) (hp : PassesOwn (model X.prog X.w) X.A X.env X.xe) (hi : DI X W ρ (.Name n p) it (xs.map enc)) (h0 : RLe (ρs []) ρ)
    (hb : ∀ pre x post, xs = pre ++ x :: post → DSs X W ((ρs pre).set k (some (enc x))) body (.nx (ρs (pre ++ [x])))) (hc : X.calm = true := by rfl) (hk : X.N[k]? = some n := by rfl) (hx : Loc X.env.scope n := by first | exact Or.inl rfl | exact Or.inr rfl)
    (hf : X.fn n = true ∨ X.env.scope.names.lookup n = some .local := by first | exact .inl rfl | exact .inr rfl)
    (hs : ∀ x, foldedSetIterable it X.env x = pure x := by intro _; rfl) : DS X W ρ (.For (.Name n p) it body [] pos) (.nx (ρs xs)) :=
  ds_for xs enc ρs (fun pre x => (ρs pre).set k (some (enc x))) hp hc hi (pg_name hN hk hx hf) h0 (fun _ _ => tg_name k) hb hs
end

/-! ### comprehensions -/
section
variable {X : Cx} {W : Wd} {ρ : Rho} {c : Expr} {b : Bool}
theorem dts_nil : PTs X [] (tT X.K W ρ true) := ⟨fun pins s σ H Q I ⟨j, sl, q⟩ => pts_nil.run pins s σ H Q I (q H (Ex.refl H) j)⟩
theorem dts_one (h : DT X W ρ c b) : PTs X [c] (tT X.K W ρ b) := pts_one h
end
abbrev Blk (X : Cx) (s : Shared) (H : Hp) (scope : Scope) (C : Addr) (cl : List (Str × Addr)) (fp : List Addr) : Cx := X.blk s H scope (compEnvC scope cl C X.env) fp
section
variable {X : Cx} {W : Wd} {ρ : Rho} {tg it elt : Expr} {ifs : List Expr} {scope : Scope} {pos : Pos} {α : Type}
theorem lc_read {K : PySem.W.Frag} {wi : TI} {ρ : Rho} (xs : List α) (enc : α → AV) (p : α → Bool) (f : α → PyData) (k : Nat) (hl : xs.length < sizeLine) (hn : ∀ x ∈ xs, noL (f x) = true)
    (hw : ∀ σ H R, W.J H → SlOk K H σ ρ → (∀ J H', Ex W H H' → W.J H' → ItOk K W J (xs.map enc) H' → R J H') → wi σ H R) :
    ∀ σ H Q, tE K W ρ (.d (.list ((xs.filter p).map f))) σ H Q →
      tLc wi (gName k) (fun σ H Q => ∃ x, x ∈ xs ∧ tT K W (ρ.set k (some (enc x))) (p x) σ H Q) (fun σ H Q => ∃ x, (x ∈ xs ∧ p x = true) ∧ tE K W (ρ.set k (some (enc x))) (.d (f x)) σ H Q) [k] σ H Q := by
  rintro σ H Q ⟨j, s, q⟩
  refine hw σ H _ j s fun J H1 x1 j1 ok D hD => ?_
  have sw : SlOk K H1 (wipe σ [k]) (ρ.set k none) := (s.mono x1).wipe k
  refine ⟨fun i m H' => m = xs.length - i ∧ i ≤ xs.length ∧ Ex W H1 H' ∧ W.J H' ∧ ∃ acc, H' D = some (.lst acc) ∧ DqAll K H' acc (((xs.take i).filter p).map f), ⟨xs.length, by simp, Nat.zero_le _, Ex.new hD, W.jal _ _ _ hD j1, [], upd_same, .nil⟩, ?_⟩
  rintro i m H' ⟨rfl, hle, x2, j2, acc, hacc, da⟩
  obtain ⟨ok1, ok2, ok3⟩ := ok H' x2
  rw [List.length_map] at ok1 ok3
  by_cases hlt : i < xs.length
  · obtain ⟨et, ex⟩ := take_next hlt
    have hmem : xs[i] ∈ xs := List.getElem_mem hlt
    refine .inr ⟨ok1 i hlt, fun H3 => Ex W H1 H3 ∧ W.J H3 ∧ ∃ acc, H3 D = some (.lst acc) ∧ DqAll K H3 acc (((xs.take (i + 1)).filter p).map f), fun H3 ⟨x3, j3, a3⟩ => ⟨xs.length - (i + 1), by omega, rfl, hlt, x3, j3, a3⟩, fun v H3 hy => ?_⟩
    obtain ⟨rfl, r⟩ := ok2 i (enc xs[i]) v H3 (by rw [List.getElem?_map, List.getElem?_eq_getElem hlt]; rfl) hy
    have hset : ∀ v : Option V, wipe ((wipe σ [k]).set k v) [k] = wipe σ [k] := fun v => by
      show ((σ.set k none).set k v).set k none = σ.set k none
      rw [List.set_set, List.set_set]
    have s3 : SlOk K H3 ((wipe σ [k]).set k (some v)) (ρ.set k (some (enc xs[i]))) := by
      have z := (sw.mono x2).set k r
      rw [List.set_set] at z
      exact z
    refine ⟨hset _, xs[i], hmem, j2, s3, fun H4 x4 j4 => ?_⟩
    have hD4 : H4 D = some (.lst acc) := x4 D _ hacc (W.mlst _ _)
    have da4 := dpAll_mono x4 _ _ da
    have dn : noLs (((xs.take i).filter p).map f) = true := noLs_of fun x hx => hn x (List.mem_of_mem_take (List.mem_filter.mp hx).1)
    have e1 : ((xs.take (i + 1)).filter p).map f = ((xs.take i).filter p).map f ++ (([xs[i]] : List α).filter p).map f := by rw [et, List.filter_append, List.map_append]
    cases hpx : p xs[i] with
    | true =>
      refine iteT ?_
      refine ⟨xs[i], ⟨hmem, hpx⟩, j4, s3.mono x4, fun y H5 x5 j5 r5 => ?_⟩
      have hD5 : H5 D = some (.lst acc) := x5 D _ hD4 (W.mlst _ _)
      have da5 := dpAll_mono x5 _ _ da4
      have hal : acc.length ≤ xs.length := by
        rw [dpAll_len da, List.length_map]
        exact Nat.le_trans (List.length_filter_le _ _) (by rw [List.length_take]; omega)
      refine ⟨acc, hD5, by omega, (Ex.mut ((x2.trans x4).trans x5) hD), W.jlst _ _ _ _ hD5 j5, acc ++ [y], upd_same, ?_⟩
      rw [e1]
      have e2 : (([xs[i]] : List α).filter p).map f = [f xs[i]] := by simp [hpx]
      rw [e2]
      exact dpAll_append (dpAll_noL (TupEx.lst hD5) _ _ dn da5) (.cons (dp_noL (TupEx.lst hD5) _ _ (hn _ hmem) r5) .nil)
    | false =>
      refine iteF ?_
      refine ⟨x2.trans x4, j4, acc, hD4, ?_⟩
      rw [e1]
      have e2 : (([xs[i]] : List α).filter p).map f = [] := by simp [hpx]
      rw [e2, List.append_nil]
      exact da4
  · have e : i = xs.length := by omega
    subst e
    rw [List.take_length] at da
    exact .inl ⟨ok3, q (.ref D) H' (x1.trans x2) j2 (.lst hacc da)⟩
variable {n : Str} {pn : Pos}
theorem de_lc (k : Nat) (xs : List α) (enc : α → AV) (p : α → Bool) (f : α → PyData) (hi : DI X W ρ (.Name n pn) it (xs.map enc)) (hl : xs.length < sizeLine) (hn : ∀ x ∈ xs, noL (f x) = true) (hN : X.N.Nodup) (ok : BlkOk X.N X.env.scope scope [(n, k)])
    (ht : ∀ s H C cl fp x, x ∈ xs → PTs (Blk X s H scope C cl fp) ifs (tT X.K W (ρ.set k (some (enc x))) (p x)))
    (he : ∀ s H C cl fp x, x ∈ xs → p x = true → DE (Blk X s H scope C cl fp) W (ρ.set k (some (enc x))) elt (.d (f x)))
    (hk : X.N[k]? = some n := by rfl) (hx : ∀ cl C, Loc (compEnvC scope cl C X.env).scope n := by intro _ _; first | exact Or.inl rfl | exact Or.inr rfl) (hf : ∀ cl C, (scope.names.lookup n == some NameKind.cell) = true ∨ (compEnvC scope cl C X.env).scope.names.lookup n = some .local := by intro _ _; first | exact .inl rfl | exact .inr rfl)
    (hc : X.calm = true := by rfl) (hs : ∀ x, foldedSetIterable it X.env x = pure x := by intro _; rfl) : DE X W ρ (.ListComp elt [⟨.Name n pn, it, ifs, 0⟩] scope pos) (.d (.list ((xs.filter p).map f))) := by
  obtain ⟨wi, pi, hw⟩ := hi
  exact pe_imp (pe_lc (own := [(n, k)]) (g := gName k) hc hN pi ok (fun s H C cl fp => pg_name (X := Blk X s H scope C cl fp) (i := k) hN hk (hx cl C) (hf cl C)) (fun s H C cl fp => pts_all (A := α) (C := fun x => x ∈ xs) (t := fun x => tT X.K W (ρ.set k (some (enc x))) (p x)) fun x m => ht s H C cl fp x m) (fun s H C cl fp => pe_all (A := α) (C := fun x => x ∈ xs ∧ p x = true) (t := fun x => tE X.K W (ρ.set k (some (enc x))) (.d (f x))) fun x m => he s H C cl fp x m.1 m.2) hs)
    (lc_read xs enc p f k hl hn hw)
/-- y = [..] on a row of its own -/
theorem ds_setLc (i k : Nat) {y : Str} {py spos : Pos} (xs : List α) (enc : α → AV) (p : α → Bool) (f : α → PyData) (hi : DI X W ρ (.Name n pn) it (xs.map enc)) (hl : xs.length < sizeLine) (hn : ∀ x ∈ xs, noL (f x) = true) (hN : X.N.Nodup) (ok : BlkOk X.N X.env.scope scope [(n, k)])
    (hsw : swapsWith (.ListComp elt [⟨.Name n pn, it, ifs, 0⟩] scope pos) (some (.Name y py)) spos.line X.env = pure true)
    (ht : ∀ s H C cl fp x, x ∈ xs → PTs (Blk X s H scope C cl fp) ifs (tT X.K W (ρ.set k (some (enc x))) (p x)))
    (he : ∀ s H C cl fp x, x ∈ xs → p x = true → DE (Blk X s H scope C cl fp) W (ρ.set k (some (enc x))) elt (.d (f x)))
    (hy : X.N[i]? = some y := by rfl) (hyl : X.env.scope.names.lookup y = some .local := by rfl)
    (hk : X.N[k]? = some n := by rfl) (hx : ∀ cl C, Loc (compEnvC scope cl C X.env).scope n := by intro _ _; first | exact Or.inl rfl | exact Or.inr rfl) (hf : ∀ cl C, (scope.names.lookup n == some NameKind.cell) = true ∨ (compEnvC scope cl C X.env).scope.names.lookup n = some .local := by intro _ _; first | exact .inl rfl | exact .inr rfl)
    (hc : X.calm = true := by rfl) (hs : ∀ x, foldedSetIterable it X.env x = pure x := by intro _; rfl) : DS X W ρ (.Assign [.Name y py] (.ListComp elt [⟨.Name n pn, it, ifs, 0⟩] scope pos) spos) (.nx (ρ.set i (some (.d (.list ((xs.filter p).map f)))))) := by
  obtain ⟨wi, pi, hw⟩ := hi
  refine ps_imp (ps_setLc (i := i) (own := [(n, k)]) (g := gName k) hc hN hy hyl hsw pi ok (fun s H C cl fp => pg_name (X := Blk X s H scope C cl fp) (i := k) hN hk (hx cl C) (hf cl C)) (fun s H C cl fp => pts_all (A := α) (C := fun x => x ∈ xs) (t := fun x => tT X.K W (ρ.set k (some (enc x))) (p x)) fun x m => ht s H C cl fp x m) (fun s H C cl fp => pe_all (A := α) (C := fun x => x ∈ xs ∧ p x = true) (t := fun x => tE X.K W (ρ.set k (some (enc x))) (.d (f x))) fun x m => he s H C cl fp x m.1 m.2) hs)
    fun D σ H ⟨j, s, q⟩ => ?_
  exact lc_read xs enc p f k hl hn hw σ H _ ⟨j, s, fun v H1 x1 j1 r1 => q _ H1 x1 j1 ((s.mono x1).set i r1)⟩
end
end FK
set_option Elab.async false
set_option linter.all false
set_option maxRecDepth 100000
/-! Built-ins over data. -/
namespace FK
open PySem PySem.Spec PyProof.Rows L2

/-! ### plain lists of ints -/
def insI (x : Int) : List Int → List Int
  | [] => [x]
  | y :: r => if x ≤ y then x :: y :: r else y :: insI x r
def isort : List Int → List Int
  | [] => []
  | x :: r => insI x (isort r)
theorem insI_perm (x : Int) : ∀ l : List Int, (insI x l).Perm (x :: l)
  | [] => List.Perm.refl _
  | y :: r => by
    unfold insI
    split
    · exact List.Perm.refl _
    · exact ((insI_perm x r).cons y).trans (List.Perm.swap x y r)
theorem isort_perm : ∀ l : List Int, (isort l).Perm l
  | [] => List.Perm.refl _
  | x :: r => (insI_perm x (isort r)).trans ((isort_perm r).cons x)
theorem insI_up (x : Int) : ∀ l : List Int, l.Pairwise (· ≤ ·) → (insI x l).Pairwise (· ≤ ·)
  | [], _ => List.pairwise_singleton _ _
  | y :: r, h => by
    obtain ⟨h1, h2⟩ := List.pairwise_cons.mp h
    unfold insI
    split
    · rename_i hxy
      refine List.pairwise_cons.mpr ⟨fun z hz => ?_, h⟩
      rcases List.mem_cons.mp hz with e | hz
      · omega
      · have := h1 z hz
        omega
    · rename_i hxy
      refine List.pairwise_cons.mpr ⟨fun z hz => ?_, insI_up x r h2⟩
      rcases List.mem_cons.mp ((insI_perm x r).mem_iff.mp hz) with e | hz
      · omega
      · exact h1 z hz
theorem isort_up : ∀ l : List Int, (isort l).Pairwise (· ≤ ·)
  | [] => List.Pairwise.nil
  | x :: r => insI_up x _ (isort_up r)
theorem isort_is {l m : List Int} (hp : m.Perm l) (hs : m.Pairwise (· ≤ ·)) : m = isort l := PySem.W.ksm_same (hp.trans (isort_perm l).symm) hs (isort_up l)
theorem isort_len (l : List Int) : (isort l).length = l.length := (isort_perm l).length_eq
/-- the first of each -/
def dedI (acc : List Int) : List Int → List Int
  | [] => acc
  | x :: r => dedI (if x ∈ acc then acc else acc ++ [x]) r
theorem dedI_mem : ∀ (l acc : List Int) (k : Int), k ∈ dedI acc l ↔ k ∈ acc ∨ k ∈ l
  | [], acc, k => by simp [dedI]
  | x :: r, acc, k => by
    unfold dedI
    rw [dedI_mem r]
    by_cases h : x ∈ acc
    · rw [if_pos h, List.mem_cons]
      constructor
      · rintro (q | q)
        · exact .inl q
        · exact .inr (.inr q)
      · rintro (q | q | q)
        · exact .inl q
        · rw [q]
          exact .inl h
        · exact .inr q
    · rw [if_neg h]
      simp only [List.mem_append, List.mem_cons, List.not_mem_nil, or_false, or_assoc]
theorem dedI_nodup : ∀ (l acc : List Int), acc.Nodup → (dedI acc l).Nodup
  | [], _, h => h
  | x :: r, acc, h => by
    unfold dedI
    refine dedI_nodup r _ ?_
    by_cases e : x ∈ acc
    · rw [if_pos e]
      exact h
    · rw [if_neg e, List.nodup_append]
      refine ⟨h, by simp, fun a ha b hb z => ?_⟩
      rw [List.mem_singleton] at hb
      rw [hb] at z
      rw [z] at ha
      exact e ha
theorem dedI_len : ∀ (l acc : List Int), (dedI acc l).length ≤ acc.length + l.length
  | [], acc => by simp [dedI]
  | x :: r, acc => by
    unfold dedI
    refine Nat.le_trans (dedI_len r _) ?_
    rw [List.length_cons]
    split
    · omega
    · rw [List.length_append]
      simp
      omega
/-- sorted, each once -/
def norm (l : List Int) : List Int := isort (dedI [] l)
theorem norm_mem (l : List Int) (k : Int) : k ∈ norm l ↔ k ∈ l := by
  unfold norm
  rw [(isort_perm _).mem_iff, dedI_mem]
  simp
theorem lt_of_le_nodup {l : List Int} (h : l.Pairwise (· ≤ ·)) (n : l.Nodup) : l.Pairwise (· < ·) := by
  have hb := List.pairwise_and_iff.mpr ⟨h, n⟩
  exact hb.imp fun ⟨a, b⟩ => by omega
theorem norm_up (l : List Int) : (norm l).Pairwise (· < ·) := lt_of_le_nodup (isort_up _) ((isort_perm _).nodup_iff.mpr (dedI_nodup l [] List.nodup_nil))
/-- two rising lists of the same numbers are one -/
theorem up_one : ∀ {a b : List Int}, a.Pairwise (· < ·) → b.Pairwise (· < ·) → (∀ k, k ∈ a ↔ k ∈ b) → a = b
  | [], [], _, _, _ => rfl
  | [], y :: b, _, _, h => absurd ((h y).mpr List.mem_cons_self) (by simp)
  | x :: a, [], _, _, h => absurd ((h x).mp List.mem_cons_self) (by simp)
  | x :: a, y :: b, ha, hb, h => by
    obtain ⟨a1, a2⟩ := List.pairwise_cons.mp ha
    obtain ⟨b1, b2⟩ := List.pairwise_cons.mp hb
    have e : x = y := by
      rcases List.mem_cons.mp ((h x).mp List.mem_cons_self) with q | q
      · exact q
      · rcases List.mem_cons.mp ((h y).mpr List.mem_cons_self) with q2 | q2
        · exact q2.symm
        · have h1 := b1 x q
          have h2 := a1 y q2
          omega
    subst e
    rw [up_one a2 b2 fun k => ?_]
    constructor
    · intro hk
      rcases List.mem_cons.mp ((h k).mp (List.mem_cons_of_mem _ hk)) with q | q
      · have := a1 k hk
        omega
      · exact q
    · intro hk
      rcases List.mem_cons.mp ((h k).mpr (List.mem_cons_of_mem _ hk)) with q | q
      · have := b1 k hk
        omega
      · exact q
theorem norm_is {l m : List Int} (hm : ∀ k, k ∈ m ↔ k ∈ l) (hs : m.Pairwise (· < ·)) : m = norm l := up_one hs (norm_up l) fun k => (hm k).trans (norm_mem l k).symm
theorem norm_len (l : List Int) : (norm l).length ≤ l.length := by
  unfold norm
  rw [isort_len]
  have := dedI_len l []
  simpa using this
def maxI : List Int → Int
  | [] => 0
  | [x] => x
  | x :: r => max x (maxI r)
def minI : List Int → Int
  | [] => 0
  | [x] => x
  | x :: r => min x (minI r)
theorem maxI_is : ∀ {l : List Int} {m : Int}, m ∈ l → (∀ y ∈ l, y ≤ m) → m = maxI l
  | [], _, h, _ => absurd h (by simp)
  | [x], m, h, _ => by simpa [maxI] using h
  | x :: y :: r, m, h, hm => by
    show m = max x (maxI (y :: r))
    have hx := hm x List.mem_cons_self
    have key : ∀ {l : List Int}, l ≠ [] → maxI l ∈ l := by
      intro l
      induction l with
      | nil => intro z; exact absurd rfl z
      | cons a r ih =>
        intro _
        cases r with
        | nil => simp [maxI]
        | cons b r =>
          show max a (maxI (b :: r)) ∈ a :: b :: r
          have q := ih (by simp)
          rcases Int.le_total a (maxI (b :: r)) with z | z
          · rw [Int.max_eq_right z]
            exact List.mem_cons_of_mem _ q
          · rw [Int.max_eq_left z]
            exact List.mem_cons_self
    have hk := hm _ (List.mem_cons_of_mem x (key (l := y :: r) (by simp)))
    rcases List.mem_cons.mp h with e | h
    · omega
    · have q := maxI_is (l := y :: r) (m := m) h fun z hz => hm z (List.mem_cons_of_mem _ hz)
      omega
theorem minI_is : ∀ {l : List Int} {m : Int}, m ∈ l → (∀ y ∈ l, m ≤ y) → m = minI l
  | [], _, h, _ => absurd h (by simp)
  | [x], m, h, _ => by simpa [minI] using h
  | x :: y :: r, m, h, hm => by
    show m = min x (minI (y :: r))
    have hx := hm x List.mem_cons_self
    have key : ∀ {l : List Int}, l ≠ [] → minI l ∈ l := by
      intro l
      induction l with
      | nil => intro z; exact absurd rfl z
      | cons a r ih =>
        intro _
        cases r with
        | nil => simp [minI]
        | cons b r =>
          show min a (minI (b :: r)) ∈ a :: b :: r
          have q := ih (by simp)
          rcases Int.le_total a (minI (b :: r)) with z | z
          · rw [Int.min_eq_left z]
            exact List.mem_cons_self
          · rw [Int.min_eq_right z]
            exact List.mem_cons_of_mem _ q
    have hk := hm _ (List.mem_cons_of_mem x (key (l := y :: r) (by simp)))
    rcases List.mem_cons.mp h with e | h
    · omega
    · have q := minI_is (l := y :: r) (m := m) h fun z hz => hm z (List.mem_cons_of_mem _ hz)
      omega

/-! ### rules -/
theorem av1 {K : PySem.W.Frag} {H : Hp} {vs : List V} {a : AV} (h : AvAll K H vs [a]) : ∃ v, vs = [v] ∧ AvOk K H v a := by
  cases h with
  | cons r t =>
    cases t
    exact ⟨_, rfl, r⟩
theorem av2 {K : PySem.W.Frag} {H : Hp} {vs : List V} {a b : AV} (h : AvAll K H vs [a, b]) : ∃ v u, vs = [v, u] ∧ AvOk K H v a ∧ AvOk K H u b := by
  cases h with
  | cons r t =>
    obtain ⟨u, rfl, q⟩ := av1 t
    exact ⟨_, u, rfl, r, q⟩
section
variable {X : Cx} {W : Wd} {ρ : Rho} {e e1 e2 : Expr} {es : List Expr} {a b : AV} {as : List AV} {p pos : Pos} {x : Bool}
theorem de_lenT {ds : List PyData} (h : DE X W ρ e (.d (.tuple ds))) (hm : X.mg "len" = none) (hg : Gl X "len" := by rfl) (he : starEach [e] X.env = (false, eval e X.env) :: starEach [] X.env := by rfl) : DE X W ρ (.Call (.Name "len" p) [e] [] pos) (.d (.int ds.length)) :=
  de_callB call_len_seq hm PySem.boot_len (da_cons h da_nil he) (fun vs H r j Q q => by
    obtain ⟨v, rfl, r1⟩ := av1 r
    obtain ⟨a, xs, rfl, hs, ha⟩ := dp_tup r1
    refine ⟨a, xs, rfl, .inr hs, q _ H (Ex.refl H) j ?_⟩
    rw [dpAll_len ha]
    exact .int _) hg (he := he)
theorem de_lenL {ds : List PyData} (h : DE X W ρ e (.d (.list ds))) (hm : X.mg "len" = none) (hg : Gl X "len" := by rfl) (he : starEach [e] X.env = (false, eval e X.env) :: starEach [] X.env := by rfl) : DE X W ρ (.Call (.Name "len" p) [e] [] pos) (.d (.int ds.length)) :=
  de_callB call_len_seq hm PySem.boot_len (da_cons h da_nil he) (fun vs H r j Q q => by
    obtain ⟨v, rfl, r1⟩ := av1 r
    obtain ⟨a, xs, rfl, hs0, ha⟩ := dp_lst r1
    have hs : SqL X.K H a xs := SqL.of hs0
    refine ⟨a, xs, rfl, .inl hs, q _ H (Ex.refl H) j ?_⟩
    rw [dpAll_len ha]
    exact .int _) hg (he := he)
theorem de_min2 {i k : Int} (h : DE X W ρ e1 (.d (.int i))) (h' : DE X W ρ e2 (.d (.int k))) (hm : X.mg "min" = none) (hc : X.calm = true := by rfl) (hg : Gl X "min" := by rfl) (he : starEach [e1, e2] X.env = (false, eval e1 X.env) :: starEach [e2] X.env := by rfl) (he2 : starEach [e2] X.env = (false, eval e2 X.env) :: starEach [] X.env := by rfl) (hpl : (backTo pos (starEach [e2] X.env)).any (·.1) = false := by rfl) :
    DE X W ρ (.Call (.Name "min" p) [e1, e2] [] pos) (.d (.int (if k < i then k else i))) :=
  de_callB (call_min2 hc) hm boot_min (da_cons h (da_cons h' da_nil he2) he) (fun vs H r j Q q => by
    obtain ⟨v, u, rfl, r1, r2⟩ := av2 r
    exact ⟨i, k, by rw [dp_int r1, dp_int r2], q _ H (Ex.refl H) j (.int _)⟩) hg (he := he) (hpl := hpl)
theorem de_max2 {i k : Int} (h : DE X W ρ e1 (.d (.int i))) (h' : DE X W ρ e2 (.d (.int k))) (hm : X.mg "max" = none) (hc : X.calm = true := by rfl) (hg : Gl X "max" := by rfl) (he : starEach [e1, e2] X.env = (false, eval e1 X.env) :: starEach [e2] X.env := by rfl) (he2 : starEach [e2] X.env = (false, eval e2 X.env) :: starEach [] X.env := by rfl) (hpl : (backTo pos (starEach [e2] X.env)).any (·.1) = false := by rfl) :
    DE X W ρ (.Call (.Name "max" p) [e1, e2] [] pos) (.d (.int (if k > i then k else i))) :=
  de_callB (call_max2 hc) hm boot_max (da_cons h (da_cons h' da_nil he2) he) (fun vs H r j Q q => by
    obtain ⟨v, u, rfl, r1, r2⟩ := av2 r
    exact ⟨i, k, by rw [dp_int r1, dp_int r2], q _ H (Ex.refl H) j (.int _)⟩) hg (he := he) (hpl := hpl)
theorem de_maxL {ns : List Int} (h : DE X W ρ e (.d (.list (ns.map .int)))) (h0 : 0 < ns.length) (hm : X.mg "max" = none) (hc : X.calm = true := by rfl) (hg : Gl X "max" := by rfl) (he : starEach [e] X.env = (false, eval e X.env) :: starEach [] X.env := by rfl) : DE X W ρ (.Call (.Name "max" p) [e] [] pos) (.d (.int (maxI ns))) :=
  de_callB (cr_max hc) hm boot_max (da_cons h da_nil he) (fun vs H r j Q q => by
    obtain ⟨v, rfl, r1⟩ := av1 r
    obtain ⟨a, xs, rfl, hs0, ha⟩ := dp_lst r1
    have hs : SqL X.K H a xs := SqL.of hs0
    rw [dpAll_ints ha] at hs
    refine ⟨a, ns, rfl, hs, h0, fun m h1 h2 => ?_⟩
    rw [maxI_is h1 h2]
    exact q _ H (Ex.refl H) j (.int _)) hg (he := he)
theorem de_minL {ns : List Int} (h : DE X W ρ e (.d (.list (ns.map .int)))) (h0 : 0 < ns.length) (hm : X.mg "min" = none) (hc : X.calm = true := by rfl) (hg : Gl X "min" := by rfl) (he : starEach [e] X.env = (false, eval e X.env) :: starEach [] X.env := by rfl) : DE X W ρ (.Call (.Name "min" p) [e] [] pos) (.d (.int (minI ns))) :=
  de_callB (cr_min hc) hm boot_min (da_cons h da_nil he) (fun vs H r j Q q => by
    obtain ⟨v, rfl, r1⟩ := av1 r
    obtain ⟨a, xs, rfl, hs0, ha⟩ := dp_lst r1
    have hs : SqL X.K H a xs := SqL.of hs0
    rw [dpAll_ints ha] at hs
    refine ⟨a, ns, rfl, hs, h0, fun m h1 h2 => ?_⟩
    rw [minI_is h1 h2]
    exact q _ H (Ex.refl H) j (.int _)) hg (he := he)
theorem de_anyL {bs : List Bool} (h : DE X W ρ e (.d (.list (bs.map .bool)))) (hm : X.mg "any" = none) (hc : X.calm = true := by rfl) (hg : Gl X "any" := by rfl) (he : starEach [e] X.env = (false, eval e X.env) :: starEach [] X.env := by rfl) : DE X W ρ (.Call (.Name "any" p) [e] [] pos) (.d (.bool (bs.any id))) :=
  de_callB (cr_any hc) hm boot_any (da_cons h da_nil he) (fun vs H r j Q q => by
    obtain ⟨v, rfl, r1⟩ := av1 r
    obtain ⟨a, xs, rfl, hs0, ha⟩ := dp_lst r1
    have hs : SqL X.K H a xs := SqL.of hs0
    rw [dpAll_bls ha] at hs
    exact ⟨a, bs, rfl, hs, q _ H (Ex.refl H) j (.bl _)⟩) hg (he := he)
theorem de_allL {bs : List Bool} (h : DE X W ρ e (.d (.list (bs.map .bool)))) (hm : X.mg "all" = none) (hc : X.calm = true := by rfl) (hg : Gl X "all" := by rfl) (he : starEach [e] X.env = (false, eval e X.env) :: starEach [] X.env := by rfl) : DE X W ρ (.Call (.Name "all" p) [e] [] pos) (.d (.bool (bs.all id))) :=
  de_callB (cr_all hc) hm boot_all (da_cons h da_nil he) (fun vs H r j Q q => by
    obtain ⟨v, rfl, r1⟩ := av1 r
    obtain ⟨a, xs, rfl, hs0, ha⟩ := dp_lst r1
    have hs : SqL X.K H a xs := SqL.of hs0
    rw [dpAll_bls ha] at hs
    exact ⟨a, bs, rfl, hs, q _ H (Ex.refl H) j (.bl _)⟩) hg (he := he)
theorem de_sorted {ns : List Int} (h : DE X W ρ e (.d (.list (ns.map .int)))) (h64 : ns.length < 64) (hm : X.mg "sorted" = none) (hg : Gl X "sorted" := by rfl) (he : starEach [e] X.env = (false, eval e X.env) :: starEach [] X.env := by rfl) : DE X W ρ (.Call (.Name "sorted" p) [e] [] pos) (.d (.list ((isort ns).map .int))) :=
  de_callB cr_sorted hm boot_sorted (da_cons h da_nil he) (fun vs H r j Q q => by
    obtain ⟨v, rfl, r1⟩ := av1 r
    obtain ⟨a, xs, rfl, hs0, ha⟩ := dp_lst r1
    have hs : SqL X.K H a xs := SqL.of hs0
    rw [dpAll_ints ha] at hs
    refine ⟨a, ns, rfl, hs, h64, fun ns' p h1 h2 hp => ?_⟩
    rw [isort_is h1 h2]
    exact q _ _ (Ex.new hp) (W.jal _ _ _ hp j) (.lst upd_same (ints_dpAll _))) hg (he := he)
/-- sorted of a dict with int keys -/
theorem de_sortedD {ks : List Int} (h : DE X W ρ e (.k ks)) (h64 : ks.length < 64) (hm : X.mg "sorted" = none) (hc : X.calm = true := by rfl) (hg : Gl X "sorted" := by rfl) (he : starEach [e] X.env = (false, eval e X.env) :: starEach [] X.env := by rfl) : DE X W ρ (.Call (.Name "sorted" p) [e] [] pos) (.d (.list ((isort ks).map .int))) :=
  de_callB (call_sortedDI hc) hm boot_sorted (da_cons h da_nil he) (fun vs H r j Q q => by
    obtain ⟨v, rfl, r1⟩ := av1 r
    obtain ⟨a, kvs, rfl, hd, hk⟩ := r1
    refine ⟨a, kvs, ks, rfl, .inl hd, hk, h64, fun ns' p h1 h2 hp => ?_⟩
    rw [isort_is h1 h2]
    exact q _ _ (Ex.new hp) (W.jal _ _ _ hp j) (.lst upd_same (ints_dpAll _))) hg (he := he)
theorem de_tupleL {ds : List PyData} (h : DE X W ρ e (.d (.list ds))) (hm : X.mg "tuple" = none) (hg : Gl X "tuple" := by rfl) (he : starEach [e] X.env = (false, eval e X.env) :: starEach [] X.env := by rfl) : DE X W ρ (.Call (.Name "tuple" p) [e] [] pos) (.d (.tuple ds)) :=
  de_callTy call_tuple_of hm PyProof.Rows.boot_tuple (da_cons h da_nil he) (fun vs H r j Q q => by
    obtain ⟨v, rfl, r1⟩ := av1 r
    obtain ⟨a, xs, rfl, hs0, ha⟩ := dp_lst r1
    have hs : SqL X.K H a xs := SqL.of hs0
    exact ⟨a, xs, rfl, .inl ⟨hs, fun l hl => q _ _ (Ex.new hl) (W.jal _ _ _ hl j) (.tup (SqT.of upd_same) (dpAll_mono (W := W) (Ex.new hl) _ _ ha))⟩⟩) hg (he := he)
theorem de_intB {k : Bool} (h : DE X W ρ e (.d (.bool k))) (hm : X.mg "int" = none) (hg : Gl X "int" := by rfl) (he : starEach [e] X.env = (false, eval e X.env) :: starEach [] X.env := by rfl) : DE X W ρ (.Call (.Name "int" p) [e] [] pos) (.d (.int (if k = true then 1 else 0))) :=
  de_callTy call_int1 hm PyProof.Rows.boot_int (da_cons h da_nil he) (fun vs H r j Q q => by
    obtain ⟨v, rfl, r1⟩ := av1 r
    exact .inr ⟨k, by rw [dp_bl r1], q _ H (Ex.refl H) j (.int _)⟩) hg (he := he)
/-! lists and tuples added -/
theorem rv_cat {K : PySem.W.Frag} {ds cs : List PyData} (hl : ds.length + cs.length ≤ sizeLine) : RvOk K W rCat (.d (.list ds)) (.d (.list cs)) (.d (.list (ds ++ cs))) := fun x y H h1 h2 j Q q => by
  obtain ⟨a, xs, rfl, hs, ha⟩ := dp_lst h1
  obtain ⟨b, ys, rfl, hs2, ha2⟩ := dp_lst h2
  exact ⟨a, b, xs, ys, rfl, rfl, hs, hs2, by rw [dpAll_len ha, dpAll_len ha2]; exact hl, fun p hp => q _ _ (Ex.new hp) (W.jal _ _ _ hp j) (.lst upd_same (dpAll_append (dpAll_mono (W := W) (Ex.new hp) _ _ ha) (dpAll_mono (W := W) (Ex.new hp) _ _ ha2)))⟩
theorem de_cat {ds cs : List PyData} (h : DE X W ρ e1 (.d (.list ds))) (h' : DE X W ρ e2 (.d (.list cs))) (hl : ds.length + cs.length ≤ sizeLine) : DE X W ρ (.BinOp e1 .Add e2 pos) (.d (.list (ds ++ cs))) := de_op op_cat h h' (rv_cat hl)
theorem dpAll_rep {K : PySem.W.Frag} {H : Hp} {xs : List V} {ds : List PyData} (h : DqAll K H xs ds) : ∀ n : Nat, DqAll K H (List.replicate n xs).flatten (List.replicate n ds).flatten
  | 0 => .nil
  | n + 1 => by
    rw [List.replicate_succ, List.replicate_succ, List.flatten_cons, List.flatten_cons]
    exact dpAll_append h (dpAll_rep h n)
theorem de_rep {ds : List PyData} {k : Int} (h : DE X W ρ e1 (.d (.list ds))) (h' : DE X W ρ e2 (.d (.int k))) (h1 : -(2 ^ 63) ≤ k) (h2 : k < 2 ^ 63) (hl : ds.length * k.toNat ≤ sizeLine) : DE X W ρ (.BinOp e1 .Mult e2 pos) (.d (.list (List.replicate k.toNat ds).flatten)) :=
  de_op op_rep h h' fun x y H r1 r2 j Q q => by
    obtain ⟨a, xs, rfl, hs, ha⟩ := dp_lst r1
    exact ⟨a, k, xs, rfl, dp_int r2, hs, h1, h2, by rw [dpAll_len ha]; exact hl, fun p hp => q _ _ (Ex.new hp) (W.jal _ _ _ hp j) (.lst upd_same (dpAll_mono (W := W) (Ex.new hp) _ _ (dpAll_rep ha _)))⟩
theorem de_catT {ds cs : List PyData} (h : DE X W ρ e1 (.d (.tuple ds))) (h' : DE X W ρ e2 (.d (.tuple cs))) (hl : ds.length + cs.length ≤ sizeLine) : DE X W ρ (.BinOp e1 .Add e2 pos) (.d (.tuple (ds ++ cs))) :=
  de_op op_catA h h' fun x y H r1 r2 j Q q => by
    obtain ⟨a, xs, rfl, hs, ha⟩ := dp_tup r1
    obtain ⟨b, ys, rfl, hs2, ha2⟩ := dp_tup r2
    refine ⟨a, b, xs, ys, rfl, rfl, hs, hs2, by rw [dpAll_len ha, dpAll_len ha2]; exact hl, fun z => ?_, fun _ z => ?_, fun _ _ p hp => q _ _ (Ex.new hp) (W.jal _ _ _ hp j) (.tup (SqT.of upd_same) (dpAll_append (dpAll_mono (W := W) (Ex.new hp) _ _ ha) (dpAll_mono (W := W) (Ex.new hp) _ _ ha2)))⟩
    · subst z
      cases ha
      exact q _ H (Ex.refl H) j (.tup hs2 ha2)
    · subst z
      cases ha2
      rw [List.append_nil] at q
      exact q _ H (Ex.refl H) j (.tup hs ha)
/-! a <= b <= c -/
theorem de_chainLE {e3 : Expr} {i k m : Int} (h : DE X W ρ e1 (.d (.int i))) (h' : DE X W ρ e2 (.d (.int k))) (h2 : DE X W ρ e3 (.d (.int m))) (hm : lastMarks [CmpOp.LtE, CmpOp.LtE] [e2, e3] = false := by with_unfolding_all rfl) : DE X W ρ (.Compare e1 [.LtE, .LtE] [e2, e3] pos) (.d (.bool (decide (i ≤ k) && decide (k ≤ m)))) :=
  pe_imp (pe_chain op_le op_le h h' h2 hm) fun σ H Q ⟨j, s, q⟩ => ⟨j, s, fun v H1 x1 j1 r1 => ⟨j1, s.mono x1, fun u H2 x2 j2 r2 => ⟨i, k, dp_int r1, dp_int r2, _, rfl, by
    by_cases hik : i ≤ k
    · rw [decide_eq_true hik] at q ⊢
      exact iteT ⟨j2, (s.mono x1).mono x2, fun t H3 x3 j3 r3 => ⟨k, m, dp_int r2, dp_int r3, q _ H3 ((x1.trans x2).trans x3) j3 (by rw [Bool.true_and]; exact .bl _)⟩⟩
    · rw [decide_eq_false hik] at q ⊢
      exact iteF (q _ H2 (x1.trans x2) j2 (by rw [Bool.false_and]; exact .bl _))⟩⟩⟩
/-! deep ==, in -/
theorem de_eqD {c d : PyData} (h : DE X W ρ e1 (.d c)) (h' : DE X W ρ e2 (.d d)) (hu : X.A.units + 64 < cLine) (sc : SeqAt.shaped c = true) (sd : SeqAt.shaped d = true) : DE X W ρ (.Compare e1 [.Eq] [e2] pos) (.d (.bool (PyData.eqv c d))) :=
  de_cmp (op_eqD hu) h h' (fun x y H r1 r2 j Q q => ⟨c, d, dq_dp _ _ r1, dq_dp _ _ r2, sc, sd, q _ H (Ex.refl H) j (.bl _)⟩) (nomark _)
theorem rv_in {K : PySem.W.Frag} {neg : Bool} {y : PyData} {ds : List PyData} {v : V} {vs : List V} (hd : ∀ H u, Dq K H u y → u = v) (hds : ∀ H us, DqAll K H us ds → us = vs) (f1 : flatV v = true) (f2 : vs.all flatV = true) (d : PyData) (hl : d = .list ds ∨ d = .tuple ds) : RvOk K W (rIn K neg) (.d y) (.d d) (.d (.bool (if neg then !inV v vs else inV v vs))) := fun x z H h1 h2 j Q q => by
  rw [hd H x h1]
  rcases hl with e | e
  · subst e
    obtain ⟨a, xs, rfl, hs, ha⟩ := dp_lst h2
    rw [hds H _ ha] at hs
    exact ⟨a, vs, rfl, .inl (SqL.of hs), f1, f2, q _ H (Ex.refl H) j (.bl _)⟩
  · subst e
    obtain ⟨a, xs, rfl, hs, ha⟩ := dp_tup h2
    rw [hds H _ ha] at hs
    exact ⟨a, vs, rfl, .inr hs, f1, f2, q _ H (Ex.refl H) j (.bl _)⟩
theorem inV_int (k : Int) (ns : List Int) : inV (.int k) (ns.map V.int) = decide (k ∈ ns) := by
  unfold inV
  rw [List.any_map, Bool.eq_iff_iff, List.any_eq_true, decide_eq_true_eq]
  constructor
  · rintro ⟨y, hy, e⟩
    have e' : (y == k) = true := e
    rw [← beq_iff_eq.mp e']
    exact hy
  · intro h
    exact ⟨k, h, beq_self_eq_true k⟩
theorem flat_ints (ns : List Int) : (ns.map V.int).all flatV = true := by
  rw [List.all_map, List.all_eq_true]
  intro x _
  rfl
theorem flat_bls (bs : List Bool) : (bs.map V.bl).all flatV = true := by
  rw [List.all_map, List.all_eq_true]
  intro x _
  rfl
theorem inV_bl (k : Bool) (bs : List Bool) : inV (.bl k) (bs.map V.bl) = decide (k ∈ bs) := by
  unfold inV
  rw [List.any_map, Bool.eq_iff_iff, List.any_eq_true, decide_eq_true_eq]
  constructor
  · rintro ⟨y, hy, e⟩
    have e' : (y == k) = true := e
    rw [← beq_iff_eq.mp e']
    exact hy
  · intro h
    exact ⟨k, h, beq_self_eq_true k⟩
theorem de_inT {k : Int} {ns : List Int} (h : DE X W ρ e1 (.d (.int k))) (h' : DE X W ρ e2 (.d (.tuple (ns.map .int)))) (hm : behindInMarks .In e2 = false := by rfl) : DE X W ρ (.Compare e1 [.In] [e2] pos) (.d (.bool (decide (k ∈ ns)))) :=
  de_is (de_cmp op_in_seq h h' (rv_in (neg := false) (fun _ _ r => dp_int r) (fun _ _ r => dpAll_ints r) rfl (flat_ints ns) _ (.inr rfl)) hm) (by rw [inV_int]; rfl)
theorem de_ninL {k : Int} {ns : List Int} (h : DE X W ρ e1 (.d (.int k))) (h' : DE X W ρ e2 (.d (.list (ns.map .int)))) (hm : behindInMarks .NotIn e2 = false := by rfl) : DE X W ρ (.Compare e1 [.NotIn] [e2] pos) (.d (.bool (!decide (k ∈ ns)))) :=
  de_is (de_cmp op_notIn_seq h h' (rv_in (neg := true) (fun _ _ r => dp_int r) (fun _ _ r => dpAll_ints r) rfl (flat_ints ns) _ (.inl rfl)) hm) (by rw [inV_int]; rfl)
theorem dt_ninL {k : Int} {ns : List Int} (h : DE X W ρ e1 (.d (.int k))) (h' : DE X W ρ e2 (.d (.list (ns.map .int)))) (hm : behindInMarks .NotIn e2 = false := by rfl) : DT X W ρ (.Compare e1 [.NotIn] [e2] pos) (!decide (k ∈ ns)) :=
  dt_is (dt_cmp op_notIn_seq h h' (rv_in (neg := true) (fun _ _ r => dp_int r) (fun _ _ r => dpAll_ints r) rfl (flat_ints ns) _ (.inl rfl)) hm) (by rw [inV_int]; rfl)
theorem dt_inT {k : Int} {ns : List Int} (h : DE X W ρ e1 (.d (.int k))) (h' : DE X W ρ e2 (.d (.tuple (ns.map .int)))) (hm : behindInMarks .In e2 = false := by rfl) : DT X W ρ (.Compare e1 [.In] [e2] pos) (decide (k ∈ ns)) :=
  dt_is (dt_cmp op_in_seq h h' (rv_in (neg := false) (fun _ _ r => dp_int r) (fun _ _ r => dpAll_ints r) rfl (flat_ints ns) _ (.inr rfl)) hm) (by rw [inV_int]; rfl)
theorem de_inLB {k : Bool} {bs : List Bool} (h : DE X W ρ e1 (.d (.bool k))) (h' : DE X W ρ e2 (.d (.list (bs.map .bool)))) (hm : behindInMarks .In e2 = false := by rfl) : DE X W ρ (.Compare e1 [.In] [e2] pos) (.d (.bool (decide (k ∈ bs)))) :=
  de_is (de_cmp op_in_seq h h' (rv_in (neg := false) (fun _ _ r => dp_bl r) (fun _ _ r => dpAll_bls r) rfl (flat_bls bs) _ (.inl rfl)) hm) (by rw [inV_bl]; rfl)
theorem de_ninLB {k : Bool} {bs : List Bool} (h : DE X W ρ e1 (.d (.bool k))) (h' : DE X W ρ e2 (.d (.list (bs.map .bool)))) (hm : behindInMarks .NotIn e2 = false := by rfl) : DE X W ρ (.Compare e1 [.NotIn] [e2] pos) (.d (.bool (!decide (k ∈ bs)))) :=
  de_is (de_cmp op_notIn_seq h h' (rv_in (neg := true) (fun _ _ r => dp_bl r) (fun _ _ r => dpAll_bls r) rfl (flat_bls bs) _ (.inl rfl)) hm) (by rw [inV_bl]; rfl)
/-- x in a tuple of data -/
def rInDT (K : PySem.W.Frag) : R2 := fun x y H Q => ∃ d ds, L2.Dp K H x d ∧ L2.Dp K H y (.tuple ds) ∧ SeqAt.shaped d = true ∧ SeqAt.shaped (.tuple ds) = true ∧ Q (.bl (ds.any fun z => PyData.eqv z d)) H
theorem op_inDT (hu : X.A.units + 65 < cLine) : OpR X (compareOp .In) (rInDT X.K) := by
  intro pins s σ H x y v u Q I rx ry ⟨d, ds, hd, he, sd, se, q⟩
  obtain ⟨_, r1⟩ := L2.Dp.reads I d x v hd rx
  obtain ⟨_, r2⟩ := L2.Dp.reads I (.tuple ds) y u he ry
  exact SeqAt.in_tuple_reads r2 r1 (SeqAt.canLay_of_shaped se) (SeqAt.canLay_of_shaped sd) (room_in_shaped sd hu) ⟨.bl _, H, I, rfl, q⟩
theorem de_inDT {d : PyData} {ds : List PyData} (h : DE X W ρ e1 (.d d)) (h' : DE X W ρ e2 (.d (.tuple ds))) (hu : X.A.units + 65 < cLine) (sd : SeqAt.shaped d = true) (se : SeqAt.shaped (.tuple ds) = true) (hm : behindInMarks .In e2 = false := by rfl) : DE X W ρ (.Compare e1 [.In] [e2] pos) (.d (.bool (ds.any fun z => PyData.eqv z d))) :=
  de_cmp (op_inDT hu) h h' (fun x y H r1 r2 j Q q => ⟨d, ds, dq_dp _ _ r1, dq_dp _ _ r2, sd, se, q _ H (Ex.refl H) j (.bl _)⟩) hm
theorem de_isN {d : PyData} {k : Bool} {i p2} (h : DE X W ρ e1 (.d d)) (hk : ∀ K H v, Dq K H v d → decide (v = .non) = k) : DE X W ρ (.Compare e1 [.Is] [.Constant .none i p2] pos) (.d (.bool k)) :=
  pe_imp (pe_cmp (pc_isN h) rfl) fun σ H Q ⟨j, s, q⟩ => ⟨j, s, fun v H1 x1 j1 r1 => by
    show Q (.bl (decide (v = .non))) H1
    rw [hk _ _ v r1]
    exact q _ H1 x1 j1 (.bl _)⟩
theorem dt_isN {d : PyData} {k : Bool} {i p2} (h : DE X W ρ e1 (.d d)) (hk : ∀ K H v, Dq K H v d → decide (v = .non) = k) : DT X W ρ (.Compare e1 [.Is] [.Constant .none i p2] pos) k :=
  pt_imp (pt_cmp (pc_isN h) rfl) fun σ H Q ⟨j, s, q⟩ => ⟨j, s, fun v H1 x1 j1 r1 => ⟨k, by
    rw [hk _ _ v r1], q H1 x1 j1⟩⟩
/-! isinstance -/
def tyN : PyData → String
  | .none => "NoneType"
  | .bool _ => "bool"
  | .int _ => "int"
  | .str _ => "str"
  | .list _ => "list"
  | .tuple _ => "tuple"
  | .dict _ => "dict"
theorem tyX_of {K : PySem.W.Frag} {H : Hp} : ∀ {d : PyData} {v : V}, Dq K H v d → TyX K H v (.type (tyN d))
  | .none, _, h => by cases h; exact .base .non
  | .bool b, _, h => by cases h; exact .base (.bl b)
  | .int i, _, h => by cases h; exact .base (.int i)
  | .str x, _, h => by cases h; exact .base (.str x)
  | .list ds, _, h => by
    cases h with
    | lst hs ha => exact .base (.lst hs)
  | .tuple ds, _, h => by
    cases h with
    | tup hs ha =>
      rcases hs with (hs | ⟨o, hs⟩) | ⟨o, its, n, h1, h2, _⟩
      · exact .base (.tup hs)
      · exact .fTuple hs
      · exact .kTuple h1 h2
  | .dict _, _, h => by cases h
theorem de_isi {d : PyData} {T : Str} {t : String} {p2 : Pos} (h : DE X W ρ e (.d d)) (hk : kitB (tyN d) t = some x) (hv : bootBuiltins T = some (.type t)) (hT : X.mg T = none) (hm : X.mg "isinstance" = none) (hg : Gl X "isinstance" := by rfl) (hgT : Gl X T := by rfl) (hn : T ≠ "__name__" := by decide) (hdb : (T == ("__debug__" : Str)) = false := by decide)
    (he : starEach [e, .Name T p2] X.env = (false, eval e X.env) :: starEach [.Name T p2] X.env := by rfl) (he2 : starEach [.Name T p2] X.env = (false, eval (.Name T p2) X.env) :: starEach [] X.env := by rfl) (hpl : (backTo pos (starEach [.Name T p2] X.env)).any (·.1) = false := by rfl) :
    DE X W ρ (.Call (.Name "isinstance" p) [e, .Name T p2] [] pos) (.d (.bool x)) :=
  de_callB call_isi hm boot_isinstance (da_cons h (da_cons (de_bltn (v := .ty t) hT hv rfl hgT hn hdb) da_nil he2) he) (fun vs H r j Q q => by
    obtain ⟨v, u, rfl, r1, r2⟩ := av2 r
    obtain rfl : u = .ty t := r2
    exact ⟨v, .ty t, _, _, x, rfl, .ty t, tyX_of r1, kit_ty hk, q _ H (Ex.refl H) j (.bl _)⟩) hg (he := he) (hpl := hpl)
/-- isinstance(x, (tuple, list)) -/
theorem de_isi2 {d : PyData} {T S : Str} {t s : String} {p2 p3 p4 : Pos} {k0} {y : Bool} (h : DE X W ρ e (.d d)) (hk : kitB (tyN d) t = some x) (hk2 : kitB (tyN d) s = some y) (hv : bootBuiltins T = some (.type t)) (hv2 : bootBuiltins S = some (.type s)) (hT : X.mg T = none) (hS : X.mg S = none) (hm : X.mg "isinstance" = none) (hg : Gl X "isinstance" := by rfl)
    (hgT : Gl X T := by rfl) (hn : T ≠ "__name__" := by decide) (hdb : (T == ("__debug__" : Str)) = false := by decide) (hgS : Gl X S := by rfl) (hnS : S ≠ "__name__" := by decide) (hdbS : (S == ("__debug__" : Str)) = false := by decide)
    (he : starEach [e, .Tuple [.Name T p2, .Name S p3] k0 p4] X.env = (false, eval e X.env) :: starEach [.Tuple [.Name T p2, .Name S p3] k0 p4] X.env := by rfl) :
    DE X W ρ (.Call (.Name "isinstance" p) [e, .Tuple [.Name T p2, .Name S p3] k0 p4] [] pos) (.d (.bool (x || y))) := by
  refine pe_imp (pe_callB call_isiT hg hm boot_isinstance (pa_cons h (pa_cons (pe_tup (pa_cons (de_bltn (W := W) (ρ := ρ) (v := .ty t) hT hv rfl hgT hn hdb) (pa_cons (de_bltn (W := W) (ρ := ρ) (v := .ty s) hS hv2 rfl hgS hnS hdbS) pa_nil))) pa_nil) he) (he := he)) fun σ H Q ⟨j, sl, q⟩ => ?_
  refine ⟨j, sl, fun v H1 x1 j1 r1 => ⟨j1, sl.mono x1, fun u1 H2 x2 j2 r2 => ⟨j2, (sl.mono x1).mono x2, fun u2 H3 x3 j3 r3 => ⟨by show 2 ≤ sizeLine; decide, fun tp hp => ?_⟩⟩⟩⟩
  obtain rfl : u1 = .ty t := r2
  obtain rfl : u2 = .ty s := r3
  have r4 : Dq X.K (upd H3 tp (.tup [.ty t, .ty s])) v d := dp_mono (W := W) (((x2.trans x3)).trans (Ex.new hp)) _ _ r1
  refine ⟨v, tp, [.ty t, .ty s], _, [.type t, .type s], x || y, rfl, upd_same, .cons (.ty t) (.cons (.ty s) .nil), tyX_of r4, kitAny_cons (kit_ty hk) (fun hx => kitAny_cons (kit_ty hk2) (fun hy => ?_) (fun hy => ?_)) (fun hx => ?_), q _ _ (((x1.trans x2).trans x3).trans (Ex.new hp)) (W.jal _ _ _ hp j3) (.bl _)⟩
  · rw [hx, hy]
    exact kitAny_nil
  · rw [hx, hy]
    rfl
  · rw [hx]
    rfl
/-! *e in a display -/
theorem avAll_app {K : PySem.W.Frag} {H : Hp} : ∀ {vs us : List V} {as bs : List AV}, AvAll K H vs as → AvAll K H us bs → AvAll K H (vs ++ us) (as ++ bs)
  | _, _, _, _, .nil, s => s
  | _, _, _, _, .cons r t, s => .cons r (avAll_app t s)
theorem avAll_of {K : PySem.W.Frag} {H : Hp} : ∀ {vs : List V} {ds : List PyData}, DqAll K H vs ds → AvAll K H vs (ds.map AV.d)
  | _, [], h => by cases h; exact .nil
  | _, d :: ds, h => by
    cases h with
    | cons h1 h2 => exact .cons h1 (avAll_of h2)
theorem da_starT {ds : List PyData} {p2 : Pos} (h : DE X W ρ e (.d (.tuple ds))) (h2 : DA X W ρ es as) (hs : starEach (.Starred e p2 :: es) X.env = (true, eval e X.env) :: starEach es X.env := by rfl) : DA X W ρ (.Starred e p2 :: es) (ds.map AV.d ++ as) :=
  pa_imp (StX.pa_star h h2 hs) fun σ H Q ⟨j, s, q⟩ => ⟨j, s, fun v H1 x1 j1 r1 => by
    obtain ⟨a, xs, rfl, hx, ha⟩ := dp_tup r1
    exact ⟨a, xs, rfl, .inl hx, j1, s.mono x1, fun vs H2 x2 j2 r2 => q _ H2 (x1.trans x2) j2 (avAll_app (avAll_of (dpAll_mono x2 _ _ ha)) r2)⟩⟩
theorem da_starL {ds : List PyData} {p2 : Pos} (h : DE X W ρ e (.d (.list ds))) (h2 : DA X W ρ es as) (hs : starEach (.Starred e p2 :: es) X.env = (true, eval e X.env) :: starEach es X.env := by rfl) : DA X W ρ (.Starred e p2 :: es) (ds.map AV.d ++ as) :=
  pa_imp (StX.pa_star h h2 hs) fun σ H Q ⟨j, s, q⟩ => ⟨j, s, fun v H1 x1 j1 r1 => by
    obtain ⟨a, xs, rfl, hx, ha⟩ := dp_lst r1
    exact ⟨a, xs, rfl, .inr (SqL.of hx), j1, s.mono x1, fun vs H2 x2 j2 r2 => q _ H2 (x1.trans x2) j2 (avAll_app (avAll_of (dpAll_mono x2 _ _ ha)) r2)⟩⟩
end
end FK
set_option Elab.async false
set_option linter.all false
set_option maxRecDepth 100000
/-! Webs, gatherings and rows of people as data; the world of the tables. -/
namespace FK
open PySem PySem.Spec PyProof.Rows L2

/-! ### the program's text, by places -/
def topS (i : Nat) : Stmt := PySem.Challenge.pw_foescome_k16_whole_hands.main.body.getD i (.Pass ⟨0, 0, 0, 0⟩)

/-! ### data -/
abbrev I (i : Int) : PyData := .int i
abbrev tupD (ns : List Int) : PyData := .tuple (ns.map .int)
abbrev lstD (ns : List Int) : PyData := .list (ns.map .int)
def prD (p : Int × Int) : PyData := .tuple [.int p.1, .int p.2]
def webD (n : Nat) (ps : List (Int × Int)) : PyData := .tuple [.int n, .tuple (ps.map prD)]
theorem canLay_ints : ∀ ns : List Int, PyData.canLayAll0 (ns.map .int) = true
  | [] => by simp [PyData.canLayAll0]
  | n :: ns => by
    show PyData.canLayAll0 (.int n :: ns.map .int) = true
    simp only [PyData.canLayAll0, PyData.canLay0, canLay_ints ns, Bool.and_self]
theorem depthAll_ints : ∀ ns : List Int, PyData.depthAll (ns.map .int) = 0
  | [] => by simp [PyData.depthAll]
  | n :: ns => by
    show PyData.depthAll (.int n :: ns.map .int) = 0
    simp only [PyData.depthAll, PyData.depth, depthAll_ints ns]
    rfl
theorem shaped_tup (ns : List Int) : SeqAt.shaped (tupD ns) = true := by
  unfold SeqAt.shaped
  simp only [PyData.canLay0, PyData.depth, canLay_ints, depthAll_ints]
  rfl
theorem prD_tup (p : Int × Int) : prD p = tupD [p.1, p.2] := rfl
theorem canLay_prs : ∀ ps : List (Int × Int), PyData.canLayAll0 (ps.map prD) = true
  | [] => by simp [PyData.canLayAll0]
  | p :: ps => by
    show PyData.canLayAll0 (prD p :: ps.map prD) = true
    simp only [PyData.canLayAll0, prD, PyData.canLay0, canLay_prs ps, Bool.and_self]
theorem depth_prs : ∀ ps : List (Int × Int), PyData.depthAll (ps.map prD) ≤ 1
  | [] => by simp [PyData.depthAll]
  | p :: ps => by
    show PyData.depthAll (prD p :: ps.map prD) ≤ 1
    have h := depth_prs ps
    simp only [PyData.depthAll, prD, PyData.depth]
    first | omega | (simp; omega)
theorem shaped_prs (ps : List (Int × Int)) : SeqAt.shaped (.tuple (ps.map prD)) = true := by
  have := depth_prs ps
  unfold SeqAt.shaped
  simp only [PyData.canLay0, PyData.depth, canLay_prs, Bool.true_and]
  exact decide_eq_true (by omega)
theorem eqv_prD (p q : Int × Int) : PyData.eqv (prD p) (prD q) = decide (p = q) := by
  obtain ⟨a, b⟩ := p
  obtain ⟨c, d⟩ := q
  simp only [prD, PyData.eqv, PyData.eqvAll, Bool.and_true]
  rw [Bool.eq_iff_iff]
  simp [Prod.ext_iff]
theorem any_prD (ps : List (Int × Int)) (q : Int × Int) : ((ps.map prD).any fun z => PyData.eqv z (prD q)) = decide (q ∈ ps) := by
  rw [List.any_map, Bool.eq_iff_iff, List.any_eq_true, decide_eq_true_eq]
  constructor
  · rintro ⟨p, hp, e⟩
    have e' : PyData.eqv (prD p) (prD q) = true := e
    rw [eqv_prD, decide_eq_true_eq] at e'
    rw [← e']
    exact hp
  · intro h
    refine ⟨q, h, ?_⟩
    show PyData.eqv (prD q) (prD q) = true
    rw [eqv_prD]
    simp
/-- are two people foes -/
def foe (ps : List (Int × Int)) (a b : Int) : Bool := decide ((min a b, max a b) ∈ ps)
theorem min_if (a b : Int) : (if b < a then b else a) = min a b := by
  by_cases h : b < a
  · rw [if_pos h]; omega
  · rw [if_neg h]; omega
theorem max_if (a b : Int) : (if b > a then b else a) = max a b := by
  by_cases h : b > a
  · rw [if_pos h]; omega
  · rw [if_neg h]; omega
/-- all people -/
def ppl (n : Nat) : List Int := (List.range n).map fun (i : Nat) => (i : Int)
theorem mem_ppl {n : Nat} {k : Int} : k ∈ ppl n ↔ 0 ≤ k ∧ k < n := by
  unfold ppl
  rw [List.mem_map]
  constructor
  · rintro ⟨i, hi, rfl⟩
    have := List.mem_range.mp hi
    omega
  · rintro ⟨h1, h2⟩
    exact ⟨k.toNat, List.mem_range.mpr (by omega), by omega⟩
theorem ppl_len (n : Nat) : (ppl n).length = n := by
  unfold ppl
  rw [List.length_map, List.length_range]
theorem ppl_up (n : Nat) : (ppl n).Pairwise (· < ·) := by
  unfold ppl
  rw [List.pairwise_map]
  refine List.pairwise_lt_range.imp fun h => ?_
  omega
theorem range_ppl (n : Nat) : (List.range ((n : Int)).toNat).map (fun i => AV.d (.int (0 + (i : Nat)))) = (ppl n).map fun k => AV.d (.int k) := by
  unfold ppl
  rw [Int.toNat_natCast, List.map_map]
  refine List.map_congr_left fun i _ => ?_
  simp

/-! ### the world of the tables -/
def isTab (o : HO) : Prop := ∃ ps, o = .tbl ps
def tabJ (TG : List Addr) (TL : List (Addr × Str)) (H : Hp) : Prop := (∀ P ∈ TG, GxR.TabG H P) ∧ ∀ p ∈ TL, LamX.TabS H p.1 p.2
theorem tabG_of {H H' : Hp} {P : Addr} (h : GxR.TabG H P) (e : ∀ b o, H b = some o → (isTab o ∨ ∃ q, o = LamX.CodeO b q) → H' b = some o) : GxR.TabG H' P := by
  obtain ⟨ps, h1, h2⟩ := h
  exact ⟨ps, e _ _ h1 (.inl ⟨ps, rfl⟩), h2⟩
theorem tabS_of {H H' : Hp} {P : Addr} {q : Str} (h : LamX.TabS H P q) (e : ∀ b o, H b = some o → (isTab o ∨ ∃ q, o = LamX.CodeO b q) → H' b = some o) : LamX.TabS H' P q := by
  obtain ⟨ps, h1, h2, h3⟩ := h
  refine ⟨ps, e _ _ h1 (.inl ⟨ps, rfl⟩), h2, fun pos cv hc => ?_⟩
  obtain ⟨c, e1, e2⟩ := h3 pos cv hc
  exact ⟨c, e1, e _ _ e2 (.inr ⟨q, rfl⟩)⟩
theorem tabJ_of {TG : List Addr} {TL : List (Addr × Str)} {H H' : Hp} (h : tabJ TG TL H) (e : ∀ b o, H b = some o → (isTab o ∨ ∃ q, o = LamX.CodeO b q) → H' b = some o) : tabJ TG TL H' :=
  ⟨fun P hP => tabG_of (h.1 P hP) e, fun p hp => tabS_of (h.2 p hp) e⟩
theorem codeO_not {c : Addr} {q : Str} {o : HO} (h : ∀ f, o ≠ .ext f) : o ≠ LamX.CodeO c q := fun z => by
  unfold LamX.CodeO at z
  exact h _ z
def W0 (TG : List Addr) (TL : List (Addr × Str)) : Wd where
  mu := fun _ o => isTab o
  J := tabJ TG TL
  mtup := fun _ _ ⟨_, z⟩ => by cases z
  mlst := fun _ _ ⟨_, z⟩ => by cases z
  mfrz := fun _ _ _ ⟨_, z⟩ => by cases z
  mdk := fun _ _ ⟨_, z⟩ => by cases z
  jal := fun H p o hp h => tabJ_of h fun b u e _ => by
    rw [upd_ne (ne_of_none e hp)]
    exact e
  jlst := fun H p xs ys hp h => tabJ_of h fun b u e k => by
    refine (upd_ne (ne_of e hp fun z => ?_)).trans e
    subst z
    rcases k with ⟨ps, k⟩ | ⟨q, k⟩
    · cases k
    · exact codeO_not (fun f z => by cases z) k
  jdk := fun H p xs ys hp h => tabJ_of h fun b u e k => by
    refine (upd_ne (ne_of e hp fun z => ?_)).trans e
    subst z
    rcases k with ⟨ps, k⟩ | ⟨q, k⟩
    · cases k
    · exact codeO_not (fun f z => by cases z) k
theorem room65 {k : Nat} {A : Around} (hr : Room k A) : A.units + 65 < cLine := by
  have := hr.un
  omega
theorem big (n : Nat) (h : n < 10000) : n < sizeLine := Nat.lt_of_lt_of_le h (by decide)
theorem bigL (n : Nat) (h : n < 10000) : n ≤ sizeLine := Nat.le_of_lt (big n h)
end FK
set_option Elab.async false
set_option linter.all false
set_option maxRecDepth 100000
/-! is_in, are_foes, foes, came -/
namespace FK
open PySem PySem.Spec PyProof.Rows L2

theorem kb_ii : kitB "int" "int" = some true := by decide +kernel
theorem kb_ib : kitB "int" "bool" = some false := by decide +kernel
theorem boot_boolT : bootBuiltins "bool" = some (.type "bool") := by decide +kernel
section
variable {P : Program} {w : World} {K : PySem.W.Frag} {mg : Str → Option Value} {base : Heap} {W : Wd}

/-! ### is_in -/
abbrev sIsIn : Stmt := topS 8
theorem scIsIn : FnScope ["value", "least", "most"] ["value", "least", "most"] (defScope sIsIn) := ⟨rfl, rfl, rfl, by decide +kernel, rfl, by decide +kernel, by decide +kernel⟩
def FIsIn : Rel := fun as r => ∃ i a b : Int, as = [.d (.int i), .d (.int a), .d (.int b)] ∧ r = .d (.bool (decide (a ≤ i) && decide (i ≤ b)))
theorem ok_is_in {f : Addr} {fd : FuncData} (F : Fun K "is_in" "is_in" sIsIn f fd) (mi : mg "isinstance" = none) (mt : mg "int" = none) (mb : mg "bool" = none) :
    FnOk P w K mg base CX0 1 f fd ["value", "least", "most"] (avSp K W 3 FIsIn) := by
  refine av_def (k := 0) F scIsIn fun cdv A outer s H hr as r hl hF => ?_
  obtain ⟨i, a, b, rfl, rfl⟩ := hF
  refine ⟨.rt _, dss_rt (ds_ret (de_is (de_and (de_isi (x := true) (de_var 0 rfl) kb_ii PyProof.Rows.boot_int mt mi) fun _ => de_and (de_not (de_isi (x := false) (de_var 0 rfl) kb_ib boot_boolT mb mi)) fun _ => de_one (de_chainLE (de_var 1 rfl) (de_var 0 rfl) (de_var 2 rfl))) ?_)), rfl⟩
  simp

/-! ### are_foes -/
abbrev sAreFoes : Stmt := topS 10
theorem scAreFoes : FnScope ["web", "one", "other"] ["web", "one", "other"] (defScope sAreFoes) := ⟨rfl, rfl, rfl, by decide +kernel, rfl, by decide +kernel, by decide +kernel⟩
def FAreFoes : Rel := fun as r => ∃ (n : Nat) (ps : List (Int × Int)) (a b : Int), as = [.d (webD n ps), .d (.int a), .d (.int b)] ∧ r = .d (.bool (foe ps a b))
theorem ok_are_foes {f : Addr} {fd : FuncData} (F : Fun K "are_foes" "are_foes" sAreFoes f fd) (mi : mg "min" = none) (ma : mg "max" = none) :
    FnOk P w K mg base CX0 1 f fd ["web", "one", "other"] (avSp K W 3 FAreFoes) := by
  refine av_def (k := 0) F scAreFoes fun cdv A outer s H hr as r hl hF => ?_
  obtain ⟨n, ps, a, b, rfl, rfl⟩ := hF
  refine ⟨.rt _, dss_rt (ds_ret (de_is (de_inDT (d := prD (min a b, max a b)) (ds := ps.map prD) (de_is (de_tup (ds := [.int (min a b), .int (max a b)]) (da_cons (de_is (de_min2 (de_var 1 rfl) (de_var 2 rfl) mi) (by rw [min_if])) (da_cons (de_is (de_max2 (de_var 1 rfl) (de_var 2 rfl) ma) (by rw [max_if])) da_nil)) (bigL 2 (by decide))) rfl)
    (de_ixT 1 (de_var 0 rfl) de_int rfl rfl) (room65 hr) (shaped_tup [min a b, max a b]) (shaped_prs ps)) ?_)), rfl⟩
  rw [any_prD]
  rfl

/-! ### foes -/
abbrev sFoes : Stmt := topS 11
theorem scFoes : FnScope ["web", "person", "other"] ["web", "person"] (defScope sFoes) := ⟨rfl, rfl, rfl, by decide +kernel, rfl, by decide +kernel, by decide +kernel⟩
def FFoes : Rel := fun as r => ∃ (n : Nat) (ps : List (Int × Int)) (a : Int), n < 1000 ∧ as = [.d (webD n ps), .d (.int a)] ∧ r = .d (lstD ((ppl n).filter fun k => foe ps a k))
theorem ok_foes {f : Addr} {fd : FuncData} (F : Fun K "foes" "foes" sFoes f fd) (mr : mg "range" = none) (CA : Callee P w K mg base "are_foes" 3 1 W FAreFoes) :
    FnOk P w K mg base CX0 2 f fd ["web", "person"] (avSp K W 2 FFoes) := by
  refine av_def (k := 1) F scFoes fun cdv A outer s H hr as r hl hF => ?_
  obtain ⟨n, ps, a, hn, rfl, rfl⟩ := hF
  refine ⟨.rt _, dss_rt (ds_ret (de_lc 2 (ppl n) (fun k => .d (.int k)) (fun k => foe ps a k) (fun k => .int k)
    (di_is (di_range1 (n := n) (de_ixT 0 (de_var 0 rfl) de_int rfl rfl) mr (by omega) (by omega)) (range_ppl n)) (by rw [ppl_len]; exact big n (by omega)) (fun _ _ => by simp [noL]) scFoes.nd (blkOk_by (N := ["web", "person", "other"]) (sc := defScope sFoes) (by decide +kernel))
    (fun s H C cl fp k _ => dts_one (dt_val (de_call CA (Sub.refl W) hr (da_cons (de_var 0 rfl) (da_cons (de_var 1 rfl) (da_cons (de_var 2 rfl) da_nil))) ⟨n, ps, a, k, rfl, rfl⟩)))
    (fun s H C cl fp k _ _ => de_var 2 rfl))), rfl⟩

/-! ### came -/
abbrev sCame : Stmt := topS 15
theorem scCame : FnScope ["web", "gathering", "person", "rest", "one"] ["web", "gathering", "person"] (defScope sCame) := ⟨rfl, rfl, rfl, by decide +kernel, rfl, by decide +kernel, by decide +kernel⟩
/-- the gathering behind a coming -/
def cameI (ps : List (Int × Int)) (g : List Int) (p : Int) : List Int := isort ((g.filter fun x => !decide (x = p) && !foe ps x p) ++ [p])
def FCame : Rel := fun as r => ∃ (n : Nat) (ps : List (Int × Int)) (g : List Int) (p : Int), g.length < 60 ∧ as = [.d (webD n ps), .d (tupD g), .d (.int p)] ∧ r = .d (tupD (cameI ps g p))
theorem map_avs (ns : List Int) : (ns.map fun k => AV.d (.int k)) = (ns.map PyData.int).map AV.d := by
  rw [List.map_map]
  rfl
theorem ok_came {f : Addr} {fd : FuncData} (F : Fun K "came" "came" sCame f fd) (ms : mg "sorted" = none) (mt : mg "tuple" = none) (CA : Callee P w K mg base "are_foes" 3 1 W FAreFoes) :
    FnOk P w K mg base CX0 2 f fd ["web", "gathering", "person"] (avSp K W 3 FCame) := by
  refine av_def (k := 1) F scCame fun cdv A outer s H hr as r hl hF => ?_
  obtain ⟨n, ps, g, p, hg, rfl, rfl⟩ := hF
  have hfl : (g.filter fun x => !decide (x = p) && !foe ps x p).length ≤ g.length := List.length_filter_le _ _
  refine ⟨.rt _, dss_cons (ds_setLc 3 4 g (fun k => .d (.int k)) (fun x => !decide (x = p) && !foe ps x p) (fun k => .int k)
    (di_is (di_tup (de_var 1 rfl)) (map_avs g).symm) (big _ (by omega)) (fun _ _ => by simp [noL]) scCame.nd (blkOk_by (N := ["web", "gathering", "person", "rest", "one"]) (sc := defScope sCame) (by decide +kernel)) (sw_true rfl rfl rfl (by decide +kernel))
    (fun s H C cl fp k _ => dts_one (dt_w (dw_and (dt_neI (de_var 4 rfl) (de_var 2 rfl)) fun _ => dw_and1 (dt_not (dt_val (de_call CA (Sub.refl W) hr (da_cons (de_var 0 rfl) (da_cons (de_var 4 rfl) (da_cons (de_var 2 rfl) da_nil))) ⟨n, ps, k, p, rfl, rfl⟩))))))
    (fun s H C cl fp k _ _ => de_var 4 rfl)) (dss_rt (ds_ret (de_tupleL (ds := (cameI ps g p).map .int) (de_sorted (ns := (g.filter fun x => !decide (x = p) && !foe ps x p) ++ [p]) (de_is (de_lst (ds := ((g.filter fun x => !decide (x = p) && !foe ps x p) ++ [p]).map .int) ?_ (bigL _ ?_)) rfl) ?_ ms) mt))), rfl⟩
  · rw [List.map_append, List.map_append]
    exact da_starL (de_var 3 rfl) (da_cons (de_var 2 rfl) da_nil)
  · rw [List.length_map, List.length_append, List.length_singleton]
    omega
  · rw [List.length_append, List.length_singleton]
    omega
end
end FK
set_option Elab.async false
set_option linter.all false
set_option maxRecDepth 100000
/-! A small evaluator that keeps every object: for the elements of generator expressions. -/
namespace FK
open PySem PySem.Spec PyProof.Rows L2

theorem kp_refl (s : Shared) : Keeps s s := ⟨s.heap, s.toks, rfl, fun _ _ e => e⟩
theorem kp_tok (s : Shared) (t : Nat) : Keeps s { s with toks := t } := ⟨s.heap, t, rfl, fun _ _ e => e⟩
theorem kp_trans {s s1 s2 : Shared} (a : Keeps s s1) (b : Keeps s1 s2) : Keeps s s2 := by
  obtain ⟨h1, t1, rfl, k1⟩ := a
  obtain ⟨h2, t2, rfl, k2⟩ := b
  exact ⟨h2, t2, rfl, fun c o e => k2 c o (k1 c o e)⟩
theorem kp_all {s s' : Shared} (a : Keeps s s') : ∀ b o, s.heap.get? b = some o → s'.heap.get? b = some o := by
  obtain ⟨h1, t1, rfl, k1⟩ := a
  exact k1
/-- what an evaluation may lean on -/
structure Kn (K : PySem.W.Frag) (mg : Str → Option Value) (base : Heap) (env : Env) (F : Shared → Prop) : Prop where
  keep : ∀ s s', F s → Keeps s s' → F s'
  bin : ∀ s, F s → ∀ b o, base.get? b = some o → s.heap.get? b = some o
  mod : Mod K mg base
  kind : env.scope.kind = .function
  glob : env.globals = mainGlobals
  blt : env.builtins = builtinsNs
def RdD (h : Heap) (u : Value) (d : PyData) : Prop := ∃ as, Reads h u d as
theorem RdD.keep {h h' : Heap} {u : Value} {d : PyData} (r : RdD h u d) (k : ∀ b o, h.get? b = some o → h'.get? b = some o) : RdD h' u d := by
  obtain ⟨as, r⟩ := r
  exact ⟨as, Reads.keeps k r⟩
theorem rdB {h : Heap} {b : Bool} : RdD h (.bool b) (.bool b) := ⟨[], .bool b⟩
theorem rdB' {h : Heap} {b c : Bool} (e : b = c) : RdD h (.bool b) (.bool c) := by
  subst e
  exact rdB
theorem rdI {h : Heap} {i : Int} {t : Tok} : RdD h (.int i t) (.int i) := ⟨[], .int i t⟩
theorem rd_int {h : Heap} {u : Value} {i : Int} (r : RdD h u (.int i)) : ∃ t, u = .int i t := by
  obtain ⟨as, r⟩ := r
  cases r
  exact ⟨_, rfl⟩
theorem rd_bl {h : Heap} {u : Value} {b : Bool} (r : RdD h u (.bool b)) : u = .bool b := by
  obtain ⟨as, r⟩ := r
  cases r
  rfl
/-- the name x holds d -/
def Nm (env : Env) (F : Shared → Prop) (x : Str) (d : PyData) : Prop := ∀ s, F s → ∃ u, RdD s.heap u d ∧
  ((env.kindOf x = some .local ∧ ∃ m, s.heap.Ns env.locals m ∧ m x = some u) ∨ (env.kindOf x = some .free ∧ ∃ c, env.cells.lookup x = some c ∧ s.heap.IsCell c (some u)))
section
variable {prog : Program} {w : World} {A : Around} {env : Env} {F : Shared → Prop} {K : PySem.W.Frag} {mg : Str → Option Value} {base : Heap}
def GV (prog : Program) (w : World) (A : Around) (env : Env) (F : Shared → Prop) (e : Expr) (d : PyData) : Prop :=
  ∀ (E : Value → Shared → Prop) (Q : Value → Shared → Prop) (s : Shared), F s → (∀ y s', RdD s'.heap y d → F s' → Keeps s s' → Q y s') → wpAny (model prog w) A (eval e env) Q E s
variable {e e1 e2 e3 : Expr} {rest : List Expr} {d c : PyData} {pos p p2 : Pos} {x y : Bool}
theorem gv_use (h : GV prog w A env F e d) {E : Value → Shared → Prop} {Q : Value → Shared → Prop} {s : Shared} (hs : F s) (q : ∀ y s', RdD s'.heap y d → F s' → Keeps s s' → Q y s') : wpAny (model prog w) A (eval e env) Q E s := h E Q s hs q
theorem gv_name (k : Kn K mg base env F) {n : Str} (h : Nm env F n d) (hd : (n == ("__debug__" : Str)) = false := by decide) (hcd : (n == ("__classdict__" : Str)) = false := by decide) : GV prog w A env F (.Name n pos) d := by
  intro E Q s hs q
  obtain ⟨u, r, l⟩ := h s hs
  have fin : Q u s := q u s r hs (kp_refl s)
  rcases l with ⟨hk, m, hn, hm⟩ | ⟨hk, c, hc, hv⟩
  · exact wpAny_Name (wpAny_loadName_local k.kind hk hn hm fin) hd
  · exact wpAny_Name (wpAny_loadName_free k.kind hk hc hv fin hcd) hd
theorem gv_int (k : Kn K mg base env F) {i : Int} {j : Nat} : GV prog w A env F (.Constant (.int i) j pos) (.int i) := fun E Q s hs q =>
  wpAny_Constant_int (q _ _ ⟨_, .int i _⟩ (k.keep _ _ hs (kp_tok s _)) (kp_tok s _))
theorem gv_two (h1 : GV prog w A env F e1 c) (h2 : GV prog w A env F e2 d) {E : Value → Shared → Prop} {Q : Value → Value → Shared → Prop} {s : Shared} (hs : F s)
    (q : ∀ u v s', RdD s'.heap u c → RdD s'.heap v d → F s' → Keeps s s' → Q u v s') : wpAny (model prog w) A (eval e1 env) (fun u s1 => wpAny (model prog w) A (eval e2 env) (fun v s2 => Q u v s2) E s1) E s :=
  h1 E _ s hs fun u s1 r1 f1 k1 => h2 E _ s1 f1 fun v s2 r2 f2 k2 => q u v s2 (r1.keep (kp_all k2)) r2 f2 (kp_trans k1 k2)
theorem gv_add (k : Kn K mg base env F) {i j : Int} (h1 : GV prog w A env F e1 (.int i)) (h2 : GV prog w A env F e2 (.int j)) : GV prog w A env F (.BinOp e1 .Add e2 pos) (.int (i + j)) := by
  intro E Q s hs q
  refine wpAny_BinOp (gv_two h1 h2 hs fun u v s2 r1 r2 f2 k2 => ?_)
  obtain ⟨t, rfl⟩ := rd_int r1
  obtain ⟨t', rfl⟩ := rd_int r2
  exact add_int (q _ _ rdI (k.keep _ _ f2 (kp_tok _ _)) (kp_trans k2 (kp_tok _ _)))
theorem gv_sub (k : Kn K mg base env F) {i j : Int} (h1 : GV prog w A env F e1 (.int i)) (h2 : GV prog w A env F e2 (.int j)) : GV prog w A env F (.BinOp e1 .Sub e2 pos) (.int (i - j)) := by
  intro E Q s hs q
  refine wpAny_BinOp (gv_two h1 h2 hs fun u v s2 r1 r2 f2 k2 => ?_)
  obtain ⟨t, rfl⟩ := rd_int r1
  obtain ⟨t', rfl⟩ := rd_int r2
  exact sub_int (q _ _ rdI (k.keep _ _ f2 (kp_tok _ _)) (kp_trans k2 (kp_tok _ _)))
theorem rds_get {h : Heap} : ∀ {vs : List Value} {ds : List PyData} {as : List Addr} {i : Nat} {d : PyData}, ReadsAll h vs ds as → ds[i]? = some d → ∃ u, vs[i]? = some u ∧ RdD h u d
  | _, [], _, i, d, r, e => by simp at e
  | _, _ :: _, _, 0, d, r, e => by
    simp at e
    subst e
    cases r with
    | cons r1 r2 => exact ⟨_, rfl, _, r1⟩
  | _, _ :: ds, _, i + 1, d, r, e => by
    cases r with
    | cons r1 r2 =>
      obtain ⟨u, e1, q⟩ := rds_get (i := i) (d := d) r2 (by simpa using e)
      exact ⟨u, by simpa using e1, q⟩
theorem rds_len {h : Heap} : ∀ {vs : List Value} {ds : List PyData} {as : List Addr}, ReadsAll h vs ds as → vs.length = ds.length
  | _, [], _, r => by cases r; rfl
  | _, d :: ds, _, r => by
    cases r with
    | cons r1 r2 => rw [List.length_cons, List.length_cons, rds_len r2]
theorem rd_tup {h : Heap} {u : Value} {ds : List PyData} (r : RdD h u (.tuple ds)) : ∃ a vs as, u = .ref a ∧ h.IsTuple a vs ∧ ReadsAll h vs.toList ds as := by
  obtain ⟨as, r⟩ := r
  cases r with
  | tuple h1 h2 h3 h4 => exact ⟨_, _, _, rfl, ⟨_, h1, h2, _, h3⟩, h4⟩
theorem gv_ix (k : Kn K mg base env F) {ds : List PyData} {i : Int} (j : Nat) (h1 : GV prog w A env F e1 (.tuple ds)) (h2 : GV prog w A env F e2 (.int i)) (hi : i = (j : Nat)) (hd : ds[j]? = some d) (hl : ds.length < 2 ^ 62) (hs : PlainIx e2 := by exact fun _ _ => rfl) : GV prog w A env F (.Subscript e1 e2 pos) d := by
  intro E Q s hF q
  refine Subscript_ (gv_two h1 h2 hF fun u v s2 r1 r2 f2 k2 => ?_)
  obtain ⟨a, vs, as, rfl, ht, ra⟩ := rd_tup r1
  obtain ⟨t, rfl⟩ := rd_int r2
  obtain ⟨u, eu, ru⟩ := rds_get ra hd
  have hlen := rds_len ra
  have hj : j < ds.length := (List.getElem?_eq_some_iff.mp hd).1
  rw [Array.length_toList] at hlen
  rw [Array.getElem?_toList] at eu
  subst hi
  exact subscriptTail_builtinR (x := u) (show IsTup s2.heap a vs from ht).typeIs slot_tuple_getitem.lookup
    (getItem_tuple (j := j) (Q := fun r s' => r = u ∧ Q r s') ht (by omega) (by omega) (by rw [seqIndex_of (by omega) (by omega), Int.toNat_natCast]) eu ⟨rfl, q u s2 ru f2 k2⟩) (hs _ _)
theorem gv_and (k : Kn K mg base env F) (h1 : GV prog w A env F e1 (.bool x)) (h2 : x = true → GV prog w A env F (.BoolOp .And (e2 :: rest) pos) (.bool y)) : GV prog w A env F (.BoolOp .And (e1 :: e2 :: rest) pos) (.bool (x && y)) := by
  intro E Q s hs q
  refine BoolOp_and (h1 E _ s hs fun u s1 r1 f1 k1 => ?_)
  obtain rfl := rd_bl r1
  refine wpAny_truthy_bool ?_
  cases x with
  | true => exact h2 rfl E Q s1 f1 fun v s2 r2 f2 k2 => q v s2 r2 f2 (kp_trans k1 k2)
  | false => exact q _ s1 rdB f1 k1
theorem gv_one {op} (h : GV prog w A env F e d) : GV prog w A env F (.BoolOp op [e] pos) d := fun E Q s hs q => BoolOp_one (h E Q s hs q)
theorem gv_not (h : GV prog w A env F e (.bool x)) : GV prog w A env F (.UnaryOp .Not e pos) (.bool (!x)) := by
  intro E Q s hs q
  refine UnaryOp_ (h E _ s hs fun u s1 r1 f1 k1 => ?_)
  obtain rfl := rd_bl r1
  exact not_of (wpAny_truthy_bool (q _ s1 rdB f1 k1))
theorem gv_lt (k : Kn K mg base env F) {i j : Int} (h1 : GV prog w A env F e1 (.int i)) (h2 : GV prog w A env F e2 (.int j)) : GV prog w A env F (.Compare e1 [.Lt] [e2] pos) (.bool (decide (i < j))) := by
  intro E Q s hs q
  refine wpAny_Compare1 (gv_two h1 h2 hs fun u v s2 r1 r2 f2 k2 => ?_) (nomark _)
  obtain ⟨t, rfl⟩ := rd_int r1
  obtain ⟨t', rfl⟩ := rd_int r2
  exact lt_int (q _ _ rdB f2 k2)
theorem gv_chain (k : Kn K mg base env F) {i j m : Int} (h1 : GV prog w A env F e1 (.int i)) (h2 : GV prog w A env F e2 (.int j)) (h3 : GV prog w A env F e3 (.int m)) (hm : lastMarks [CmpOp.LtE, CmpOp.LtE] [e2, e3] = false := by with_unfolding_all rfl) :
    GV prog w A env F (.Compare e1 [.LtE, .LtE] [e2, e3] pos) (.bool (decide (i ≤ j) && decide (j ≤ m))) := by
  intro E Q s hs q
  refine Compare_chain (h1 E _ s hs fun u s1 r1 f1 k1 => chain_link (h2 E _ s1 f1 fun v s2 r2 f2 k2 => ?_)) hm
  obtain ⟨t, rfl⟩ := rd_int r1
  obtain ⟨t', rfl⟩ := rd_int r2
  refine le_int (wpAny_truthy_bool ?_)
  by_cases hij : i ≤ j
  · rw [decide_eq_true hij] at q ⊢
    refine ite_tt (chain_last (h3 E _ s2 f2 fun z s3 r3 f3 k3 => ?_))
    obtain ⟨t3, rfl⟩ := rd_int r3
    exact le_int (q _ _ (rdB' (Bool.true_and _).symm) f3 (kp_trans (kp_trans k1 k2) k3))
  · rw [decide_eq_false hij] at q ⊢
    exact ite_ff (q _ _ (rdB' (Bool.false_and _).symm) f2 (kp_trans k1 k2))
theorem gv_in (k : Kn K mg base env F) {i : Int} {ns : List Int} (h1 : GV prog w A env F e1 (.int i)) (h2 : GV prog w A env F e2 (tupD ns)) (hu : A.units + 65 < cLine) (hm : behindInMarks .In e2 = false := by rfl) : GV prog w A env F (.Compare e1 [.In] [e2] pos) (.bool (decide (i ∈ ns))) := by
  intro E Q s hs q
  refine wpAny_Compare1 (gv_two h1 h2 hs fun u v s2 ⟨as, r1⟩ ⟨bs, r2⟩ f2 k2 => ?_) hm
  refine SeqAt.in_tuple_reads r2 r1 (canLay_ints ns) (by simp [PyData.canLay0]) (by rw [depthAll_ints]; omega) (q _ _ (rdB' ?_) f2 k2)
  have e : ((ns.map PyData.int).any fun y => PyData.eqv y (.int i)) = decide (i ∈ ns) := by
    rw [List.any_map, Bool.eq_iff_iff, List.any_eq_true, decide_eq_true_eq]
    constructor
    · rintro ⟨y, hy, e⟩
      have e' : PyData.eqv (.int y) (.int i) = true := e
      simp only [PyData.eqv, beq_iff_eq] at e'
      rw [← e']
      exact hy
    · intro h
      refine ⟨i, h, ?_⟩
      show PyData.eqv (.int i) (.int i) = true
      simp [PyData.eqv]
  exact e
/-- p >= q, two pairs -/
def geP (p q : Int × Int) : Bool := if p.1 = q.1 then decide (q.2 ≤ p.2) else decide (q.1 ≤ p.1)
theorem gv_geP (k : Kn K mg base env F) {p q : Int × Int} (h1 : GV prog w A env F e1 (prD p)) (h2 : GV prog w A env F e2 (prD q)) (hu : A.units < cLine) : GV prog w A env F (.Compare e1 [.GtE] [e2] pos) (.bool (geP p q)) := by
  intro E Q s hs qq
  refine wpAny_Compare1 (gv_two h1 h2 hs fun u v s2 r1 r2 f2 k2 => ?_) (nomark _)
  obtain ⟨a, vs, as, rfl, ha, ra⟩ := rd_tup r1
  obtain ⟨b, us, bs, rfl, hb, rb⟩ := rd_tup r2
  obtain ⟨a0, ea0, ra0⟩ := rds_get (i := 0) ra rfl
  obtain ⟨a1, ea1, ra1⟩ := rds_get (i := 1) ra rfl
  obtain ⟨b0, eb0, rb0⟩ := rds_get (i := 0) rb rfl
  obtain ⟨b1, eb1, rb1⟩ := rds_get (i := 1) rb rfl
  obtain ⟨t0, rfl⟩ := rd_int ra0
  obtain ⟨t1, rfl⟩ := rd_int ra1
  obtain ⟨t2, rfl⟩ := rd_int rb0
  obtain ⟨t3, rfl⟩ := rd_int rb1
  have la : vs.size = 2 := by have := rds_len ra; rw [Array.length_toList] at this; exact this
  have lb : us.size = 2 := by have := rds_len rb; rw [Array.length_toList] at this; exact this
  rw [Array.getElem?_toList] at ea0 ea1 eb0 eb1
  have at0 : ∀ (h : 0 < vs.size), vs[0] = .int p.1 t0 := fun h => by rw [Array.getElem?_eq_getElem h] at ea0; exact Option.some.inj ea0
  have at1 : ∀ (h : 1 < vs.size), vs[1] = .int p.2 t1 := fun h => by rw [Array.getElem?_eq_getElem h] at ea1; exact Option.some.inj ea1
  have bt0 : ∀ (h : 0 < us.size), us[0] = .int q.1 t2 := fun h => by rw [Array.getElem?_eq_getElem h] at eb0; exact Option.some.inj eb0
  have bt1 : ∀ (h : 1 < us.size), us[1] = .int q.2 t3 := fun h => by rw [Array.getElem?_eq_getElem h] at eb1; exact Option.some.inj eb1
  have R := Ob.RcOp.tuples_ge (A := A) (s := s2) (e := fun j => if j = 0 then (p.1 == q.1) else (p.2 == q.2)) (r := fun j => if j = 0 then decide (q.1 ≤ p.1) else decide (q.2 ≤ p.2)) ha hb hu
    (fun j j1 j2 => by
      match j, j1, j2 with
      | 0, j1, j2 =>
        rw [at0 j1, bt0 j2]
        exact SeqAt.EqAt.int_int _ _ _ _
      | 1, j1, j2 =>
        rw [at1 j1, bt1 j2]
        exact SeqAt.EqAt.int_int _ _ _ _
      | j + 2, j1, j2 => omega)
    (fun j j1 j2 _ => by
      match j, j1, j2 with
      | 0, j1, j2 =>
        rw [at0 j1, bt0 j2]
        exact Ob.RcOp.ge_int _ _ _ _
      | 1, j1, j2 =>
        rw [at1 j1, bt1 j2]
        exact Ob.RcOp.ge_int _ _ _ _
      | j + 2, j1, j2 => omega)
  rw [la, lb] at R
  refine R prog w E Q (qq _ _ (rdB' ?_) f2 k2)
  have e : Ob.lexAt (fun j => if j = 0 then (p.1 == q.1) else (p.2 == q.2)) (fun j => if j = 0 then decide (q.1 ≤ p.1) else decide (q.2 ≤ p.2)) (decide (2 ≥ 2)) 0 (min 2 2) = geP p q := by
    show (if (p.1 == q.1) = true then (if (p.2 == q.2) = true then decide (2 ≥ 2) else decide (q.2 ≤ p.2)) else decide (q.1 ≤ p.1)) = geP p q
    unfold geP
    by_cases h1 : p.1 = q.1
    · rw [if_pos (beq_iff_eq.mpr h1), if_pos h1]
      by_cases h2 : p.2 = q.2
      · rw [if_pos (beq_iff_eq.mpr h2)]
        rw [Bool.eq_iff_iff]
        simp
        omega
      · rw [if_neg (fun z => h2 (beq_iff_eq.mp z))]
    · rw [if_neg (fun z => h1 (beq_iff_eq.mp z)), if_neg h1]
  exact e
/-! built-in names, isinstance -/
theorem gv_bltn (k : Kn K mg base env F) {n : Str} {u : Value} {E : Value → Shared → Prop} {Q : Value → Shared → Prop} {s : Shared} (hs : F s) (hk : env.kindOf n = some .globalImplicit) (hm : mg n = none) (hv : bootBuiltins n = some u) (q : Q u s)
    (hn : n ≠ "__name__" := by decide) (hd : (n == ("__debug__" : Str)) = false := by decide) : wpAny (model prog w) A (eval (.Name n pos) env) Q E s := by
  obtain ⟨mb, h1, h2⟩ := k.mod.blt
  exact Calls.Name_function_global k.kind hk (Calls.loadGlobal_builtin (by rw [k.glob]; exact k.mod.glob.keeps (k.bin s hs)) hm (by rw [k.blt]; exact h1.keeps (k.bin s hs)) ((h2 n hn).trans hv) q) hd
theorem gv_isi (k : Kn K mg base env F) {T : Str} {t : String} {i : Int} (h : GV prog w A env F e (.int i)) (hk : kitB "int" t = some x) (hv : bootBuiltins T = some (.type t)) (hT : mg T = none) (hm : mg "isinstance" = none) (g : env.kindOf "isinstance" = some .globalImplicit) (gT : env.kindOf T = some .globalImplicit)
    (hn : T ≠ "__name__" := by decide) (hdb : (T == ("__debug__" : Str)) = false := by decide)
    (he : starEach [e, .Name T p2] env = (false, eval e env) :: starEach [.Name T p2] env := by rfl) (he2 : starEach [.Name T p2] env = (false, eval (.Name T p2) env) :: starEach [] env := by rfl) (hpl : (backTo pos (starEach [.Name T p2] env)).any (·.1) = false := by rfl) :
    GV prog w A env F (.Call (.Name "isinstance" p) [e, .Name T p2] [] pos) (.bool x) := by
  intro E Q s hs q
  refine wpAny_Call_Name_kw (gv_bltn k hs g hm boot_isinstance ?_)
  refine PyProof.Rows.callWith_builtin1 ?_ he hpl
  rw [he]
  show wpAny _ _ (spliced ((false, eval e env) :: backTo pos (starEach [.Name T p2] env))) _ _ s
  refine Calls.spliced_cons (h E _ s hs fun u s1 r1 f1 k1 => ?_)
  rw [he2]
  show wpAny _ _ (spliced ((false, eval (.Name T p2) env) :: backTo pos (starEach [] env))) _ _ s1
  refine Calls.spliced_cons (gv_bltn k f1 gT hT hv (Calls.spliced_nil ?_) hn hdb)
  obtain ⟨tt, rfl⟩ := rd_int r1
  refine PySem.W.kia_one (K := K) (PySem.W.kitx_int (K := K)) (k.mod.kin.keeps (k.bin s1 f1)) True.intro (kit_ty hk) (fun z => nomatch z) fun tk => ?_
  exact q _ _ rdB (k.keep _ _ f1 (kp_tok _ _)) (kp_trans k1 (kp_tok _ _))
end

/-! ### is_in, called from anywhere -/
section
variable {prog : Program} {w : World} {A : Around} {K : PySem.W.Frag} {mg : Str → Option Value} {base : Heap}
theorem raw_is_in {f : Addr} {fd : FuncData} (Fn : Fun K "is_in" "is_in" sIsIn f fd) (M : Mod K mg base) (mi : mg "isinstance" = none) (mt : mg "int" = none) (mb : mg "bool" = none) {s : Shared} {i a b : Int} {t1 t2 t3 : Tok} {E : Value → Shared → Prop} {Q : Value → Shared → Prop}
    (hb : ∀ c o, base.get? c = some o → s.heap.get? c = some o) (hd : A.depth < recursionLimit) (q : ∀ s', Keeps s s' → Q (.bool (decide (a ≤ i) && decide (i ≤ b))) s') :
    wpAny (model prog w) A (call (.ref f) [.int i t1, .int a t2, .int b t3]) Q E s := by
  obtain ⟨oc, od, kV, doc, pm, an, cdv, ct, osl, rfl, lk, hcd⟩ := Fn.ex
  have KX : K.In s.heap := M.kin.keeps hb
  have lim : s.heap.NoLimit := M.nolimit.keeps hb
  refine wpAny_call (codeAny_call_function hd (KX _ _ lk) rfl rfl rfl rfl (PySem.W.codeRec_of KX hcd) ?_)
  refine BindsTo.of_eq (binds := [("value" : Str), "least", "most"].zip [Value.int i t1, .int a t2, .int b t3]) rfl _ _ _ _ ?_
  refine wpAny_newFunctionEnv_cells rfl (fun y hy => .inl (scIsIn.par y.1 (List.of_mem_zip hy).1 |>.resolve_right (by
    have := (List.of_mem_zip hy).1
    intro z
    have hm : y.1 ∈ ([("value" : Str), "least", "most"] : List Str) := this
    have hall : ∀ n ∈ ([("value" : Str), "least", "most"] : List Str), (defScope sIsIn).names.lookup n ≠ some .cell := by decide +kernel
    exact hall y.1 hm z))) fun env he s1 x => ?_
  refine ⟨lim.keeps x.toInCall.keep, codeAny_func ?_⟩
  have hns := x.toInCall.ns
  have kpx : Keeps s s1 := by
    obtain ⟨h', tk, e, k'⟩ := x.done
    exact ⟨h', tk, e, k'⟩
  have k : Kn K mg base env (fun s' => Keeps s1 s') := ⟨fun _ _ a b => kp_trans a b, fun s' h c o e => kp_all h c o (kp_all kpx c o (hb c o e)), M, by rw [he]; rfl, by rw [he]; rfl, by rw [he]; rfl⟩
  have nm : ∀ (n : Str) (j : Int) (t : Tok), env.kindOf n = some .local → (∃ m, s1.heap.Ns env.locals m ∧ m n = some (.int j t)) → Nm env (fun s' => Keeps s1 s') n (.int j) := fun n j t h ⟨m, h1, h2⟩ s' ks =>
    ⟨.int j t, rdI, .inl ⟨h, m, h1.keeps (kp_all ks), h2⟩⟩
  have n0 := nm "value" i t1 (by rw [he]; rfl) ⟨_, hns, by rw [he]; rfl⟩
  have n1 := nm "least" a t2 (by rw [he]; rfl) ⟨_, hns, by rw [he]; rfl⟩
  have n2 := nm "most" b t3 (by rw [he]; rfl) ⟨_, hns, by rw [he]; rfl⟩
  refine wpAny_execs_cons (wpAny_Return_some ?_)
  refine gv_use (d := .bool (true && (!false && (decide (a ≤ i) && decide (i ≤ b))))) (F := fun s' => Keeps s1 s') ?_ (kp_refl s1) fun y s' r f kk => ?_
  · exact gv_and k (gv_isi k (gv_name k n0) kb_ii PyProof.Rows.boot_int mt mi (by rw [he]; rfl) (by rw [he]; rfl)) fun _ => gv_and k (gv_not (gv_isi k (gv_name k n0) kb_ib boot_boolT mb mi (by rw [he]; rfl) (by rw [he]; rfl))) fun _ => gv_one (gv_chain k (gv_name k n1) (gv_name k n0) (gv_name k n2))
  · obtain rfl := rd_bl r
    exact q s' (kp_trans kpx kk)
end
end FK
set_option Elab.async false
set_option linter.all false
set_option maxRecDepth 100000
set_option maxHeartbeats 2000000
/-! any, all of a generator expression over data. -/
namespace FK
open PySem PySem.Spec PyProof.Rows L2

/-! ### reading through a growing table -/
def KpF (h h' : Heap) : Prop := ∀ b o, h.get? b = some o → (∀ fs, o.data ≠ .fields fs) → h'.get? b = some o
mutual
theorem reads_kpF {h h' : Heap} (k : KpF h h') : ∀ {v : Value} {d : PyData} {as : List Addr}, Reads h v d as → Reads h' v d as
  | _, _, _, .none => .none
  | _, _, _, .bool b => .bool b
  | _, _, _, .int i t => .int i t
  | _, _, _, .str x t => .str x t
  | _, _, _, .list h1 h2 h3 h4 => .list (k _ _ h1 fun fs z => by rw [h3] at z; cases z) h2 h3 (readsAll_kpF k h4)
  | _, _, _, .tuple h1 h2 h3 h4 => .tuple (k _ _ h1 fun fs z => by rw [h3] at z; cases z) h2 h3 (readsAll_kpF k h4)
  | _, _, _, .dict h1 h2 h3 h4 h5 => .dict (k _ _ h1 fun fs z => by rw [h3] at z; cases z) h2 h3 (readsAll_kpF k h4) (readsAll_kpF k h5)
theorem readsAll_kpF {h h' : Heap} (k : KpF h h') : ∀ {vs : List Value} {ds : List PyData} {as : List Addr}, ReadsAll h vs ds as → ReadsAll h' vs ds as
  | _, _, _, .nil => .nil
  | _, _, _, .cons a b => .cons (reads_kpF k a) (readsAll_kpF k b)
end
theorem RdD.kpF {h h' : Heap} {u : Value} {d : PyData} (r : RdD h u d) (k : KpF h h') : RdD h' u d := by
  obtain ⟨as, r⟩ := r
  exact ⟨as, reads_kpF k r⟩

/-- the world lets the table at P grow -/
structure TabW (W : Wd) (P : Addr) : Prop where
  tab : ∀ H, W.J H → GxR.TabG H P
  mu : ∀ ps, W.mu P (.tbl ps)
  st : ∀ H H', W.J H → GxR.Tabbed P H H' → W.J H'
theorem TabW.ex {W : Wd} {P : Addr} (t : TabW W P) {H H' : Hp} (j : W.J H) (h : GxR.Tabbed P H H') : Ex W H H' := fun a o e n => by
  by_cases ha : a = P
  · subst ha
    obtain ⟨ps, h1, _⟩ := t.tab H j
    rw [h1] at e
    cases e
    exact absurd (t.mu ps) n
  · rw [h.2 a ha]
    exact e
theorem tabW0 {TG : List Addr} {TL : List (Addr × Str)} {P : Addr} (h : P ∈ TG) (hd : ∀ p ∈ TL, p.1 ≠ P) : TabW (W0 TG TL) P := by
  refine ⟨fun H j => j.1 P h, fun ps => ⟨ps, rfl⟩, fun H H' j ht => ⟨fun R hR => ?_, fun p hp => ?_⟩⟩
  · by_cases e : R = P
    · rw [e]
      exact ht.1
    · obtain ⟨ps, h1, h2⟩ := j.1 R hR
      exact ⟨ps, (ht.2 R e).trans h1, h2⟩
  · obtain ⟨ps, h1, h2, h3⟩ := j.2 p hp
    refine ⟨ps, (ht.2 _ (hd p hp)).trans h1, h2, fun pos cv hc => ?_⟩
    obtain ⟨c, e1, e2⟩ := h3 pos cv hc
    refine ⟨c, e1, (ht.2 c fun z => ?_).trans e2⟩
    obtain ⟨qs, h4, _⟩ := j.1 P h
    rw [z, h4] at e2
    exact codeO_not (fun f z => by cases z) (Option.some.inj e2)

theorem _root_.PySem.Walks.bounded {prog : Program} {w : World} {A : Around} {I : Addr} {fp wr : List Addr} {n : Nat} {P : Nat → Value → Prop} {St : Nat → Heap → Prop} (W : Walks prog w A I fp wr n P St) : Walks prog w A I fp wr n (fun i v => i < n ∧ P i v) St where
  sub := W.sub
  frame := W.frame
  item := fun i s Q E hi st hQ => W.item i s Q E hi st fun v h' tk hv st' hk => hQ v h' tk ⟨hi, hv⟩ st' hk
  done := W.done
  self := W.self
/-! ### what is walked -/
def GI (X : Cx) (W : Wd) (ρ : Rho) (iter : Expr) (ds : List PyData) : Prop :=
  ∀ (pins : List (Addr × Obj)) (s : Shared) (σ : L2.St) (H : Hp) (Q : Value → Shared → Prop), Inv X pins σ H s → W.J H → SlOk X.K H σ ρ →
    (∀ (s1 : Shared) (h2 : Heap) (t2 : Nat) (H1 : Hp) (Ia : Addr) (fp wr : List Addr) (St : Nat → Heap → Prop) (Pf : Nat → Value → Prop), Inv X pins σ H1 s1 → Ex W H H1 → W.J H1 →
      (∀ b o, s1.heap.get? b = some o → h2.get? b = some o) → s1.heap.objs.size ≤ h2.objs.size →
      (∀ A' : Around, A'.handled = none → Walks X.prog X.w A' Ia fp wr ds.length Pf St) → St 0 h2 →
      (∀ b ∈ fp, b < h2.objs.size ∧ ∀ o, s1.heap.get? b = some o → ∀ fs, o.data ≠ .fields fs) → (∀ b ∈ wr, s1.heap.objs.size ≤ b) →
      (∀ i v, Pf i v → ∃ d, ds[i]? = some d ∧ RdD s1.heap v d) → Q (.ref Ia) { s1 with heap := h2, toks := t2 }) →
    wpAny (model X.prog X.w) X.A (eval iter X.env) (fun xv s1 => wpAny (model X.prog X.w) X.A (pyIter xv) Q X.xe s1) X.xe s
section
variable {X : Cx} {W : Wd} {ρ : Rho} {it a : Expr} {p pos : Pos}
theorem gi_tup {ds : List PyData} (h : DE X W ρ it (.d (.tuple ds))) : GI X W ρ it ds := by
  intro pins s σ H Q I j sl q
  refine thn (h.run pins s σ H _ I ⟨j, sl, fun v H1 x1 j1 r1 => (⟨x1, j1, r1⟩ : Ex W H H1 ∧ W.J H1 ∧ AvOk X.K H1 v _)⟩) fun u s1 ⟨v, H1, I1, r, x1, j1, r1⟩ => ?_
  obtain ⟨ax, xs, rfl, hs, ha⟩ := dp_tup r1
  cases r
  obtain ⟨its, rv, hp, _⟩ := I1.tuple hs
  have ht : s1.heap.IsTuple ax its.toArray := hp
  obtain ⟨_, ra⟩ := L2.Dp.readsAll I1 ds xs its (dq_dpAll ds xs ha) rv
  have hlen := rds_len ra
  have axl : ax < s1.heap.objs.size := by
    obtain ⟨o, e, _⟩ := ht
    exact Heap.lt_size e
  refine wpAny_pyIter_tuple ht ?_
  refine q s1 _ s1.toks H1 s1.heap.objs.size [s1.heap.objs.size, ax] [s1.heap.objs.size] (fun i h => h.IsTupleIter s1.heap.objs.size ax i ∧ h.IsTuple ax its.toArray) (fun i v => its.toArray[i]? = some v) I1 x1 j1 (fun b o e => Heap.get?_push_of_some _ e) (by rw [Heap.size_push]; omega)
    (fun A' hA => by
      have e : its.toArray.size = ds.length := by rw [← hlen]; simp
      rw [← e]
      exact PySem.Walks.tuple hA s1.heap.objs.size ax (Nat.ne_of_lt axl) its.toArray) ⟨⟨_, Heap.get?_push_size _ rfl, rfl, rfl⟩, ?_⟩ (fun b hb => ?_) (fun b hb => ?_) fun i v hv => ?_
  · obtain ⟨o, e, r⟩ := ht
    exact ⟨o, Heap.get?_push_of_some _ e, r⟩
  · rcases List.mem_cons.mp hb with z | z
    · subst z
      refine ⟨by rw [Heap.size_push]; exact Nat.lt_succ_self _, fun o e => absurd (Heap.lt_size e) (Nat.lt_irrefl _)⟩
    · rw [List.mem_singleton] at z
      subst z
      refine ⟨by rw [Heap.size_push]; exact Nat.lt_succ_of_lt axl, fun o e fs z => ?_⟩
      obtain ⟨o', e', _, n, d'⟩ := ht
      rw [e] at e'
      cases e'
      rw [z] at d'
      cases d'
  · rw [List.mem_singleton] at hb
    rw [hb]
    exact Nat.le_refl _
  · have hv' : its[i]? = some v := by simpa using hv
    have hi : i < ds.length := by rw [← hlen]; exact (List.getElem?_eq_some_iff.mp hv').1
    obtain ⟨u, e1, r1⟩ := rds_get ra (List.getElem?_eq_getElem hi)
    rw [hv'] at e1
    cases e1
    exact ⟨_, List.getElem?_eq_getElem hi, r1⟩
theorem gi_range {n : Int} (h : DE X W ρ a (.d (.int n))) (hm : X.mg "range" = none) (h1 : -(2 ^ 62) ≤ n) (h2 : n < 2 ^ 62) (hg : Gl X "range" := by rfl) (na : starEach [a] X.env = (false, eval a X.env) :: starEach [] X.env := by rfl) :
    GI X W ρ (.Call (.Name "range" p) [a] [] pos) ((ppl n.toNat).map .int) := by
  intro pins s σ H Q I j sl q
  refine thn (prg_1 hg hm h na pins s σ H (fun i k H1 => i = 0 ∧ k = n ∧ Ex W H H1 ∧ W.J H1) I ⟨j, sl, fun v H1 x1 j1 r1 => ⟨n, dp_int r1, rfl, rfl, x1, j1⟩⟩) fun xv s1 hx => ?_
  obtain ⟨r, i0, k0, t, u, v, H1, rfl, hr, I1, rfl, rfl, x1, j1⟩ := hx
  refine wpAny_pyIter_range hr (small_one (by omega) (by omega) h1 h2) ?_
  refine q s1 _ s1.toks H1 s1.heap.objs.size [s1.heap.objs.size] [s1.heap.objs.size] (fun i h => IsRangeIter h s1.heap.objs.size ((0 : Int) + (i : Nat) * 1) ((k0.toNat : Int) - (i : Nat)) 1) (fun i v => i < k0.toNat ∧ ∃ t, v = .int ((0 : Int) + (i : Nat) * 1) t) I1 x1 j1 (fun b o e => Heap.get?_push_of_some _ e) (by rw [Heap.size_push]; omega)
    (fun A' hA => by
      have e : ((ppl k0.toNat).map PyData.int).length = k0.toNat := by rw [List.length_map, ppl_len]
      rw [e]
      exact (PySem.Walks.range hA s1.heap.objs.size 0 1 k0.toNat).bounded) ?_ (fun b hb => ?_) (fun b hb => ?_) fun i v hv => ?_
  · have e1 : (0 : Int) + ((0 : Nat) : Int) * 1 = 0 := by simp
    have e2 : (k0.toNat : Int) - ((0 : Nat) : Int) = Builtin.Range.rangeSize 0 k0 1 := by rw [rangeSize_one]; split <;> omega
    show IsRangeIter _ _ ((0 : Int) + ((0 : Nat) : Int) * 1) ((k0.toNat : Int) - ((0 : Nat) : Int)) 1
    rw [e1, e2]
    exact Heap.get?_push_size _ rfl
  · rw [List.mem_singleton] at hb
    subst hb
    exact ⟨by rw [Heap.size_push]; exact Nat.lt_succ_self _, fun o e => absurd (Heap.lt_size e) (Nat.lt_irrefl _)⟩
  · rw [List.mem_singleton] at hb
    rw [hb]
    exact Nat.le_refl _
  · obtain ⟨hi, t, rfl⟩ := hv
    refine ⟨.int i, ?_, ?_⟩
    · unfold ppl
      rw [List.getElem?_map, List.getElem?_map, List.getElem?_range hi]
      rfl
    · have e : (0 : Int) + (i : Int) * 1 = i := by omega
      rw [e]
      exact rdI
end

/-- a generator expression's scope within the def's -/
structure GenT (sc scope : Scope) (x : Str) : Prop where
  kind : scope.kind = .function
  co : scope.isCoroutine = false
  cell : ∀ y ∈ scope.names, y.2 ≠ .cell
  dot : scope.names.lookup (".0" : Str) = some NameKind.local
  loc : scope.names.lookup x = some .local
  free : ∀ y ∈ scope.names, y.2 = .free → sc.names.lookup y.1 = some .cell
def genTB (sc scope : Scope) (x : Str) : Bool :=
  decide (scope.kind = .function) && !scope.isCoroutine && (scope.names.all fun y => !decide (y.2 = .cell)) && decide (scope.names.lookup (".0" : Str) = some NameKind.local) && decide (scope.names.lookup x = some .local) && scope.names.all fun y => !decide (y.2 = .free) || decide (sc.names.lookup y.1 = some .cell)
theorem genT_by {sc scope : Scope} {x : Str} (h : genTB sc scope x = true) : GenT sc scope x := by
  unfold genTB at h
  simp only [Bool.and_eq_true, decide_eq_true_eq, Bool.not_eq_true', List.all_eq_true, Bool.or_eq_true, decide_eq_false_iff_not] at h
  obtain ⟨⟨⟨⟨⟨h1, h2⟩, h3⟩, h4⟩, h5⟩, h6⟩ := h
  exact ⟨h1, h2, h3, h4, h5, fun y hy e => (h6 y hy).resolve_left fun z => z e⟩
theorem GenT.toS {X : Cx} {scope : Scope} {x : Str} (T : GenT X.env.scope scope x) (ok : X.Ok) : GxR.GenS X.env scope x := ⟨T.kind, T.co, T.cell, T.dot, T.loc, fun y hy e => ok.has _ (.inl (T.free y hy e))⟩
/-! ### the element -/
/-- in the generator expression's environment: the captured names -/
def Capt (X : Cx) (ρ : Rho) (scope : Scope) (cenv : Env) (F : Shared → Prop) : Prop :=
  ∀ (j : Nat) (y : Str) (d : PyData), X.N[j]? = some y → ρ[j]? = some (some (.d d)) → X.env.scope.names.lookup y = some .cell → scope.names.lookup y = some .free → Nm cenv F y d
def ElG (X : Cx) (ρ : Rho) (scope : Scope) (x : Str) (elt : Expr) (ds : List PyData) (pb : Nat → Bool) : Prop :=
  ∀ (cenv : Env) (A' : Around) (F : Shared → Prop) (i : Nat) (d : PyData), Kn X.K X.mg X.base cenv F → cenv.scope = scope → A'.depth ≤ X.A.depth + 1 → A'.units ≤ X.A.units + 8 → ds[i]? = some d → Nm cenv F x d → Capt X ρ scope cenv F →
    GV X.prog X.w A' cenv F elt (.bool (pb i))
/-- the generator g over n things, ready to be walked, in the state s5 -/
def ReadyG (X : Cx) (pins : List (Addr × Obj)) (σ : L2.St) (H1 : Hp) (P : Addr) (n : Nat) (pb : Nat → Bool) (g : Addr) (s5 : Shared) : Prop :=
  ∃ (fp wr : List Addr) (G : Array GenState → Array GenState → Prop) (F : Nat → Value → Prop) (St : Nat → Shared → Prop),
    WalksS X.prog X.w X.A.in1 g fp wr G n F St ∧ St 0 s5 ∧ TruthOf X.prog X.w X.A.in1 F pb ∧
    ∀ s', Moved wr G s5 s' → ∃ H2, GxR.Tabbed P H1 H2 ∧ Inv X pins σ H2 s'
section
variable {X : Cx} {W : Wd} {ρ : Rho} {pins : List (Addr × Obj)} {σ : L2.St} {H : Hp} {s : Shared}
theorem lookup_mem' {α : Type} {l : List (Str × α)} {n : Str} {c : α} (h : l.lookup n = some c) : (n, c) ∈ l := by
  induction l with
  | nil => simp at h
  | cons q r ih =>
    obtain ⟨a, b⟩ := q
    rw [List.lookup_cons] at h
    by_cases e : n == a
    · rw [e] at h
      have e' : n = a := by simpa using e
      cases h
      rw [e']
      exact List.mem_cons_self
    · rw [Bool.not_eq_true] at e
      rw [e] at h
      exact List.mem_cons_of_mem _ (ih h)
theorem capt_of {H1 : Hp} {s1 : Shared} {scope : Scope} {x : Str} {C : Addr} {code : Value} {bi : Addr} {F : Shared → Prop} (S : GxR.GenS X.env scope x) (I1 : Inv X pins σ H1 s1) (sl : SlOk X.K H1 σ ρ) (hF : ∀ s', F s' → KpF s1.heap s'.heap) :
    Capt X ρ scope (genEnv scope (cloFrom X.env.cells scope.names []) C code bi X.env) F := by
  intro j y d hy hr hc hf s' hs'
  obtain ⟨v, e1, r1⟩ := sl.get j _ hr
  obtain ⟨m, hn, hl⟩ := I1.loc
  obtain ⟨u, ru, lk⟩ := hl j y v hy e1 (.inr (.inl hc))
  obtain ⟨as, rd⟩ := L2.Dp.reads I1 d v u (dq_dp d v r1) ru
  refine ⟨u, RdD.kpF ⟨as, rd⟩ (hF s' hs'), .inr ⟨hf, ?_⟩⟩
  rcases lk with ⟨h1, _⟩ | ⟨_, c, h1, h2⟩
  · have h1' : X.env.scope.names.lookup y = some .local := h1
    rw [hc] at h1'
    cases h1'
  · refine ⟨c, NdefX.clo_has S.free (lookup_mem' hf) h1, ?_⟩
    obtain ⟨o, ho, hd⟩ := h2
    exact ⟨o, hF s' hs' c o ho (fun fs z => by rw [hd] at z; cases z), hd⟩
theorem gen_walk {c P : Addr} {elt iter : Expr} {x : Str} {px gpos : Pos} {scope : Scope} {ds : List PyData} {pb : Nat → Bool} {k : Nat} {Q' : Value → Shared → Prop}
    (hr : Room k X.A) (TB : GxR.TabB X.base X.mg c P) (hcode : X.env.code = .ref c) (S : GxR.GenS X.env scope x) (hi : GI X W ρ iter ds) (TW : TabW W P) (hel : ElG X ρ scope x elt ds pb)
    (hs : ∀ v, genFold iter X.env v = pure v) (I : Inv X pins σ H s) (hj : W.J H) (sl : SlOk X.K H σ ρ)
    (hQ : ∀ H1 g s5, Ex W H H1 → W.J H1 → ReadyG X pins σ H1 P ds.length pb g s5 → Q' (.ref g) s5) :
    wpAny (model X.prog X.w) X.A (eval (.GeneratorExp elt [⟨.Name x px, iter, [], 0⟩] scope gpos) X.env) Q' X.xe s := by
  refine wpAny_GeneratorExp_walksQD hr.hd S.co (closure_ok S.free) S.cell S.dot S.loc S.kind (by have := hr.dp; omega) ?_ hs
  refine hi pins s σ H _ I hj sl fun s1 h2 t2 H1 Ia fp wr St Pf I1 x1 j1 k2 sz2 W2 hst hfp hwr hPf => ?_
  obtain ⟨ps, hP, ht⟩ := TW.tab H1 j1
  have sl1 := sl.mono x1
  have hPs : s1.heap.get? P = some { cls := .none, data := .fields ps } := I1.hok P _ hP
  have hPlt : P < s1.heap.objs.size := Heap.lt_size hPs
  have hP2 : h2.get? P = some { cls := .none, data := .fields ps } := k2 _ _ hPs
  have cd : PySem.W.CodeHd h2 c P := TB.code.keeps fun b u e => k2 b u (I1.bk b u e)
  have lim2 : h2.NoLimit := I1.nolimit.keeps k2
  have nfp : ∀ b ∈ fp, b ≠ P := fun b hb z => by
    subst z
    exact (hfp b hb).2 _ hPs ps rfl
  have cont : ∀ (code : Value) (h3 : Heap) (tk : Nat) (ps' : Array Value), Heap.ExtBut P h2 h3 → h2.objs.size ≤ h3.objs.size → h3.get? P = some { cls := .none, data := .fields ps' } → (∃ more, ps' = ps ++ more) → TriplesOk ps'.toList →
      wpAny (model X.prog X.w) X.A (builtinsFor X.env.globals X.env.builtins) (fun bi s₄ =>
        ∃ I fp wr n₀ Pf St₀ pz F, Value.ref Ia = .ref I ∧ (∀ A' : Around, A'.handled = none → Walks X.prog X.w A' I fp wr n₀ Pf St₀) ∧ St₀ 0 s₄.heap ∧ (∀ b ∈ fp, b < s₄.heap.objs.size) ∧ s₄.heap.NoLimit ∧ cStatics ∉ wr ∧
          (∀ href : Heap, (∀ b o, s₄.heap.get? b = some o → href.get? b = some o) →
            QuietGenD X.prog X.w (genEnv scope (cloFrom X.env.cells scope.names []) s₄.heap.objs.size code bi X.env) x [] elt (List.range s₄.heap.objs.size) wr Pf pz F href (X.A.depth + 1) (X.A.units + 8)) ∧
          (∀ a h₅ tk gs, gs.bare = true → s₄.heap.objs.size < a → h₅.objs.size = a + 1 → (∀ b o, s₄.heap.get? b = some o → h₅.get? b = some o) →
            WalksS X.prog X.w X.A.in4 a (a :: s₄.heap.objs.size :: List.range s₄.heap.objs.size) (s₄.heap.objs.size :: wr) (GenOnlyQ s₄.gens.size) (passing pz n₀ 0).length
              (fun j y => ∃ i, (passing pz n₀ 0)[j]? = some i ∧ F i y) (GenAt X.prog X.w X.A.in4 a s₄.gens.size s₄.heap.objs.size (List.range s₄.heap.objs.size) wr pz n₀ F) →
            GenAt X.prog X.w X.A.in4 a s₄.gens.size s₄.heap.objs.size (List.range s₄.heap.objs.size) wr pz n₀ F 0 { s₄ with gens := s₄.gens.push gs, toks := tk, heap := h₅ } →
            Q' (.ref a) { s₄ with gens := s₄.gens.push gs, toks := tk, heap := h₅ })) X.xe { s1 with heap := h3, toks := tk } := by
    intro code h3 tk ps' hx hsz hP3 hmore ht3
    obtain ⟨bm, ob, e1, e2, e3, e4, e5, e6, e7, e8⟩ := TB.bm
    have hcP : cStatics ≠ P := fun e => by
      obtain ⟨_, hns, _⟩ := I1.nolimit
      obtain ⟨o', es, ep, ho, hd, _⟩ := hns
      rw [e, hPs] at ho
      cases ho
      cases hd
    have hcl : cStatics < s1.heap.objs.size := let ⟨_, hns, _⟩ := I1.nolimit; hns.lt
    have keep3 : ∀ b u, b ≠ P → s1.heap.get? b = some u → h3.get? b = some u := fun b u hb e => hx b u hb (k2 b u e)
    refine wpAny_builtinsFor (m := X.mg) (by rw [I1.ok.glob]; exact ((I1.mod.glob.keeps I1.bk).keeps k2).extBut hx TB.gP) e1 e2 (keep3 _ _ e4 (I1.bk _ _ e5)) e6 e7 e8 ?_
    refine ⟨Ia, fp, wr, ds.length, Pf, St, (fun _ => true), (fun i y => i < ds.length ∧ y = .bool (pb i)), rfl, W2, ?_, ?_, lim2.extBut hx hcP, ?_, ?_, ?_⟩
    · exact (W2 X.A hr.hd).frame _ _ _ hst fun b hb u e => hx b u (nfp b hb) e
    · intro b hb
      exact Nat.lt_of_lt_of_le (hfp b hb).1 hsz
    · intro z
      exact absurd (hwr _ z) (Nat.not_le.mpr hcl)
    · intro href hhref
      refine ⟨fun A' E' i v s₂ m₂ hA hD hU hPv hn hm hk => ?_, fun A' E' i v s₂ m₂ hA hD hU hPv hp hn hm hk => ?_⟩
      · simp only [List.forIn_nil]
        exact wpAny_pure ⟨rfl, GxR.keeps_refl _⟩
      · obtain ⟨d, hd, rd⟩ := hPf i v hPv
        have hlt : i < ds.length := (List.getElem?_eq_some_iff.mp hd).1
        have kp2 : ∀ b o, b ≠ P → s1.heap.get? b = some o → s₂.heap.get? b = some o := fun b o hb e => by
          have hb3 := keep3 b o hb e
          refine hk b (List.mem_range.mpr (Heap.lt_size hb3)) (fun z => ?_) o (hhref b o hb3)
          exact absurd (hwr b z) (Nat.not_le.mpr (Heap.lt_size e))
        have kF : KpF s1.heap s₂.heap := fun b o e nf => kp2 b o (fun z => by
          subst z
          rw [hPs] at e
          cases e
          exact nf ps rfl) e
        have kf : ∀ s', Keeps s₂ s' → KpF s1.heap s'.heap := fun s' kk b o e nf => kp_all kk b o (kF b o e nf)
        refine gv_use (F := fun s' => Keeps s₂ s') (hel (genEnv scope (cloFrom X.env.cells scope.names []) h3.objs.size code builtinsNs X.env) A' _ i d ⟨fun _ _ a b => kp_trans a b, fun s' h b o e => kp_all h b o (kp2 b o (fun z => ?_) (I1.bk b o e)), I1.mod, S.kind, I1.ok.glob, rfl⟩ rfl hD hU hd ?_ (capt_of S I1 sl1 kf)) (kp_refl s₂) fun y s' r _ kk => ⟨⟨hlt, rd_bl r⟩, kk⟩
        · subst z
          have := (I1.bs _ _ e).2
          rw [hP] at this
          cases this
        · intro s' kk
          exact ⟨v, rd.kpF (kf s' kk), .inl ⟨S.loc, m₂, hn.keeps (kp_all kk), hm⟩⟩
    · intro g h5 tk5 gs hgb hag hsz5 hk5 W5 hat
      simp only [GxR.passing_true, List.length_range] at W5
      refine hQ H1 g _ x1 j1 ⟨_, _, _, _, _, W5.in4_1, hat, ?_, fun s' hm => ?_⟩
      · intro j y sj Qj Ej hy hQj
        obtain ⟨i, hij, hlt, rfl⟩ := hy
        obtain ⟨hj, ej⟩ := List.getElem?_eq_some_iff.mp hij
        rw [List.getElem_range] at ej
        subst ej
        exact wpAny_truthy_bool hQj
      · obtain ⟨more, em⟩ := hmore
        have hsz1 : s1.heap.objs.size ≤ h3.objs.size := Nat.le_trans sz2 hsz
        have nwr : ∀ b u, s1.heap.get? b = some u → b ∉ h3.objs.size :: wr := fun b u e hb => by
          have hl := Heap.lt_size e
          rcases List.mem_cons.mp hb with z | z
          · rw [z] at hl
            exact absurd hl (Nat.not_lt.mpr hsz1)
          · exact absurd (hwr b z) (Nat.not_le.mpr hl)
        have J := GxR.inv_tab (more := more) (h' := s'.heap) (g' := s'.gens) (d' := s'.drawn) (t' := s'.toks) I1 hP (fun b u hb e => hm.heap b u (nwr b u e) (hk5 b u (keep3 b u hb e)))
          (by rw [← em]; exact hm.heap P _ (nwr P _ hPs) (hk5 P _ hP3)) (AllBare.movedS (I1.bare.push hgb) hm)
        rw [GxR.sh_eta s1 s' hm.os] at J
        refine ⟨upd H1 P (.tbl (ps ++ more)), ⟨⟨ps ++ more, upd_same, by rw [← em]; exact ht3⟩, fun b hb => upd_ne hb⟩, J⟩
  refine ⟨lim2, ?_⟩
  cases hf : codeAmong gpos ps.toList with
  | none =>
    refine wpAny_genexprCodeX hcode (cd.code hP2 ht) (cd.tab hP2) hf fun c' h' tk hx hge hlt hco' _ htab' _ => ?_
    obtain ⟨o1, vs, f1, tf, fl, tg, inF, tx, tt, op, _, _, _, _, _, _, _, _, _, htr, _⟩ := hco'
    exact cont _ h' tk _ hx (Nat.le_trans hge (Nat.le_of_lt hlt)) htab'.2 ⟨_, rfl⟩ htr
  | some cv =>
    refine wpAny_genexprCode_hit hcode (cd.code hP2 ht) hf ?_
    exact cont cv h2 t2 ps (Heap.ExtBut.refl _ _) (Nat.le_refl _) hP2 ⟨#[], by simp⟩ ht

theorem de_anyG {c P : Addr} {elt iter : Expr} {x : Str} {px p pos gpos : Pos} {scope : Scope} {ds : List PyData} {pb : Nat → Bool} {k : Nat}
    (hr : Room k X.A) (hm : X.mg "any" = none) (TB : GxR.TabB X.base X.mg c P) (hcode : X.env.code = .ref c) (T : GenT X.env.scope scope x) (hi : GI X W ρ iter ds) (TW : TabW W P) (hel : ElG X ρ scope x elt ds pb)
    (hg : Gl X "any" := by rfl) (hs : ∀ v, genFold iter X.env v = pure v := by intro _; rfl)
    (he : starEach [.GeneratorExp elt [⟨.Name x px, iter, [], 0⟩] scope gpos] X.env = (false, eval (.GeneratorExp elt [⟨.Name x px, iter, [], 0⟩] scope gpos) X.env) :: starEach [] X.env := by rfl) :
    DE X W ρ (.Call (.Name "any" p) [.GeneratorExp elt [⟨.Name x px, iter, [], 0⟩] scope gpos] [] pos) (.d (.bool ((List.range ds.length).any pb))) := by
  refine ⟨fun pins s σ H Q I ⟨j, sl, q⟩ => ?_⟩
  refine wpAny_Call_Name_kw (ld_blt I hg hm boot_any ?_)
  refine PyProof.Rows.callWith_builtin1 ?_ he (by rfl)
  rw [he]
  show wpAny _ _ (spliced ((false, eval (.GeneratorExp elt [⟨.Name x px, iter, [], 0⟩] scope gpos) X.env) :: backTo pos (starEach [] X.env))) _ _ s
  refine Calls.spliced_cons (gen_walk hr TB hcode (T.toS I.ok) hi TW hel hs I j sl fun H1 g s5 x1 j1 hG => ?_)
  obtain ⟨fp, wr, G, F, St, Wk, hst, htr, hI⟩ := hG
  refine Calls.spliced_nil ?_
  refine call_any_walkS (Wk.self 0 _ _ _ hst ⟨g, fp, wr, G, _, F, St, _, rfl, Wk, hst, htr, fun s' hmv => ?_⟩)
  obtain ⟨H2, hT, J⟩ := hI s' hmv
  exact ⟨.bl _, H2, J, rfl, q _ H2 (x1.trans (TW.ex j1 hT)) (TW.st _ _ j1 hT) (.bl _)⟩
theorem de_allG {c P : Addr} {elt iter : Expr} {x : Str} {px p pos gpos : Pos} {scope : Scope} {ds : List PyData} {pb : Nat → Bool} {k : Nat}
    (hr : Room k X.A) (hm : X.mg "all" = none) (TB : GxR.TabB X.base X.mg c P) (hcode : X.env.code = .ref c) (T : GenT X.env.scope scope x) (hi : GI X W ρ iter ds) (TW : TabW W P) (hel : ElG X ρ scope x elt ds pb)
    (hg : Gl X "all" := by rfl) (hs : ∀ v, genFold iter X.env v = pure v := by intro _; rfl)
    (he : starEach [.GeneratorExp elt [⟨.Name x px, iter, [], 0⟩] scope gpos] X.env = (false, eval (.GeneratorExp elt [⟨.Name x px, iter, [], 0⟩] scope gpos) X.env) :: starEach [] X.env := by rfl) :
    DE X W ρ (.Call (.Name "all" p) [.GeneratorExp elt [⟨.Name x px, iter, [], 0⟩] scope gpos] [] pos) (.d (.bool ((List.range ds.length).all pb))) := by
  refine ⟨fun pins s σ H Q I ⟨j, sl, q⟩ => ?_⟩
  refine wpAny_Call_Name_kw (ld_blt I hg hm boot_all ?_)
  refine PyProof.Rows.callWith_builtin1 ?_ he (by rfl)
  rw [he]
  show wpAny _ _ (spliced ((false, eval (.GeneratorExp elt [⟨.Name x px, iter, [], 0⟩] scope gpos) X.env) :: backTo pos (starEach [] X.env))) _ _ s
  refine Calls.spliced_cons (gen_walk hr TB hcode (T.toS I.ok) hi TW hel hs I j sl fun H1 g s5 x1 j1 hG => ?_)
  obtain ⟨fp, wr, G, F, St, Wk, hst, htr, hI⟩ := hG
  refine Calls.spliced_nil ?_
  refine call_all_walkS (Wk.self 0 _ _ _ hst ⟨g, fp, wr, G, _, F, St, _, rfl, Wk, hst, htr, fun s' hmv => ?_⟩)
  obtain ⟨H2, hT, J⟩ := hI s' hmv
  exact ⟨.bl _, H2, J, rfl, q _ H2 (x1.trans (TW.ex j1 hT)) (TW.st _ _ j1 hT) (.bl _)⟩
end

/-! ### two names -/
def ElG2 (X : Cx) (ρ : Rho) (scope : Scope) (xa xb : Str) (elt : Expr) (ds : List (PyData × PyData)) (pb : Nat → Bool) : Prop :=
  ∀ (cenv : Env) (A' : Around) (F : Shared → Prop) (i : Nat) (d d' : PyData), Kn X.K X.mg X.base cenv F → cenv.scope = scope → A'.depth ≤ X.A.depth + 1 → A'.units ≤ X.A.units + 8 → ds[i]? = some (d, d') → Nm cenv F xa d → Nm cenv F xb d' → Capt X ρ scope cenv F →
    GV X.prog X.w A' cenv F elt (.bool (pb i))
def GI2 (X : Cx) (W : Wd) (ρ : Rho) (iter : Expr) (ds : List (PyData × PyData)) : Prop :=
  ∀ (pins : List (Addr × Obj)) (s : Shared) (σ : L2.St) (H : Hp) (Q : Value → Shared → Prop), Inv X pins σ H s → W.J H → SlOk X.K H σ ρ →
    (∀ (s1 : Shared) (h2 : Heap) (t2 : Nat) (H1 : Hp) (Ia : Addr) (fp wr : List Addr) (St : Nat → Heap → Prop) (Mid : Nat → Addr → Heap → Prop) (Pf : Nat → Array Value → Prop), Inv X pins σ H1 s1 → Ex W H H1 → W.J H1 →
      (∀ b o, s1.heap.get? b = some o → h2.get? b = some o) → s1.heap.objs.size ≤ h2.objs.size →
      (∀ A' : Around, A'.handled = none → WalksU X.prog X.w A' Ia fp wr ds.length Pf St Mid) → (∀ i vals, Pf i vals → ∃ va vb, vals = #[va, vb]) → St 0 h2 →
      (∀ b ∈ fp, b < h2.objs.size ∧ ∀ o, s1.heap.get? b = some o → ∀ fs, o.data ≠ .fields fs) → (∀ b ∈ wr, s1.heap.objs.size ≤ b) →
      (∀ i va vb, Pf i #[va, vb] → ∃ d d', ds[i]? = some (d, d') ∧ RdD s1.heap va d ∧ RdD s1.heap vb d') → Q (.ref Ia) { s1 with heap := h2, toks := t2 }) →
    wpAny (model X.prog X.w) X.A (eval iter X.env) (fun xv s1 => wpAny (model X.prog X.w) X.A (pyIter xv) Q X.xe s1) X.xe s
section
variable {X : Cx} {W : Wd} {ρ : Rho} {pins : List (Addr × Obj)} {σ : L2.St} {H : Hp} {s : Shared}
theorem walks_tt {prog : Program} {w : World} {A : Around} (hh : A.handled = none) (I ax : Addr) (hne : ax ≠ I) (items : Array Value) (Ts : Nat → Addr) (vals : Nat → Array Value)
    (hit : ∀ j, j < items.size → items[j]? = some (.ref (Ts j))) (hTI : ∀ j, j < items.size → Ts j ≠ I) :
    WalksU prog w A I (I :: ax :: (List.range items.size).map Ts) [I] items.size (fun j v => j < items.size ∧ v = vals j)
      (fun j h => h.IsTupleIter I ax j ∧ h.IsTuple ax items ∧ ∀ k, k < items.size → h.IsTuple (Ts k) (vals k))
      (fun j T h => (j < items.size ∧ T = Ts j) ∧ h.IsTupleIter I ax (j + 1) ∧ h.IsTuple ax items ∧ ∀ k, k < items.size → h.IsTuple (Ts k) (vals k)) where
  sub := fun b hb => by simp at hb; simp [hb]
  frame := fun _ _ _ st hk => ⟨st.1.at fun o e => hk I (by simp) o e, st.2.1.at fun o e => hk ax (by simp) o e,
    fun k hk' => (st.2.2 k hk').at fun o e => hk (Ts k) (List.mem_cons_of_mem _ (List.mem_cons_of_mem _ (List.mem_map.mpr ⟨k, List.mem_range.mpr hk', rfl⟩))) o e⟩
  item := fun i s Q E hi st hQ => by
    refine wpAny_pyNext_tuple_item st.1 st.2.1 (x := .ref (Ts i)) (hit i hi) fun h' hit' hs' => ?_
    have tup : ∀ k, k < items.size → h'.IsTuple (Ts k) (vals k) := fun k hk' => (st.2.2 k hk').extBut hs'.extBut (hTI k hk')
    exact hQ (Ts i) (vals i) h' s.toks ⟨hi, rfl⟩ (tup i hi) ⟨⟨hi, rfl⟩, hit', st.2.1.extBut hs'.extBut hne, tup⟩ fun b o hb e => hs'.extBut b o (fun h => hb (by simp [h])) e
  go := fun elts k pos i T s Q E hm hQ => by
    obtain ⟨o, e, c, d⟩ := id hm.2.1
    exact go_of e c d (by decide) (hQ s.heap hm.2 fun _ _ _ e => e)
  apart := fun j T _ hm hmem => by
    rcases List.mem_cons.mp hmem with e | e
    · exact hTI j hm.1.1 (hm.1.2 ▸ e)
    · cases e
  done := fun s Q E st hQ => wpAny_pyNext_tuple_end hh st.1 st.2.1 (by simp) fun h' he' => hQ h' s.toks fun b o hb e => he' b o (fun h => hb (by simp [h])) e
  self := fun _ _ _ _ st hQ => wpAny_pyIter_tupleiter st.1 hQ
theorem gi_prs {it : Expr} {ds : List (PyData × PyData)} (h : DE X W ρ it (.d (.tuple (ds.map fun p => .tuple [p.1, p.2])))) : GI2 X W ρ it ds := by
  intro pins s σ H Q I j sl q
  refine thn (h.run pins s σ H _ I ⟨j, sl, fun v H1 x1 j1 r1 => (⟨x1, j1, r1⟩ : Ex W H H1 ∧ W.J H1 ∧ AvOk X.K H1 v _)⟩) fun u s1 ⟨v, H1, I1, r, x1, j1, r1⟩ => ?_
  obtain ⟨ax, xs, rfl, hs, ha⟩ := dp_tup r1
  cases r
  obtain ⟨its, rv, hp, _⟩ := I1.tuple hs
  have ht : s1.heap.IsTuple ax its.toArray := hp
  obtain ⟨_, ra⟩ := L2.Dp.readsAll I1 _ xs its (dq_dpAll _ xs ha) rv
  have hlen : its.length = ds.length := by
    have := rds_len ra
    rw [List.length_map] at this
    exact this
  have axl : ax < s1.heap.objs.size := by
    obtain ⟨o, e, _⟩ := ht
    exact Heap.lt_size e
  have hsz : its.toArray.size = ds.length := by rw [← hlen]; simp
  -- the pairs' own tuples
  have each : ∀ i, i < ds.length → ∃ (T : Addr) (va vb : Value), its[i]? = some (.ref T) ∧ s1.heap.IsTuple T #[va, vb] ∧ ∃ d d', ds[i]? = some (d, d') ∧ RdD s1.heap va d ∧ RdD s1.heap vb d' := by
    intro i hi
    have e0 : (ds.map fun p => PyData.tuple [p.1, p.2])[i]? = some (.tuple [ds[i].1, ds[i].2]) := by rw [List.getElem?_map, List.getElem?_eq_getElem hi]; rfl
    obtain ⟨u, e1, r1⟩ := rds_get ra e0
    obtain ⟨T, vs, as, rfl, hT, rT⟩ := rd_tup r1
    obtain ⟨va, ea, ra'⟩ := rds_get (i := 0) rT rfl
    obtain ⟨vb, eb, rb'⟩ := rds_get (i := 1) rT rfl
    have l2 := rds_len rT
    have ev : vs = #[va, vb] := by
      apply Array.ext'
      cases hvs : vs.toList with
      | nil => rw [hvs] at l2; simp at l2
      | cons x r =>
        cases r with
        | nil => rw [hvs] at l2; simp at l2
        | cons y r =>
          cases r with
          | nil =>
            rw [hvs] at ea eb
            simp at ea eb
            rw [ea, eb]
          | cons z r => rw [hvs] at l2; simp at l2
    rw [ev] at hT
    exact ⟨T, va, vb, e1, hT, ds[i].1, ds[i].2, List.getElem?_eq_getElem hi, ra', rb'⟩
  have : ∃ (Ts : Nat → Addr) (vals : Nat → Array Value), ∀ i, i < ds.length → its[i]? = some (.ref (Ts i)) ∧ s1.heap.IsTuple (Ts i) (vals i) ∧ ∃ va vb d d', vals i = #[va, vb] ∧ ds[i]? = some (d, d') ∧ RdD s1.heap va d ∧ RdD s1.heap vb d' := by
    refine ⟨fun i => if hi : i < ds.length then (each i hi).choose else 0, fun i => if hi : i < ds.length then #[(each i hi).choose_spec.choose, (each i hi).choose_spec.choose_spec.choose] else #[], fun i hi => ?_⟩
    simp only [dif_pos hi]
    obtain ⟨h1, h2, d, d', h3, h4, h5⟩ := (each i hi).choose_spec.choose_spec.choose_spec
    exact ⟨h1, h2, _, _, d, d', rfl, h3, h4, h5⟩
  obtain ⟨Ts, vals, hTs⟩ := this
  refine wpAny_pyIter_tuple ht ?_
  have old : ∀ b, (∃ vs, s1.heap.IsTuple b vs) → b < s1.heap.objs.size ∧ ∀ o, s1.heap.get? b = some o → ∀ fs, o.data ≠ .fields fs := fun b ⟨vs, ob, eb, _, n, db⟩ => ⟨Heap.lt_size eb, fun o e fs z => by
    rw [eb] at e
    cases e
    rw [z] at db
    cases db⟩
  have tup : ∀ b vs, s1.heap.IsTuple b vs → (s1.heap.push { cls := .type "tuple_iterator", data := .fields #[.ref ax, .int 0 0] }).IsTuple b vs := fun b vs ⟨o, e, r⟩ => ⟨o, Heap.get?_push_of_some _ e, r⟩
  refine q s1 _ s1.toks H1 s1.heap.objs.size (s1.heap.objs.size :: ax :: (List.range its.toArray.size).map Ts) [s1.heap.objs.size]
    (fun j h => h.IsTupleIter s1.heap.objs.size ax j ∧ h.IsTuple ax its.toArray ∧ ∀ k, k < its.toArray.size → h.IsTuple (Ts k) (vals k))
    (fun j T h => (j < its.toArray.size ∧ T = Ts j) ∧ h.IsTupleIter s1.heap.objs.size ax (j + 1) ∧ h.IsTuple ax its.toArray ∧ ∀ k, k < its.toArray.size → h.IsTuple (Ts k) (vals k))
    (fun j v => j < its.toArray.size ∧ v = vals j) I1 x1 j1 (fun b o e => Heap.get?_push_of_some _ e) (by rw [Heap.size_push]; exact Nat.le_succ _)
    (fun A' hA => ?_) (fun i vs hv => ?_) ⟨⟨_, Heap.get?_push_size _ rfl, rfl, rfl⟩, tup _ _ ht, fun k hk => tup _ _ (hTs k (by rw [← hsz]; exact hk)).2.1⟩ (fun b hb => ?_) (fun b hb => ?_) fun i va vb hv => ?_
  · rw [← hsz]
    refine walks_tt hA s1.heap.objs.size ax (Nat.ne_of_lt axl) its.toArray Ts vals (fun j hj => ?_) fun j hj => ?_
    · rw [List.getElem?_toArray]
      exact (hTs j (by rw [← hsz]; exact hj)).1
    · exact Nat.ne_of_lt (old _ ⟨_, (hTs j (by rw [← hsz]; exact hj)).2.1⟩).1
  · obtain ⟨_, _, va, vb, _, _, e, _⟩ := hTs i (by rw [← hsz]; exact hv.1)
    exact ⟨va, vb, hv.2.trans e⟩
  · have szp : (s1.heap.push { cls := .type "tuple_iterator", data := .fields #[.ref ax, .int 0 0] }).objs.size = s1.heap.objs.size + 1 := Heap.size_push ..
    rw [szp]
    rcases List.mem_cons.mp hb with z | z
    · subst z
      exact ⟨Nat.lt_succ_self _, fun o e => absurd (Heap.lt_size e) (Nat.lt_irrefl _)⟩
    · rcases List.mem_cons.mp z with z | z
      · subst z
        exact ⟨Nat.lt_succ_of_lt axl, (old _ ⟨_, ht⟩).2⟩
      · obtain ⟨k, hk, rfl⟩ := List.mem_map.mp z
        have h2 := old _ ⟨_, (hTs k (by rw [← hsz]; exact List.mem_range.mp hk)).2.1⟩
        exact ⟨Nat.lt_succ_of_lt h2.1, h2.2⟩
  · rw [List.mem_singleton] at hb
    rw [hb]
    exact Nat.le_refl _
  · obtain ⟨_, _, va', vb', d, d', e, h3, h4, h5⟩ := hTs i (by rw [← hsz]; exact hv.1)
    have e2 : #[va, vb] = #[va', vb'] := hv.2.trans e
    have e3 : [va, vb] = [va', vb'] := congrArg Array.toList e2
    cases e3
    exact ⟨d, d', h3, h4, h5⟩
theorem gen_walk2 {c P : Addr} {elt iter : Expr} {xa xb : Str} {pa pc pt gpos : Pos} {kt : Nat} {scope : Scope} {ds : List (PyData × PyData)} {pb : Nat → Bool} {k : Nat} {Q' : Value → Shared → Prop}
    (hr : Room k X.A) (TB : GxR.TabB X.base X.mg c P) (hcode : X.env.code = .ref c) (S : GxR.GenS X.env scope xa) (hxb : scope.names.lookup xb = some .local) (hab : xa ≠ xb) (hi : GI2 X W ρ iter ds) (TW : TabW W P) (hel : ElG2 X ρ scope xa xb elt ds pb)
    (hs : ∀ v, genFold iter X.env v = pure v) (I : Inv X pins σ H s) (hj : W.J H) (sl : SlOk X.K H σ ρ)
    (hQ : ∀ H1 g s5, Ex W H H1 → W.J H1 → ReadyG X pins σ H1 P ds.length pb g s5 → Q' (.ref g) s5) :
    wpAny (model X.prog X.w) X.A (eval (.GeneratorExp elt [⟨.Tuple [.Name xa pa, .Name xb pc] kt pt, iter, [], 0⟩] scope gpos) X.env) Q' X.xe s := by
  refine wpAny_GeneratorExp_walksQTD hr.hd S.co (closure_ok S.free) S.cell S.dot S.loc hxb hab S.kind (by have := hr.dp; omega) ?_ hs
  refine hi pins s σ H _ I hj sl fun s1 h2 t2 H1 Ia fp wr St Mid Pf I1 x1 j1 k2 sz2 W2 hsz2 hst hfp hwr hPf => ?_
  obtain ⟨ps, hP, ht⟩ := TW.tab H1 j1
  have sl1 := sl.mono x1
  have hPs : s1.heap.get? P = some { cls := .none, data := .fields ps } := I1.hok P _ hP
  have hPlt : P < s1.heap.objs.size := Heap.lt_size hPs
  have hP2 : h2.get? P = some { cls := .none, data := .fields ps } := k2 _ _ hPs
  have cd : PySem.W.CodeHd h2 c P := TB.code.keeps fun b u e => k2 b u (I1.bk b u e)
  have lim2 : h2.NoLimit := I1.nolimit.keeps k2
  have nfp : ∀ b ∈ fp, b ≠ P := fun b hb z => by
    subst z
    exact (hfp b hb).2 _ hPs ps rfl
  have cont : ∀ (code : Value) (h3 : Heap) (tk : Nat) (ps' : Array Value), Heap.ExtBut P h2 h3 → h2.objs.size ≤ h3.objs.size → h3.get? P = some { cls := .none, data := .fields ps' } → (∃ more, ps' = ps ++ more) → TriplesOk ps'.toList →
      wpAny (model X.prog X.w) X.A (builtinsFor X.env.globals X.env.builtins) (fun bi s₄ =>
        ∃ I fp wr n₀ Pf St₀ Mid pz F, Value.ref Ia = .ref I ∧ (∀ A' : Around, A'.handled = none → WalksU X.prog X.w A' I fp wr n₀ Pf St₀ Mid) ∧ (∀ i vals, Pf i vals → ∃ va vb, vals = #[va, vb]) ∧ St₀ 0 s₄.heap ∧ (∀ b ∈ fp, b < s₄.heap.objs.size) ∧ s₄.heap.NoLimit ∧ cStatics ∉ wr ∧
          (∀ href : Heap, (∀ b o, s₄.heap.get? b = some o → href.get? b = some o) →
            QuietGenTD X.prog X.w (genEnv scope (cloFrom X.env.cells scope.names []) s₄.heap.objs.size code bi X.env) xa xb [] elt (List.range s₄.heap.objs.size) wr Pf pz F href (X.A.depth + 1) (X.A.units + 8)) ∧
          (∀ a h₅ tk gs, gs.bare = true → s₄.heap.objs.size < a → h₅.objs.size = a + 1 → (∀ b o, s₄.heap.get? b = some o → h₅.get? b = some o) →
            WalksS X.prog X.w X.A.in4 a (a :: s₄.heap.objs.size :: List.range s₄.heap.objs.size) (s₄.heap.objs.size :: wr) (GenOnlyQ s₄.gens.size) (passing pz n₀ 0).length
              (fun j y => ∃ i, (passing pz n₀ 0)[j]? = some i ∧ F i y) (GenAt X.prog X.w X.A.in4 a s₄.gens.size s₄.heap.objs.size (List.range s₄.heap.objs.size) wr pz n₀ F) →
            GenAt X.prog X.w X.A.in4 a s₄.gens.size s₄.heap.objs.size (List.range s₄.heap.objs.size) wr pz n₀ F 0 { s₄ with gens := s₄.gens.push gs, toks := tk, heap := h₅ } →
            Q' (.ref a) { s₄ with gens := s₄.gens.push gs, toks := tk, heap := h₅ })) X.xe { s1 with heap := h3, toks := tk } := by
    intro code h3 tk ps' hx hsz hP3 hmore ht3
    obtain ⟨bm, ob, e1, e2, e3, e4, e5, e6, e7, e8⟩ := TB.bm
    have hcP : cStatics ≠ P := fun e => by
      obtain ⟨_, hns, _⟩ := I1.nolimit
      obtain ⟨o', es, ep, ho, hd, _⟩ := hns
      rw [e, hPs] at ho
      cases ho
      cases hd
    have hcl : cStatics < s1.heap.objs.size := let ⟨_, hns, _⟩ := I1.nolimit; hns.lt
    have keep3 : ∀ b u, b ≠ P → s1.heap.get? b = some u → h3.get? b = some u := fun b u hb e => hx b u hb (k2 b u e)
    refine wpAny_builtinsFor (m := X.mg) (by rw [I1.ok.glob]; exact ((I1.mod.glob.keeps I1.bk).keeps k2).extBut hx TB.gP) e1 e2 (keep3 _ _ e4 (I1.bk _ _ e5)) e6 e7 e8 ?_
    refine ⟨Ia, fp, wr, ds.length, Pf, St, Mid, (fun _ => true), (fun i y => i < ds.length ∧ y = .bool (pb i)), rfl, W2, hsz2, ?_, ?_, lim2.extBut hx hcP, ?_, ?_, ?_⟩
    · exact (W2 X.A hr.hd).frame _ _ _ hst fun b hb u e => hx b u (nfp b hb) e
    · intro b hb
      exact Nat.lt_of_lt_of_le (hfp b hb).1 hsz
    · intro z
      exact absurd (hwr _ z) (Nat.not_le.mpr hcl)
    · intro href hhref
      refine ⟨fun A' E' i va vb s₂ m₂ hA hD hU hPv hn hm hm' hk => ?_, fun A' E' i va vb s₂ m₂ hA hD hU hPv hp hn hm hm' hk => ?_⟩
      · simp only [List.forIn_nil]
        exact wpAny_pure ⟨rfl, GxR.keeps_refl _⟩
      · obtain ⟨d, d', hd, rd, rd'⟩ := hPf i va vb hPv
        have hlt : i < ds.length := (List.getElem?_eq_some_iff.mp hd).1
        have kp2 : ∀ b o, b ≠ P → s1.heap.get? b = some o → s₂.heap.get? b = some o := fun b o hb e => by
          have hb3 := keep3 b o hb e
          refine hk b (List.mem_range.mpr (Heap.lt_size hb3)) (fun z => ?_) o (hhref b o hb3)
          exact absurd (hwr b z) (Nat.not_le.mpr (Heap.lt_size e))
        have kF : KpF s1.heap s₂.heap := fun b o e nf => kp2 b o (fun z => by
          subst z
          rw [hPs] at e
          cases e
          exact nf ps rfl) e
        have kf : ∀ s', Keeps s₂ s' → KpF s1.heap s'.heap := fun s' kk b o e nf => kp_all kk b o (kF b o e nf)
        refine gv_use (F := fun s' => Keeps s₂ s') (hel (genEnv scope (cloFrom X.env.cells scope.names []) h3.objs.size code builtinsNs X.env) A' _ i d d' ⟨fun _ _ a b => kp_trans a b, fun s' h b o e => kp_all h b o (kp2 b o (fun z => ?_) (I1.bk b o e)), I1.mod, S.kind, I1.ok.glob, rfl⟩ rfl hD hU hd ?_ ?_ (capt_of S I1 sl1 kf)) (kp_refl s₂) fun y s' r _ kk => ⟨⟨hlt, rd_bl r⟩, kk⟩
        · subst z
          have := (I1.bs _ _ e).2
          rw [hP] at this
          cases this
        · intro s' kk
          exact ⟨va, rd.kpF (kf s' kk), .inl ⟨S.loc, m₂, hn.keeps (kp_all kk), hm⟩⟩
        · intro s' kk
          exact ⟨vb, rd'.kpF (kf s' kk), .inl ⟨hxb, m₂, hn.keeps (kp_all kk), hm'⟩⟩
    · intro g h5 tk5 gs hgb hag hsz5 hk5 W5 hat
      simp only [GxR.passing_true, List.length_range] at W5
      refine hQ H1 g _ x1 j1 ⟨_, _, _, _, _, W5.in4_1, hat, ?_, fun s' hm => ?_⟩
      · intro j y sj Qj Ej hy hQj
        obtain ⟨i, hij, hlt, rfl⟩ := hy
        obtain ⟨hj, ej⟩ := List.getElem?_eq_some_iff.mp hij
        rw [List.getElem_range] at ej
        subst ej
        exact wpAny_truthy_bool hQj
      · obtain ⟨more, em⟩ := hmore
        have hsz1 : s1.heap.objs.size ≤ h3.objs.size := Nat.le_trans sz2 hsz
        have nwr : ∀ b u, s1.heap.get? b = some u → b ∉ h3.objs.size :: wr := fun b u e hb => by
          have hl := Heap.lt_size e
          rcases List.mem_cons.mp hb with z | z
          · rw [z] at hl
            exact absurd hl (Nat.not_lt.mpr hsz1)
          · exact absurd (hwr b z) (Nat.not_le.mpr hl)
        have J := GxR.inv_tab (more := more) (h' := s'.heap) (g' := s'.gens) (d' := s'.drawn) (t' := s'.toks) I1 hP (fun b u hb e => hm.heap b u (nwr b u e) (hk5 b u (keep3 b u hb e)))
          (by rw [← em]; exact hm.heap P _ (nwr P _ hPs) (hk5 P _ hP3)) (AllBare.movedS (I1.bare.push hgb) hm)
        rw [GxR.sh_eta s1 s' hm.os] at J
        refine ⟨upd H1 P (.tbl (ps ++ more)), ⟨⟨ps ++ more, upd_same, by rw [← em]; exact ht3⟩, fun b hb => upd_ne hb⟩, J⟩
  refine ⟨lim2, ?_⟩
  cases hf : codeAmong gpos ps.toList with
  | none =>
    refine wpAny_genexprCodeX hcode (cd.code hP2 ht) (cd.tab hP2) hf fun c' h' tk hx hge hlt hco' _ htab' _ => ?_
    obtain ⟨o1, vs, f1, tf, fl, tg, inF, tx, tt, op, _, _, _, _, _, _, _, _, _, htr, _⟩ := hco'
    exact cont _ h' tk _ hx (Nat.le_trans hge (Nat.le_of_lt hlt)) htab'.2 ⟨_, rfl⟩ htr
  | some cv =>
    refine wpAny_genexprCode_hit hcode (cd.code hP2 ht) hf ?_
    exact cont cv h2 t2 ps (Heap.ExtBut.refl _ _) (Nat.le_refl _) hP2 ⟨#[], by simp⟩ ht

theorem de_anyG2 {c P : Addr} {elt iter : Expr} {xa xb : Str} {pa pc pt p pos gpos : Pos} {kt : Nat} {scope : Scope} {ds : List (PyData × PyData)} {pb : Nat → Bool} {k : Nat}
    (hr : Room k X.A) (hm : X.mg "any" = none) (TB : GxR.TabB X.base X.mg c P) (hcode : X.env.code = .ref c) (T : GenT X.env.scope scope xa) (hxb : scope.names.lookup xb = some .local) (hab : xa ≠ xb) (hi : GI2 X W ρ iter ds) (TW : TabW W P) (hel : ElG2 X ρ scope xa xb elt ds pb)
    (hg : Gl X "any" := by rfl) (hs : ∀ v, genFold iter X.env v = pure v := by intro _; rfl)
    (he : starEach [.GeneratorExp elt [⟨.Tuple [.Name xa pa, .Name xb pc] kt pt, iter, [], 0⟩] scope gpos] X.env = (false, eval (.GeneratorExp elt [⟨.Tuple [.Name xa pa, .Name xb pc] kt pt, iter, [], 0⟩] scope gpos) X.env) :: starEach [] X.env := by rfl) :
    DE X W ρ (.Call (.Name "any" p) [.GeneratorExp elt [⟨.Tuple [.Name xa pa, .Name xb pc] kt pt, iter, [], 0⟩] scope gpos] [] pos) (.d (.bool ((List.range ds.length).any pb))) := by
  refine ⟨fun pins s σ H Q I ⟨j, sl, q⟩ => ?_⟩
  refine wpAny_Call_Name_kw (ld_blt I hg hm boot_any ?_)
  refine PyProof.Rows.callWith_builtin1 ?_ he (by rfl)
  rw [he]
  show wpAny _ _ (spliced ((false, eval (.GeneratorExp elt [⟨.Tuple [.Name xa pa, .Name xb pc] kt pt, iter, [], 0⟩] scope gpos) X.env) :: backTo pos (starEach [] X.env))) _ _ s
  refine Calls.spliced_cons (gen_walk2 hr TB hcode (T.toS I.ok) hxb hab hi TW hel hs I j sl fun H1 g s5 x1 j1 hG => ?_)
  obtain ⟨fp, wr, G, F, St, Wk, hst, htr, hI⟩ := hG
  refine Calls.spliced_nil ?_
  refine call_any_walkS (Wk.self 0 _ _ _ hst ⟨g, fp, wr, G, _, F, St, _, rfl, Wk, hst, htr, fun s' hmv => ?_⟩)
  obtain ⟨H2, hT, J⟩ := hI s' hmv
  exact ⟨.bl _, H2, J, rfl, q _ H2 (x1.trans (TW.ex j1 hT)) (TW.st _ _ j1 hT) (.bl _)⟩
end
end FK
set_option Elab.async false
set_option linter.all false
set_option maxRecDepth 100000
/-! need_web, is_lot, is_gathering, need_gathering, need_calls -/
namespace FK
open PySem PySem.Spec PyProof.Rows L2

/-- a def whose code object is known -/
structure FunC (K : PySem.W.Frag) (x : Str) (st : Stmt) (f : Addr) (fd : FuncData) (c : Addr) : Prop where
  ex : ∃ (oc : Value) (od : Option Addr) (kV doc pm : Value) (an : Option Addr) (ct : Value) (osl : Array (Option Value)),
    fd = PySem.W.fnOf x x (defArgs st) (defBody st) (defScope st) .none kV doc pm an (.ref c) ct ∧ K.lookup f = some ⟨oc, od, .func fd, osl⟩ ∧ PySem.W.codeIn K (.ref c) x = true
  kp : PySem.W.keepIn K (.ref f) = true
theorem FunC.toFun {K : PySem.W.Frag} {x : Str} {st : Stmt} {f c : Addr} {fd : FuncData} (F : FunC K x st f fd c) : Fun K x x st f fd := by
  obtain ⟨oc, od, kV, doc, pm, an, ct, osl, h1, h2, h3⟩ := F.ex
  exact ⟨⟨oc, od, kV, doc, pm, an, .ref c, ct, osl, h1, h2, h3⟩, F.kp⟩
theorem funC_mk {K : PySem.W.Frag} {x : Str} {st : Stmt} {f c : Addr} {oc : Value} {od an : Option Addr} {osl : Array (Option Value)} {kV doc pm ct : Value} (l : K.lookup f = some ⟨oc, od, .func (PySem.W.fnOf x x (defArgs st) (defBody st) (defScope st) .none kV doc pm an (.ref c) ct), osl⟩)
    (h : PySem.W.codeIn K (.ref c) x = true) (k : PySem.W.keepIn K (.ref f) = true) : FunC K x st f (PySem.W.fnOf x x (defArgs st) (defBody st) (defScope st) .none kV doc pm an (.ref c) ct) c := ⟨⟨oc, od, kV, doc, pm, an, ct, osl, rfl, l, h⟩, k⟩
section
variable {P : Program} {w : World} {K : PySem.W.Frag} {mg : Str → Option Value} {base : Heap}
theorem av_defC {x : Str} {st : Stmt} {f c : Addr} {fd : FuncData} {N ps : List Str} {k : Nat} {F : Rel} {W : Wd} (Fn : FunC K x st f fd c) (S : FnScope N ps (defScope st))
    (hbody : ∀ (A : Around) (outer : List Env) (s : Shared) (H : Hp), Room k (A.deeper (envOfC x (defScope st) s.heap.objs.size f (.ref c))) → ∀ as r, as.length = ps.length → F as r →
      ∃ o, DSs (cxOf CX0 P w K mg base N x (defScope st) f (.ref c) A outer s H E0).nox W (startR N as) (defBody st) o ∧ Fits o r) : FnOk P w K mg base CX0 (k + 1) f fd ps (avSp K W ps.length F) := by
  obtain ⟨oc, od, kV, doc, pm, an, ct, osl, rfl, lk, hcd⟩ := Fn.ex
  refine fn_of lk hcd S (fun vs H Q E h => h.1) (fun A outer s H vs Q E hr h => ?_)
  obtain ⟨hn, hj, as, r, ha, hF, q⟩ := h
  obtain ⟨o, hb, hf⟩ := hbody A outer s H hr as r (by rw [← avAll_len ha, hn]) hF
  refine ⟨_, hb.nox, hj, start_ok ha, ?_⟩
  cases o with
  | rt a =>
    obtain rfl : a = r := hf
    exact fun v H' x' j' r' => q v H' x' j' r'
  | nx ρ' =>
    obtain rfl : r = .d .none := hf
    exact fun σ' H' x' j' _ => q .non H' x' j' .non
end

/-! ### is_in within a generator expression -/
section
variable {prog : Program} {w : World} {A : Around} {env : Env} {F : Shared → Prop} {K : PySem.W.Frag} {mg : Str → Option Value} {base : Heap} {e1 e2 e3 : Expr} {p pos : Pos}
theorem gv_is_in (k : Kn K mg base env F) {f : Addr} {fd : FuncData} (Fn : Fun K "is_in" "is_in" sIsIn f fd) (hm : mg "is_in" = some (.ref f)) (mi : mg "isinstance" = none) (mt : mg "int" = none) (mb : mg "bool" = none) (hd : A.depth < recursionLimit) (g : env.kindOf "is_in" = some .globalImplicit)
    {i a b : Int} (h1 : GV prog w A env F e1 (.int i)) (h2 : GV prog w A env F e2 (.int a)) (h3 : GV prog w A env F e3 (.int b))
    (he : starEach [e1, e2, e3] env = (false, eval e1 env) :: starEach [e2, e3] env := by rfl) (he2 : starEach [e2, e3] env = (false, eval e2 env) :: starEach [e3] env := by rfl) (he3 : starEach [e3] env = (false, eval e3 env) :: starEach [] env := by rfl) (hpl : (backTo pos (starEach [e2, e3] env)).any (·.1) = false := by rfl) :
    GV prog w A env F (.Call (.Name "is_in" p) [e1, e2, e3] [] pos) (.bool (decide (a ≤ i) && decide (i ≤ b))) := by
  intro E Q s hs q
  refine wpAny_Call_Name_kw (Calls.Name_function_global k.kind g (Calls.loadGlobal_global (by rw [k.glob]; exact k.mod.glob.keeps (k.bin s hs)) hm ?_) (by decide))
  refine PySem.W.callWith_K (h₀ := base) k.mod.kin Fn.kp ?_ he hpl
  rw [he]
  show wpAny _ _ (spliced ((false, eval e1 env) :: backTo pos (starEach [e2, e3] env))) _ _ s
  refine Calls.spliced_cons (h1 E _ s hs fun u1 s1 r1 f1 k1 => ?_)
  rw [he2]
  show wpAny _ _ (spliced ((false, eval e2 env) :: backTo pos (starEach [e3] env))) _ _ s1
  refine Calls.spliced_cons (h2 E _ s1 f1 fun u2 s2 r2 f2 k2 => ?_)
  rw [he3]
  show wpAny _ _ (spliced ((false, eval e3 env) :: backTo pos (starEach [] env))) _ _ s2
  refine Calls.spliced_cons (h3 E _ s2 f2 fun u3 s3 r3 f3 k3 => Calls.spliced_nil ⟨k.mod.kin.keeps (k.bin s3 f3), ?_⟩)
  obtain ⟨t1, rfl⟩ := rd_int r1
  obtain ⟨t2, rfl⟩ := rd_int r2
  obtain ⟨t3, rfl⟩ := rd_int r3
  exact raw_is_in Fn k.mod mi mt mb (k.bin s3 f3) hd fun s4 k4 => q _ _ rdB (k.keep _ _ f3 k4) (kp_trans (kp_trans (kp_trans k1 k2) k3) k4)
end

theorem owns {X : Cx} : PassesOwn (model X.prog X.w) X.A X.nox.env X.nox.xe := fun _ _ h => False.elim h
theorem two62 {n : Nat} (h : n < 10000) : n < 2 ^ 62 := by omega
theorem unitsG {k : Nat} {A A' : Around} (hr : Room k A) (h : A'.units ≤ A.units + 8) : A'.units < cLine := by
  have := hr.un
  omega
theorem unitsG65 {k : Nat} {A A' : Around} (hr : Room k A) (h : A'.units ≤ A.units + 8) : A'.units + 65 < cLine := by
  have := hr.un
  omega
theorem depthG {k : Nat} {A A' : Around} (hr : Room k A) (h : A'.depth ≤ A.depth + 1) : A'.depth < recursionLimit := by
  have := hr.dp
  omega
theorem lt2 (a b : PyData) : [a, b].length < 10000 := by simp
/-! ### webs -/
def ltP (p q : Int × Int) : Prop := p.1 < q.1 ∨ p.1 = q.1 ∧ p.2 < q.2
structure WebOk (n : Nat) (ps : List (Int × Int)) : Prop where
  lo : 1 ≤ n
  hi : n ≤ 7
  pr : ∀ p ∈ ps, 0 ≤ p.1 ∧ p.1 < p.2 ∧ p.2 < n
  up : ps.Pairwise ltP
  len : ps.length < 1000
theorem geP_no {p q : Int × Int} (h : ltP p q) : geP p q = false := by
  unfold geP
  rcases h with h | ⟨h1, h2⟩
  · rw [if_neg (by omega), decide_eq_false (by omega)]
  · rw [if_pos h1, decide_eq_false (by omega)]
section
variable {P : Program} {w : World} {K : PySem.W.Frag} {mg : Str → Option Value} {base : Heap} {W : Wd}
theorem ppl_at {m i : Nat} {d : PyData} (h : ((ppl m).map PyData.int)[i]? = some d) : i < m ∧ d = .int i := by
  unfold ppl at h
  rw [List.getElem?_map, List.getElem?_map] at h
  by_cases hi : i < m
  · rw [List.getElem?_range hi] at h
    cases h
    exact ⟨hi, rfl⟩
  · rw [List.getElem?_eq_none (by rw [List.length_range]; omega)] at h
    cases h
theorem pw_at {α : Type} {R : α → α → Prop} {xs : List α} (h : xs.Pairwise R) {i j : Nat} (hij : i < j) (hj : j < xs.length) : R (xs[i]'(by omega)) xs[j] := List.pairwise_iff_getElem.mp h i j (by omega) hj hij
theorem kb_tt : kitB "tuple" "tuple" = some true := by decide +kernel

abbrev sNeedWeb : Stmt := topS 9
theorem scNeedWeb : FnScope ["web", "pair"] ["web"] (defScope sNeedWeb) := ⟨rfl, rfl, rfl, by decide +kernel, rfl, by decide +kernel, by decide +kernel⟩
def FNeedWeb : Rel := fun as r => ∃ (n : Nat) (ps : List (Int × Int)), WebOk n ps ∧ as = [.d (webD n ps)] ∧ r = .d .none
def gePs (ps : List (Int × Int)) (i : Nat) : Bool := match ps[i]?, ps[i + 1]? with
  | some p, some q => geP p q
  | _, _ => false
theorem ok_need_web {f c PT fi : Addr} {fd fdi : FuncData} (F : FunC K "need_web" sNeedWeb f fd c) (TB : GxR.TabB base mg c PT) (TW : TabW W PT) (m1 : mg "isinstance" = none) (m2 : mg "tuple" = none) (m3 : mg "len" = none) (m4 : mg "any" = none) (m5 : mg "range" = none)
    (mp : ∃ t, mg "MOST_PEOPLE" = some (.int 7 t)) (CI : Callee P w K mg base "is_in" 3 1 W FIsIn) :
    FnOk P w K mg base CX0 2 f fd ["web"] (avSp K W 1 FNeedWeb) := by
  refine av_defC (k := 1) F scNeedWeb fun A outer s H hr as r hl hF => ?_
  obtain ⟨n, ps, ok, rfl, rfl⟩ := hF
  obtain ⟨tp, mp⟩ := mp
  have hn1 := ok.lo
  have hn2 := ok.hi
  have hlen := ok.len
  have eW : ∀ {X : Cx} {ρ : Rho} {e : Expr} {pos : Pos} {j : Nat} {q : Pos}, DE X W ρ e (.d (webD n ps)) → DE X W ρ (.Subscript e (.Constant (.int 0) j q) pos) (.d (.int n)) := fun h => de_ixT 0 h de_int rfl rfl
  have eP : ∀ {X : Cx} {ρ : Rho} {e : Expr} {pos : Pos} {j : Nat} {q : Pos}, DE X W ρ e (.d (webD n ps)) → DE X W ρ (.Subscript e (.Constant (.int 1) j q) pos) (.d (.tuple (ps.map prD))) := fun h => de_ixT 1 h de_int rfl rfl
  have no : ∀ {X : Cx} {ρ : Rho} {e : Expr} {pos : Pos} {x : Bool}, DE X W ρ e (.d (.bool x)) → x = true → DE X W ρ (.UnaryOp .Not e pos) (.d (.bool false)) := fun h e => de_is (de_not h) (by rw [e]; rfl)
  refine ⟨.nx [some (.d (webD n ps)), none], ?_, rfl⟩
  refine dss_cons (ds_no (dt_w (dw_or (x := false) (y := false) ?_ fun _ => dw_or (x := false) (y := false) ?_ fun _ => dw_or1 ?_))) ?_
  · exact dt_is (dt_not (dt_val (de_isi (d := webD n ps) (x := true) (de_var 0 rfl) kb_tt PyProof.Rows.boot_tuple m2 m1))) rfl
  · exact dt_is (dt_neI (de_lenT (de_var 0 rfl) m3) de_int) rfl
  · refine dt_is (dt_not (dt_val (de_call CI (Sub.refl W) hr (da_cons (eW (de_var 0 rfl)) (da_cons de_int (da_cons (de_gint mp) da_nil))) ⟨_, _, _, rfl, rfl⟩))) ?_
    rw [decide_eq_true (by omega), decide_eq_true (by omega)]
    rfl
  refine dss_cons (ds_no ?_) ?_
  · exact dt_is (dt_not (dt_val (de_isi (d := .tuple (ps.map prD)) (x := true) (eP (de_var 0 rfl)) kb_tt PyProof.Rows.boot_tuple m2 m1))) rfl
  refine dss_cons (ds_forN 1 ps (fun p => .d (prD p)) (fun _ => [some (.d (webD n ps)), none]) scNeedWeb.nd ?_ (di_is (di_tup (eP (de_var 0 rfl))) ?_) ?_ fun pre p post e => ?_) ?_
  · exact owns
  · rw [List.map_map]; rfl
  · exact RLe.refl _
  · have hp := ok.pr p (by rw [e]; exact List.mem_append_right _ List.mem_cons_self)
    refine dss_cons (ds_no (dt_w (dw_or (x := false) (y := false) ?_ fun _ => dw_or (x := false) (y := false) ?_ fun _ => dw_or1 ?_))) (dss_cons (ds_no ?_) (dss_to (RLe.drop [some (.d (webD n ps)), some (.d (prD p))] 1) dss_nil))
    · exact dt_is (dt_not (dt_val (de_isi (d := prD p) (x := true) (de_var 1 rfl) kb_tt PyProof.Rows.boot_tuple m2 m1))) rfl
    · exact dt_is (dt_neI (de_lenT (de_var 1 rfl) m3) de_int) rfl
    · refine dt_is (dt_not (dt_val (de_call CI (Sub.refl W) hr (da_cons (de_ixT 0 (de_var 1 rfl) de_int rfl rfl) (da_cons de_int (da_cons (de_sub (eW (de_var 0 rfl)) de_int) da_nil))) ⟨_, _, _, rfl, rfl⟩))) ?_
      rw [decide_eq_true (by omega), decide_eq_true (by omega)]
      rfl
    · refine dt_is (dt_not (dt_val (de_call CI (Sub.refl W) hr (da_cons (de_ixT 1 (de_var 1 rfl) de_int rfl rfl) (da_cons (de_add (de_ixT 0 (de_var 1 rfl) de_int rfl rfl) de_int) (da_cons (de_sub (eW (de_var 0 rfl)) de_int) da_nil))) ⟨_, _, _, rfl, rfl⟩))) ?_
      rw [decide_eq_true (by omega), decide_eq_true (by omega)]
      rfl
  refine dss_one (ds_no (dt_is (dt_val (de_anyG hr m4 TB rfl (genT_by (sc := defScope sNeedWeb) (by decide +kernel)) (gi_range (n := (ps.length : Int) - 1) (de_sub (de_is (de_lenT (eP (de_var 0 rfl)) m3) (by rw [List.length_map])) de_int) m5 (by omega) (by omega)) TW (pb := gePs ps) ?_)) ?_))
  · intro cenv A' F' i d kn hs hd hu hdi nmk cap
    obtain ⟨hi, rfl⟩ := ppl_at hdi
    have w1 := cap 0 "web" (webD n ps) rfl rfl rfl rfl
    have h1 : i + 1 < ps.length := by omega
    have e0 : (ps.map prD)[i]? = some (prD ps[i]) := by rw [List.getElem?_map, List.getElem?_eq_getElem (by omega)]; rfl
    have e1 : (ps.map prD)[i + 1]? = some (prD ps[i + 1]) := by rw [List.getElem?_map, List.getElem?_eq_getElem h1]; rfl
    have eg : gePs ps i = geP ps[i] ps[i + 1] := by
      unfold gePs
      rw [List.getElem?_eq_getElem h1, List.getElem?_eq_getElem (show i < ps.length by omega)]
    rw [eg]
    have hlm : (ps.map prD).length < 2 ^ 62 := by rw [List.length_map]; omega
    have hun : A'.units < cLine := unitsG hr hu
    exact gv_geP kn (gv_ix kn i (gv_ix kn 1 (gv_name kn w1) (gv_int kn) rfl rfl (two62 (lt2 _ _))) (gv_name kn nmk) rfl e0 hlm) (gv_ix kn (i + 1) (gv_ix kn 1 (gv_name kn w1) (gv_int kn) rfl rfl (two62 (lt2 _ _))) (gv_add kn (gv_name kn nmk) (gv_int kn)) rfl e1 hlm) hun
  · rw [Bool.eq_false_iff]
    intro z
    obtain ⟨i, hi, e⟩ := List.any_eq_true.mp z
    rw [List.mem_range, List.length_map, ppl_len] at hi
    have h1 : i + 1 < ps.length := by omega
    unfold gePs at e
    rw [List.getElem?_eq_getElem h1, List.getElem?_eq_getElem (show i < ps.length by omega)] at e
    have hno : geP ps[i] ps[i + 1] = false := geP_no (pw_at ok.up (Nat.lt_succ_self i) h1)
    simp only [hno] at e
    cases e

/-! ### is_lot -/
structure LotOk (n : Nat) (g : List Int) : Prop where
  lo : ∀ x ∈ g, 0 ≤ x ∧ x < n
  up : g.Pairwise (· < ·)
  len : g.length < 60
abbrev sIsLot : Stmt := topS 12
theorem scIsLot : FnScope ["web", "value"] ["web", "value"] (defScope sIsLot) := ⟨rfl, rfl, rfl, by decide +kernel, rfl, by decide +kernel, by decide +kernel⟩
def FIsLot : Rel := fun as r => ∃ (n : Nat) (ps : List (Int × Int)) (g : List Int), LotOk n g ∧ as = [.d (webD n ps), .d (tupD g)] ∧ r = .d (.bool true)
def inPs (n : Nat) (g : List Int) (i : Nat) : Bool := match g[i]? with
  | some x => decide (0 ≤ x) && decide (x ≤ (n : Int) - 1)
  | none => false
def ltPs (g : List Int) (i : Nat) : Bool := match g[i]?, g[i + 1]? with
  | some p, some q => decide (p < q)
  | _, _ => false
theorem ints_at {g : List Int} {i : Nat} {d : PyData} (h : (g.map PyData.int)[i]? = some d) : ∃ x, g[i]? = some x ∧ d = .int x := by
  rw [List.getElem?_map] at h
  cases q : g[i]? with
  | none =>
    rw [q] at h
    cases h
  | some x =>
    rw [q] at h
    cases h
    exact ⟨x, rfl, rfl⟩
theorem ok_is_lot {f c PT fi : Addr} {fd fdi : FuncData} (F : FunC K "is_lot" sIsLot f fd c) (TB : GxR.TabB base mg c PT) (TW : TabW W PT) (m1 : mg "isinstance" = none) (m2 : mg "tuple" = none) (m3 : mg "len" = none) (m4 : mg "all" = none) (m5 : mg "range" = none) (m6 : mg "int" = none) (m7 : mg "bool" = none)
    (Fi : Fun K "is_in" "is_in" sIsIn fi fdi) (mi : mg "is_in" = some (.ref fi)) :
    FnOk P w K mg base CX0 2 f fd ["web", "value"] (avSp K W 2 FIsLot) := by
  refine av_defC (k := 1) F scIsLot fun A outer s H hr as r hl hF => ?_
  obtain ⟨n, ps, g, ok, rfl, rfl⟩ := hF
  have hlen := ok.len
  have hr1 := hr.dp
  refine ⟨.rt (.d (.bool true)), ?_, rfl⟩
  refine dss_cons (ds_no (dt_w (dw_or (x := false) (y := false) ?_ fun _ => dw_or1 ?_))) (dss_rt (ds_ret (de_is (de_allG hr m4 TB rfl (genT_by (sc := defScope sIsLot) (by decide +kernel))
    (gi_range (n := (g.length : Int) - 1) (de_sub (de_is (de_lenT (de_var 1 rfl) m3) (by rw [List.length_map])) de_int) m5 (by omega) (by omega)) TW (pb := ltPs g) ?_) ?_)))
  · exact dt_is (dt_not (dt_val (de_isi (d := tupD g) (x := true) (de_var 1 rfl) kb_tt PyProof.Rows.boot_tuple m2 m1))) rfl
  · refine dt_is (dt_not (dt_val (de_allG hr m4 TB rfl (genT_by (sc := defScope sIsLot) (by decide +kernel)) (gi_tup (de_var 1 rfl)) TW (pb := inPs n g) ?_))) ?_
    · intro cenv A' F' i d kn hs hd hu hdi nmk cap
      obtain ⟨x, hx, rfl⟩ := ints_at hdi
      have w1 := cap 0 "web" (webD n ps) rfl rfl rfl rfl
      have eg : inPs n g i = (decide (0 ≤ x) && decide (x ≤ (n : Int) - 1)) := by
        unfold inPs
        rw [hx]
      rw [eg]
      have hdp : A'.depth < recursionLimit := depthG hr hd
      exact gv_is_in kn Fi mi m1 m6 m7 hdp (by unfold Env.kindOf; rw [hs]; rfl) (gv_name kn nmk) (gv_int kn) (gv_sub kn (gv_ix kn 0 (gv_name kn w1) (gv_int kn) rfl rfl (two62 (lt2 _ _))) (gv_int kn))
    · have e : (List.range (g.map PyData.int).length).all (inPs n g) = true := by
        rw [List.all_eq_true]
        intro i hi
        rw [List.mem_range, List.length_map] at hi
        unfold inPs
        rw [List.getElem?_eq_getElem hi]
        have hb := ok.lo g[i] (List.getElem_mem hi)
        simp only [Bool.and_eq_true, decide_eq_true_eq]
        omega
      rw [e]
      rfl
  · intro cenv A' F' i d kn hs hd hu hdi nmk cap
    obtain ⟨hi, rfl⟩ := ppl_at hdi
    have w1 := cap 1 "value" (tupD g) rfl rfl rfl rfl
    have h1 : i + 1 < g.length := by omega
    have e0 : (g.map PyData.int)[i]? = some (.int g[i]) := by rw [List.getElem?_map, List.getElem?_eq_getElem (by omega)]; rfl
    have e1 : (g.map PyData.int)[i + 1]? = some (.int g[i + 1]) := by rw [List.getElem?_map, List.getElem?_eq_getElem h1]; rfl
    have eg : ltPs g i = decide (g[i] < g[i + 1]) := by
      unfold ltPs
      rw [List.getElem?_eq_getElem h1, List.getElem?_eq_getElem (show i < g.length by omega)]
    rw [eg]
    have hlm : (g.map PyData.int).length < 2 ^ 62 := by rw [List.length_map]; omega
    exact gv_lt kn (gv_ix kn i (gv_name kn w1) (gv_name kn nmk) rfl e0 hlm) (gv_ix kn (i + 1) (gv_name kn w1) (gv_add kn (gv_name kn nmk) (gv_int kn)) rfl e1 hlm)
  · congr 2
    rw [List.all_eq_true]
    intro i hi
    rw [List.mem_range, List.length_map, ppl_len] at hi
    have h1 : i + 1 < g.length := by omega
    unfold ltPs
    rw [List.getElem?_eq_getElem h1, List.getElem?_eq_getElem (show i < g.length by omega)]
    exact decide_eq_true (pw_at ok.up (Nat.lt_succ_self i) h1)

/-! ### is_gathering -/
structure GathOk (n : Nat) (ps : List (Int × Int)) (g : List Int) : Prop where
  lot : LotOk n g
  no : ∀ p ∈ ps, ¬ (p.1 ∈ g ∧ p.2 ∈ g)
abbrev sIsGath : Stmt := topS 13
theorem scIsGath : FnScope ["web", "value"] ["web", "value"] (defScope sIsGath) := ⟨rfl, rfl, rfl, by decide +kernel, rfl, by decide +kernel, by decide +kernel⟩
def FIsGath : Rel := fun as r => ∃ (n : Nat) (ps : List (Int × Int)) (g : List Int), GathOk n ps g ∧ as = [.d (webD n ps), .d (tupD g)] ∧ r = .d (.bool true)
def foePs (ps : List (Int × Int)) (g : List Int) (i : Nat) : Bool := match ps[i]? with
  | some p => decide (p.1 ∈ g) && decide (p.2 ∈ g)
  | none => false
theorem ok_is_gath {f c PT : Addr} {fd : FuncData} (F : FunC K "is_gathering" sIsGath f fd c) (TB : GxR.TabB base mg c PT) (TW : TabW W PT) (m4 : mg "any" = none) (CL : Callee P w K mg base "is_lot" 2 2 W FIsLot) :
    FnOk P w K mg base CX0 3 f fd ["web", "value"] (avSp K W 2 FIsGath) := by
  refine av_defC (k := 2) F scIsGath fun A outer s H hr as r hl hF => ?_
  obtain ⟨n, ps, g, ok, rfl, rfl⟩ := hF
  refine ⟨.rt (.d (.bool true)), ?_, rfl⟩
  refine dss_rt (ds_ret (de_is (de_and (de_call CL (Sub.refl W) hr (da_cons (de_var 0 rfl) (da_cons (de_var 1 rfl) da_nil)) ⟨n, ps, g, ok.lot, rfl, rfl⟩) fun _ => de_one (de_not (de_anyG2 hr m4 TB rfl (genT_by (sc := defScope sIsGath) (by decide +kernel)) rfl (by decide)
    (gi_prs (ds := ps.map fun p => (.int p.1, .int p.2)) (de_is (de_ixT 1 (de_var 0 rfl) de_int rfl rfl) ?_)) TW (pb := foePs ps g) ?_))) ?_))
  · rw [List.map_map]
    rfl
  · intro cenv A' F' i d d' kn hs hd hu hdi nm1 nm2 cap
    obtain ⟨p, hp, rfl, rfl⟩ : ∃ p, ps[i]? = some p ∧ d = .int p.1 ∧ d' = .int p.2 := by
      rw [List.getElem?_map] at hdi
      cases q : ps[i]? with
      | none =>
        rw [q] at hdi
        cases hdi
      | some p =>
        rw [q] at hdi
        cases hdi
        exact ⟨p, rfl, rfl, rfl⟩
    have w1 := cap 1 "value" (tupD g) rfl rfl rfl rfl
    have eg : foePs ps g i = (decide (p.1 ∈ g) && decide (p.2 ∈ g)) := by
      unfold foePs
      rw [hp]
    rw [eg]
    have hun : A'.units + 65 < cLine := unitsG65 hr hu
    exact gv_and kn (gv_in kn (gv_name kn nm1) (gv_name kn w1) hun) fun _ => gv_one (gv_in kn (gv_name kn nm2) (gv_name kn w1) hun)
  · have e : (List.range (ps.map fun p => (PyData.int p.1, PyData.int p.2)).length).any (foePs ps g) = false := by
      rw [Bool.eq_false_iff]
      intro z
      obtain ⟨i, hi, e⟩ := List.any_eq_true.mp z
      rw [List.mem_range, List.length_map] at hi
      unfold foePs at e
      rw [List.getElem?_eq_getElem hi] at e
      simp only [Bool.and_eq_true, decide_eq_true_eq] at e
      exact ok.no _ (List.getElem_mem hi) e
    rw [e]
    rfl

/-! ### need_gathering -/
abbrev sNeedGath : Stmt := topS 14
theorem scNeedGath : FnScope ["web", "gathering"] ["web", "gathering"] (defScope sNeedGath) := ⟨rfl, rfl, rfl, by decide +kernel, rfl, by decide +kernel, by decide +kernel⟩
def FNeedGath : Rel := fun as r => ∃ (n : Nat) (ps : List (Int × Int)) (g : List Int), WebOk n ps ∧ GathOk n ps g ∧ as = [.d (webD n ps), .d (tupD g)] ∧ r = .d .none
theorem ok_need_gath {f : Addr} {fd : FuncData} (F : Fun K "need_gathering" "need_gathering" sNeedGath f fd) (CW : Callee P w K mg base "need_web" 1 2 W FNeedWeb) (CG : Callee P w K mg base "is_gathering" 2 3 W FIsGath) :
    FnOk P w K mg base CX0 4 f fd ["web", "gathering"] (avSp K W 2 FNeedGath) := by
  refine av_def (k := 3) F scNeedGath fun cdv A outer s H hr as r hl hF => ?_
  obtain ⟨n, ps, g, okw, ok, rfl, rfl⟩ := hF
  refine ⟨.nx [some (.d (webD n ps)), some (.d (tupD g))], ?_, rfl⟩
  refine dss_cons (ds_expr (de_call CW (Sub.refl W) (hr.mono (by decide)) (da_cons (de_var 0 rfl) da_nil) ⟨n, ps, okw, rfl, rfl⟩)) (dss_one (ds_no (dt_is (dt_not (dt_val (de_call CG (Sub.refl W) hr (da_cons (de_var 0 rfl) (da_cons (de_var 1 rfl) da_nil)) ⟨n, ps, g, ok, rfl, rfl⟩))) rfl)))

/-! ### need_calls -/
abbrev sNeedCalls : Stmt := topS 18
theorem scNeedCalls : FnScope ["web", "start", "least", "many"] ["web", "start", "least", "many"] (defScope sNeedCalls) := ⟨rfl, rfl, rfl, by decide +kernel, rfl, by decide +kernel, by decide +kernel⟩
def FNeedCalls : Rel := fun as r => ∃ (n : Nat) (ps : List (Int × Int)) (g : List Int) (l m : Int), WebOk n ps ∧ GathOk n ps g ∧ l ≤ m ∧ m ≤ 8 ∧ as = [.d (webD n ps), .d (tupD g), .d (.int l), .d (.int m)] ∧ r = .d .none
theorem ok_need_calls {f : Addr} {fd : FuncData} (F : Fun K "need_calls" "need_calls" sNeedCalls f fd) (mc : ∃ t, mg "MOST_CALLS_hands" = some (.int 8 t)) (CN : Callee P w K mg base "need_gathering" 2 4 W FNeedGath) (CI : Callee P w K mg base "is_in" 3 1 W FIsIn) :
    FnOk P w K mg base CX0 5 f fd ["web", "start", "least", "many"] (avSp K W 4 FNeedCalls) := by
  refine av_def (k := 4) F scNeedCalls fun cdv A outer s H hr as r hl hF => ?_
  obtain ⟨n, ps, g, l, m, okw, ok, h1, h2, rfl, rfl⟩ := hF
  obtain ⟨t, mc⟩ := mc
  refine ⟨.nx [some (.d (webD n ps)), some (.d (tupD g)), some (.d (.int l)), some (.d (.int m))], ?_, rfl⟩
  refine dss_cons (ds_expr (de_call CN (Sub.refl W) hr (da_cons (de_var 0 rfl) (da_cons (de_var 1 rfl) da_nil)) ⟨n, ps, g, okw, ok, rfl, rfl⟩)) (dss_one (ds_no (dt_is (dt_not (dt_val (de_call CI (Sub.refl W) (hr.mono (by decide)) (da_cons (de_var 3 rfl) (da_cons (de_var 2 rfl) (da_cons (de_gint mc) da_nil))) ⟨_, _, _, rfl, rfl⟩))) ?_)))
  rw [decide_eq_true h1, decide_eq_true h2]
  rfl
end
end FK
set_option Elab.async false
set_option linter.all false
set_option maxRecDepth 100000
/-! A dict of what is known, keyed by (people, number); its world. -/
namespace FK
open PySem PySem.Spec PyProof.Rows L2

abbrev MEnt := NestedKey × Addr × Value
def mkey (g : List Int) (m : Int) : NestedKey := .tup [.tup (g.map NestedKey.num), .num m]
def MemO (P : Program) (w : World) (d : Addr) (xs : List MEnt) : HO := .ext fun h => ∃ o es ep, h.get? d = some o ∧ o.ExactDict ∧ o.data = .dict es ep ∧ es.toList = xs.map (entryOfKey (nestedKind P w)) ∧ (xs.map (·.1)).Nodup
/-- what a memo is about: its dict, its values, the keys that may come, other things that stand -/
structure Mi where
  d : Addr
  fv : List Int → Int → V
  U : List NestedKey
  objs : List (Addr × (Heap → Prop))
def keyD (g : List Int) (m : Int) : PyData := .tuple [tupD g, .int m]
def EntOk (K : PySem.W.Frag) (i : Mi) (H : Hp) (y : MEnt) : Prop := ∃ g m, y.1 = mkey g m ∧ mkey g m ∈ i.U ∧ Dq K H (.ref y.2.1) (keyD g m) ∧ RelV (i.fv g m) y.2.2
def memX (P : Program) (w : World) (K : PySem.W.Frag) (i : Mi) (H : Hp) (xs : List MEnt) : Prop := H i.d = some (MemO P w i.d xs) ∧ ∀ y ∈ xs, EntOk K i H y
def memJ (P : Program) (w : World) (K : PySem.W.Frag) (i : Mi) (hk : Option NestedKey) (H : Hp) : Prop := (i.d == sysModules) = false ∧ ∃ xs, memX P w K i H xs ∧ ∀ k, hk = some k → (atKey xs k).isSome = true
def objJ (i : Mi) (H : Hp) : Prop := ∀ p ∈ i.objs, p.1 ≠ i.d ∧ H p.1 = some (.ext p.2)
theorem noL_key (g : List Int) (m : Int) : noL (keyD g m) = true := by
  show (noLs (g.map .int) && (true && true)) = true
  rw [noLs_ints]
  rfl
theorem memJ_of {P : Program} {w : World} {K : PySem.W.Frag} {i : Mi} {hk : Option NestedKey} {H H' : Hp} (h : memJ P w K i hk H) (e : TupEx H H') (hd : ∀ φ, H i.d = some (.ext φ) → H' i.d = some (.ext φ)) : memJ P w K i hk H' := by
  obtain ⟨h1, xs, ⟨h2, h3⟩, h4⟩ := h
  refine ⟨h1, xs, ⟨hd _ h2, fun y hy => ?_⟩, h4⟩
  obtain ⟨g, m, e1, e2, e3, e4⟩ := h3 y hy
  exact ⟨g, m, e1, e2, dp_noL e _ _ (noL_key g m) e3, e4⟩
theorem TupEx.new {H : Hp} {p : Addr} {o : HO} (h : H p = none) : TupEx H (upd H p o) := by
  refine ⟨fun a zs e => ?_, fun a o u e => ?_⟩
  · rw [upd_ne (ne_of_none e h)]
    exact e
  · rw [upd_ne (ne_of_none e h)]
    exact e
theorem TupEx.ext {H : Hp} {p : Addr} {φ : Heap → Prop} {o : HO} (h : H p = some (.ext φ)) : TupEx H (upd H p o) := by
  refine ⟨fun a zs e => ?_, fun a o u e => ?_⟩
  · rw [upd_ne (ne_of e h (by intro z; cases z))]
    exact e
  · rw [upd_ne (ne_of e h (by intro z; cases z))]
    exact e
def Wm (P : Program) (w : World) (K : PySem.W.Frag) (TG : List Addr) (TL : List (Addr × Str)) (i : Mi) (hk : Option NestedKey) : Wd where
  mu := fun a o => isTab o ∨ (a = i.d ∧ ∃ φ, o = .ext φ)
  J := fun H => tabJ TG TL H ∧ objJ i H ∧ memJ P w K i hk H
  mtup := fun _ _ z => by rcases z with ⟨_, z⟩ | ⟨_, _, z⟩ <;> cases z
  mlst := fun _ _ z => by rcases z with ⟨_, z⟩ | ⟨_, _, z⟩ <;> cases z
  mfrz := fun _ _ _ z => by rcases z with ⟨_, z⟩ | ⟨_, _, z⟩ <;> cases z
  mdk := fun _ _ z => by rcases z with ⟨_, z⟩ | ⟨_, _, z⟩ <;> cases z
  jal := fun H p o hp h => ⟨(W0 TG TL).jal H p o hp h.1, fun q hq => ⟨(h.2.1 q hq).1, by rw [upd_ne (ne_of_none (h.2.1 q hq).2 hp)]; exact (h.2.1 q hq).2⟩, memJ_of h.2.2 (TupEx.new hp) fun φ e => by rw [upd_ne (ne_of_none e hp)]; exact e⟩
  jlst := fun H p xs ys hp h => ⟨(W0 TG TL).jlst H p xs ys hp h.1, fun q hq => ⟨(h.2.1 q hq).1, by rw [upd_ne (ne_of (h.2.1 q hq).2 hp (by intro z; cases z))]; exact (h.2.1 q hq).2⟩, memJ_of h.2.2 (TupEx.lst hp) fun φ e => by rw [upd_ne (ne_of e hp (by intro z; cases z))]; exact e⟩
  jdk := fun H p xs ys hp h => ⟨(W0 TG TL).jdk H p xs ys hp h.1, fun q hq => ⟨(h.2.1 q hq).1, by rw [upd_ne (ne_of (h.2.1 q hq).2 hp (by intro z; cases z))]; exact (h.2.1 q hq).2⟩, memJ_of h.2.2 (TupEx.dk hp) fun φ e => by rw [upd_ne (ne_of e hp (by intro z; cases z))]; exact e⟩
section
variable {P : Program} {w : World} {K : PySem.W.Frag} {TG : List Addr} {TL : List (Addr × Str)} {i : Mi} {hk : Option NestedKey}
theorem memJ.ex {H H' : Hp} (h : memJ P w K i hk H) (e : Ex (W0 TG TL) H H') : memJ P w K i hk H' :=
  memJ_of h ⟨fun a xs q => e a _ q (fun ⟨_, z⟩ => by cases z), fun a o u q => e a _ q (fun ⟨_, z⟩ => by cases z)⟩ fun φ q => e _ _ q (fun ⟨_, z⟩ => by cases z)
theorem objJ.ex {H H' : Hp} (h : objJ i H) (e : Ex (W0 TG TL) H H') : objJ i H' := fun p hp => ⟨(h p hp).1, e _ _ (h p hp).2 fun ⟨_, z⟩ => by cases z⟩
/-- defs of the world of tables serve in the memo's world -/
theorem sub_m : Sub (W0 TG TL) (Wm P w K TG TL i hk) := ⟨fun a o h => .inl h, fun H h => h.1, fun H H' h e j => ⟨j, h.2.1.ex e, h.2.2.ex e⟩⟩

/-! ### the key in the heap -/
theorem nested_ints {h : Heap} : ∀ (ns : List Int) (us : List Value) (as : List Addr), ReadsAll h us (ns.map .int) as → NestedAll h (ns.map NestedKey.num) us
  | [], _, _, r => by
    have r' : ReadsAll h _ [] _ := r
    cases r'
    exact .nil
  | n :: ns, _, _, r => by
    have r' : ReadsAll h _ (.int n :: ns.map .int) _ := r
    cases r' with
    | cons r1 r2 =>
      cases r1
      exact .cons (.int _ _) (nested_ints ns _ _ r2)
theorem depth_nums : ∀ ns : List Int, NestedKey.depthAll (ns.map NestedKey.num) = 0
  | [] => by simp [NestedKey.depthAll]
  | n :: ns => by
    show NestedKey.depthAll (.num n :: ns.map .num) = 0
    simp only [NestedKey.depthAll, NestedKey.depth, depth_nums ns]
    rfl
theorem mkey_depth (g : List Int) (m : Int) : (mkey g m).depth ≤ 8 := by
  unfold mkey
  simp only [NestedKey.depth, NestedKey.depthAll, depth_nums]
  decide
theorem nested_key {h : Heap} {u : Value} {g : List Int} {m : Int} (r : RdD h u (keyD g m)) : ∃ a, u = .ref a ∧ (nestedKind P w).is h (mkey g m) a := by
  obtain ⟨as, r⟩ := r
  cases r with
  | tuple h1 h2 h3 h4 =>
    refine ⟨_, rfl, ?_, mkey_depth g m⟩
    refine NestedIs.tup h1 h2 h3 ?_
    generalize hv : (Array.toList _) = l at h4
    cases h4 with
    | cons r1 r2 =>
      cases r2 with
      | cons r3 r4 =>
        cases r4
        cases r3
        cases r1 with
        | tuple q1 q2 q3 q4 => exact .cons (NestedIs.tup q1 q2 q3 (nested_ints g _ _ q4)) (.cons (.int _ _) .nil)
end
theorem nodup_sub : ∀ {α : Type} [DecidableEq α] (l U : List α), l.Nodup → (∀ x ∈ l, x ∈ U) → l.length ≤ U.length
  | _, _, [], U, _, _ => Nat.zero_le _
  | _, _, x :: l, U, h, hs => by
    obtain ⟨h1, h2⟩ := List.nodup_cons.mp h
    have hx := hs x List.mem_cons_self
    have := nodup_sub l (U.erase x) h2 fun y hy => by
      have hne : y ≠ x := fun z => h1 (z ▸ hy)
      exact (List.mem_erase_of_ne hne).mpr (hs y (List.mem_cons_of_mem _ hy))
    rw [List.length_erase_of_mem hx] at this
    have hp : 0 < U.length := List.length_pos_of_mem hx
    rw [List.length_cons]
    omega
section
variable {X : Cx} {TG : List Addr} {TL : List (Addr × Str)} {i : Mi} {hk : Option NestedKey} {pins : List (Addr × Obj)} {σ : L2.St} {H : Hp} {s : Shared}
theorem dq_rd (I : Inv X pins σ H s) {v : V} {u : Value} {d : PyData} (h : Dq X.K H v d) (r : RelV v u) : RdD s.heap u d := by
  obtain ⟨as, q⟩ := L2.Dp.reads I d v u (dq_dp d v h) r
  exact ⟨as, q⟩
theorem mem_heap (I : Inv X pins σ H s) {xs : List MEnt} (h : memX X.prog X.w X.K i H xs) : s.heap.DictOfH (nestedKind X.prog X.w) i.d xs ∧ xs.length ≤ i.U.length := by
  obtain ⟨⟨o, es, ep, h1, h2, h3, h4, h5⟩, _, _⟩ := I.hok _ _ h.1
  refine ⟨⟨o, es, ep, h1, h2, h3, h4, fun y hy => ?_, h5⟩, ?_⟩
  · obtain ⟨g, m, e1, e2, e3, e4⟩ := h.2 y hy
    rw [e1]
    obtain ⟨a, e5, e6⟩ := nested_key (P := X.prog) (w := X.w) (dq_rd I e3 rfl)
    cases e5
    exact e6
  · have hl := nodup_sub (xs.map (·.1)) i.U h5 fun k hk => by
      obtain ⟨y, hy, rfl⟩ := List.mem_map.mp hk
      obtain ⟨g, m, e1, e2, _⟩ := h.2 y hy
      rw [e1]
      exact e2
    rwa [List.length_map] at hl
theorem atKey_mem {xs : List MEnt} {k : NestedKey} {p : Addr × Value} (h : atKey xs k = some p) : (k, p) ∈ xs := by
  unfold atKey at h
  obtain ⟨x, hx, rfl⟩ := Option.map_eq_some_iff.mp h
  have h1 := List.mem_of_find?_eq_some hx
  have h2 := List.find?_some hx
  simp only [decide_eq_true_eq] at h2
  rw [← h2]
  exact h1
theorem mkey_inj {g g' : List Int} {m m' : Int} (h : mkey g m = mkey g' m') : g = g' ∧ m = m' := by
  unfold mkey at h
  injection h with h
  injection h with h1 h2
  injection h2 with h2 _
  injection h1 with h1
  injection h2 with h2
  refine ⟨?_, h2⟩
  have : ∀ (a b : List Int), a.map NestedKey.num = b.map NestedKey.num → a = b := by
    intro a
    induction a with
    | nil => intro b z; cases b with
      | nil => rfl
      | cons y b => simp at z
    | cons x a ih => intro b z; cases b with
      | nil => simp at z
      | cons y b =>
        simp at z
        obtain ⟨z1, z2⟩ := z
        rw [z1, ih b (by simpa using z2)]
  exact this _ _ h1
/-- key not in known -/
def rNinM (X : Cx) (i : Mi) : R2 := fun x y H Q => y = .ref i.d ∧ ∃ g m, Dq X.K H x (keyD g m) ∧ memJ X.prog X.w X.K i none H ∧ (memJ X.prog X.w X.K i (some (mkey g m)) H → Q (.bl false) H) ∧ Q (.bl true) H
theorem op_ninM (hu : X.A.units + 65 < cLine) : OpR X (compareOp .NotIn) (rNinM X i) := by
  intro pins s σ H x y v u Q I rx ry h
  obtain ⟨rfl, g, m, hx, ⟨hd, xs, hm, _⟩, q1, q2⟩ := h
  obtain rfl : u = Value.ref i.d := ry
  obtain ⟨a, rfl, hkey⟩ := nested_key (P := X.prog) (w := X.w) (dq_rd I hx rx)
  refine wpAny_notIn_heap (show X.A.units + 1 + 8 < cLine by omega) hkey hd (mem_heap I hm).1 ?_
  cases hc : (atKey xs (mkey g m)).isSome with
  | true => exact ⟨.bl false, H, I.tok _, rfl, q1 ⟨hd, xs, hm, fun k e => by cases e; exact hc⟩⟩
  | false => exact ⟨.bl true, H, I.tok _, rfl, q2⟩
/-- known[key], which is there -/
def rGetM (X : Cx) (i : Mi) : R2 := fun x y H Q => x = .ref i.d ∧ ∃ g m, Dq X.K H y (keyD g m) ∧ memJ X.prog X.w X.K i (some (mkey g m)) H ∧ Q (i.fv g m) H
theorem ix_mem (hu : X.A.units + 65 < cLine) : IxR X (rGetM X i) := by
  intro value slice pins s σ H x y v u Q I rx ry h hs
  obtain ⟨rfl, g, m, hy, ⟨hd, xs, hm, hh⟩, q⟩ := h
  obtain rfl : v = Value.ref i.d := rx
  obtain ⟨a, rfl, hkey⟩ := nested_key (P := X.prog) (w := X.w) (dq_rd I hy ry)
  obtain ⟨hm1, _⟩ := mem_heap I hm
  obtain ⟨p, hp⟩ := Option.isSome_iff_exists.mp (hh _ rfl)
  obtain ⟨g', m', e1, _, _, e4⟩ := hm.2 _ (atKey_mem hp)
  obtain ⟨rfl, rfl⟩ := mkey_inj e1
  exact subscriptTail_builtinR (x := p.2) hm1.typeIs slot_dict_getitem.lookup (wpAny_getItem_heap (Q := fun r s' => r = p.2 ∧ EP X pins σ Q r s') (show X.A.units + 1 + 8 < cLine by omega) hkey hm1 hp ⟨rfl, _, H, I.tok _, e4, q⟩) hs

theorem atKey_app {xs : List MEnt} {k : NestedKey} {p : Addr × Value} : (atKey (xs ++ [(k, p)]) k).isSome = true := by
  unfold atKey
  rw [Option.isSome_map, List.find?_isSome]
  exact ⟨(k, p), List.mem_append_right _ List.mem_cons_self, decide_eq_true rfl⟩
theorem atKey_put {xs : List MEnt} {k : NestedKey} {v : Value} (h : (atKey xs k).isSome = true) : (atKey (xs.map (putAt k v)) k).isSome = true := by
  unfold atKey at h ⊢
  rw [Option.isSome_map, List.find?_isSome] at h ⊢
  obtain ⟨x, hx, e⟩ := h
  refine ⟨putAt k v x, List.mem_map.mpr ⟨x, hx, rfl⟩, ?_⟩
  simp only [decide_eq_true_eq] at e ⊢
  unfold putAt
  rw [if_pos e]
  exact e
abbrev wX (X : Cx) (TG : List Addr) (TL : List (Addr × Str)) (i : Mi) (hk : Option NestedKey) : Wd := Wm X.prog X.w X.K TG TL i hk
theorem ex_d {φ : Heap → Prop} {o : HO} (h : H i.d = some (.ext φ)) : Ex (wX X TG TL i hk) H (upd H i.d o) := fun a u e n => by
  by_cases ha : a = i.d
  · subst ha
    rw [h] at e
    cases e
    exact absurd (Or.inr ⟨rfl, φ, rfl⟩) n
  · rw [upd_ne ha]
    exact e
theorem memO_ne {c : Addr} {q : Str} (I : Inv X pins σ H s) (hc : H c = some (LamX.CodeO c q)) {xs : List MEnt} (hd : H i.d = some (MemO X.prog X.w i.d xs)) : c ≠ i.d := fun z => by
  obtain ⟨⟨oc, vs, t, e1, e2, e3⟩, _, _⟩ := I.hok c _ hc
  obtain ⟨⟨o, es, ep, h1, h2, h3, h4, h5⟩, _, _⟩ := I.hok _ _ hd
  rw [z, h1] at e1
  cases e1
  rw [h3] at e2
  cases e2
theorem ps_memput {known key value : Expr} {pos' pos : Pos} {ρ : Rho} {x : PyData} {g : List Int} {m : Int} (hu : X.A.units + 65 < cLine) (hd : DE X (wX X TG TL i none) ρ known (.r (.ref i.d))) (hkk : DE X (wX X TG TL i none) ρ key (.d (keyD g m))) (hv : DE X (wX X TG TL i none) ρ value (.d x))
    (hx : ∀ K H v, Dq K H v x → v = i.fv g m) (hU : mkey g m ∈ i.U) (hl : i.U.length ≤ sizeLine) (hs : swapsWith value (some (.Subscript known key pos')) pos.line X.env = pure false) :
    PS X (.Assign [.Subscript known key pos'] value pos) (fun D σ H => (wX X TG TL i none).J H ∧ SlOk X.K H σ ρ ∧ ∀ H', Ex (wX X TG TL i none) H H' → (wX X TG TL i (some (mkey g m))).J H' → SlOk X.K H' σ ρ → D.nx σ H') := by
  refine ⟨fun pins s σ H D I ⟨j, sl, q⟩ => ?_⟩
  refine wpAny_Assign_Subscript (thn (hv.run pins s σ H _ I ⟨j, sl, fun v H1 x1 j1 r1 => (⟨x1, j1, r1⟩ : Ex (wX X TG TL i none) H H1 ∧ (wX X TG TL i none).J H1 ∧ AvOk X.K H1 v _)⟩) fun r s1 ⟨v, H1, I1, rv, x1, j1, r1⟩ =>
    thn (hd.run pins s1 σ H1 _ I1 ⟨j1, sl.mono x1, fun y H2 x2 j2 r2 => (⟨x2, j2, r2⟩ : Ex (wX X TG TL i none) H1 H2 ∧ (wX X TG TL i none).J H2 ∧ y = V.ref i.d)⟩) fun u s2 ⟨y, H2, I2, ry, x2, j2, r2⟩ =>
    thn (hkk.run pins s2 σ H2 _ I2 ⟨j2, (sl.mono x1).mono x2, fun y H3 x3 j3 r3 => (⟨x3, j3, r3⟩ : Ex (wX X TG TL i none) H2 H3 ∧ (wX X TG TL i none).J H3 ∧ AvOk X.K H3 y _)⟩) fun kv s3 ⟨z, H3, I3, rz, x3, j3, r3⟩ => ?_) hs
  subst r2
  obtain rfl : u = Value.ref i.d := ry
  have r1' : v = i.fv g m := hx _ _ _ r1
  subst r1'
  obtain ⟨a, rfl, hkey⟩ := nested_key (P := X.prog) (w := X.w) (dq_rd I3 r3 rz)
  obtain ⟨jt, jo, hsm, xs, hm, _⟩ := j3
  obtain ⟨hm1, hml⟩ := mem_heap I3 hm
  have hz : z = V.ref a := by
    cases z with
    | ref b => cases (show Value.ref a = Value.ref b from rz); rfl
    | int i => obtain ⟨t, rz⟩ := rz; cases rz
    | str i => obtain ⟨t, rz⟩ := rz; cases rz
    | _ => cases r3
  subst hz
  refine wpAny_setItem_heap (hsz := Nat.le_trans hml hl) (show X.A.units + 1 + 8 < cLine by omega) hkey hm1 fun h' dd' hsb => ?_
  obtain ⟨ob, es, ep, hq, h2, h3, h4, _, h5⟩ := dd'
  have hd3 : H3 i.d = some (MemO X.prog X.w i.d xs) := hm.1
  have I4 := d_write (t' := s3.toks + (nestedKind X.prog X.w).draws (mkey g m)) (ob := MemO X.prog X.w i.d (storedH xs (mkey g m) a r)) I3 (by rw [hd3]; exact True.intro) hsb ⟨ob, hq⟩
    ⟨⟨ob, es, ep, hq, h2, h3, h4, h5⟩, ⟨ob, hq⟩, fun g1 g2 ⟨o, es, ep, q1, q2⟩ st => ⟨o, es, ep, st _ q1, q2⟩⟩
  have x4 : Ex (wX X TG TL i none) H3 (upd H3 i.d (MemO X.prog X.w i.d (storedH xs (mkey g m) a r))) := ex_d hd3
  have x5 := ((x1.trans x2).trans x3).trans x4
  refine ⟨σ, _, I4, q _ x5 ⟨?_, ?_, hsm, _, ⟨upd_same, ?_⟩, ?_⟩ (sl.mono x5)⟩
  · refine tabJ_of jt fun b o e k => ?_
    rw [upd_ne]
    · exact e
    · rcases k with ⟨ps, k⟩ | ⟨q, k⟩
      · subst k
        exact ne_of e hd3 (by intro z; cases z)
      · subst k
        exact memO_ne I3 e hd3
  · intro p hp
    exact ⟨(jo p hp).1, by rw [upd_ne (jo p hp).1]; exact (jo p hp).2⟩
  · have old : ∀ y ∈ xs, EntOk X.K i (upd H3 i.d (MemO X.prog X.w i.d (storedH xs (mkey g m) a r))) y := fun y hy => by
      obtain ⟨g', m', e1, e2, e3, e4⟩ := hm.2 y hy
      exact ⟨g', m', e1, e2, dp_noL (TupEx.ext hd3) _ _ (noL_key g' m') e3, e4⟩
    intro y hy
    unfold storedH at hy
    split at hy
    · obtain ⟨y0, hy0, rfl⟩ := List.mem_map.mp hy
      unfold putAt
      split
      · rename_i e
        obtain ⟨g', m', e1, e2, e3, e4⟩ := old y0 hy0
        rw [e] at e1
        obtain ⟨rfl, rfl⟩ := mkey_inj e1
        exact ⟨g, m, e, e2, e3, rv⟩
      · exact old y0 hy0
    · rcases List.mem_append.mp hy with hy | hy
      · exact old y hy
      · rw [List.mem_singleton] at hy
        subst hy
        exact ⟨g, m, rfl, hU, dp_noL (TupEx.ext hd3) _ _ (noL_key g m) r3, rv⟩
  · intro k e
    cases e
    unfold storedH
    split
    · rename_i hs
      exact atKey_put hs
    · exact atKey_app
/-- if key not in known: body; return known[key] -/
theorem dss_memo {known key known2 key2 : Expr} {body : List Stmt} {p1 p2 p4 p5 : Pos} {ρ : Rho} {x : PyData} {g : List Int} {m : Int} (hu : X.A.units + 65 < cLine) (hx : ∀ K H, Dq K H (i.fv g m) x)
    (hd : DE X (wX X TG TL i none) ρ known (.r (.ref i.d))) (hkk : DE X (wX X TG TL i none) ρ key (.d (keyD g m)))
    (hd2 : DE X (wX X TG TL i (some (mkey g m))) ρ known2 (.r (.ref i.d))) (hkk2 : DE X (wX X TG TL i (some (mkey g m))) ρ key2 (.d (keyD g m)))
    (hb : PSs X body (fun D σ H => (wX X TG TL i none).J H ∧ SlOk X.K H σ ρ ∧ ∀ σ' H', Ex (wX X TG TL i none) H H' → (wX X TG TL i (some (mkey g m))).J H' → SlOk X.K H' σ' ρ → D.nx σ' H'))
    (hm1 : behindInMarks .NotIn known = false) (hs : PlainIx key2) :
    DSs X (wX X TG TL i none) ρ [.If (.Compare key [.NotIn] [known] p1) body [] p2, .Return (some (.Subscript known2 key2 p4)) p5] (.rt (.d x)) := by
  refine pss_imp (pss_cons (ps_if (pt_cmpR (op_ninM (i := i) hu) hkk hd hm1) hb pss_nil) (pss_one (ps_ret (pe_ix (ix_mem (i := i) hu) hd2 hkk2 hs)))) fun D σ H ⟨j, sl, q⟩ => ?_
  have fin : ∀ σ' H', Ex (wX X TG TL i none) H H' → (wX X TG TL i (some (mkey g m))).J H' → SlOk X.K H' σ' ρ → tOp (rGetM X i) (tE X.K (wX X TG TL i (some (mkey g m))) ρ (.r (.ref i.d))) (tE X.K (wX X TG TL i (some (mkey g m))) ρ (.d (keyD g m))) σ' H' D.rt := by
    intro σ' H' x1 j1 s1
    refine ⟨j1, s1, fun v H2 x2 j2 r2 => ⟨j2, s1.mono x2, fun y H3 x3 j3 r3 => ⟨r2, g, m, r3, j3.2.2, q _ H3 ((x1.trans x2).trans x3) ⟨j3.1, j3.2.1, ?_⟩ (hx _ _)⟩⟩⟩
    obtain ⟨h1, xs, h2, _⟩ := j3.2.2
    exact ⟨h1, xs, h2, fun k e => by cases e⟩
  refine ⟨j, sl, fun y H1 x1 j1 r1 => ⟨j1, sl.mono x1, fun kv H2 x2 j2 r2 => ⟨r2, g, m, AvOk.mono x2 r1, j2.2.2, fun hh => ⟨false, rfl, ?_⟩, ⟨true, rfl, ?_⟩⟩⟩⟩
  · exact fin σ H2 (x1.trans x2) ⟨j2.1, j2.2.1, hh⟩ ((sl.mono x1).mono x2)
  · exact ⟨j2, (sl.mono x1).mono x2, fun σ' H' x3 j3 s3 => fin σ' H' ((x1.trans x2).trans x3) j3 s3⟩
end
end FK
set_option Elab.async false
set_option linter.all false
set_option maxRecDepth 100000
/-! A score that is handed over; worth. -/
namespace FK
open PySem PySem.Spec PyProof.Rows L2

/-! ### lots -/
def subs : List Int → List (List Int)
  | [] => [[]]
  | x :: r => subs r ++ (subs r).map (x :: ·)
theorem subs_len : ∀ l : List Int, (subs l).length = 2 ^ l.length
  | [] => rfl
  | x :: r => by
    unfold subs
    rw [List.length_append, List.length_map, subs_len r, List.length_cons, Nat.pow_succ]
    omega
theorem subs_nil : ∀ l : List Int, [] ∈ subs l
  | [] => List.mem_singleton.mpr rfl
  | _ :: r => List.mem_append_left _ (subs_nil r)
theorem subs_mem : ∀ (l g : List Int), l.Pairwise (· < ·) → g.Pairwise (· < ·) → (∀ x ∈ g, x ∈ l) → g ∈ subs l
  | [], g, _, _, h => by
    cases g with
    | nil => exact subs_nil _
    | cons y g => exact absurd (h y List.mem_cons_self) (by simp)
  | x :: r, g, hl, hg, h => by
    obtain ⟨l1, l2⟩ := List.pairwise_cons.mp hl
    cases g with
    | nil => exact subs_nil _
    | cons y g =>
      obtain ⟨g1, g2⟩ := List.pairwise_cons.mp hg
      unfold subs
      by_cases e : y = x
      · subst e
        refine List.mem_append_right _ (List.mem_map.mpr ⟨g, subs_mem r g l2 g2 fun z hz => ?_, rfl⟩)
        rcases List.mem_cons.mp (h z (List.mem_cons_of_mem _ hz)) with q | q
        · have := g1 z hz
          omega
        · exact q
      · have hy : y ∈ r := (List.mem_cons.mp (h y List.mem_cons_self)).resolve_left e
        refine List.mem_append_left _ (subs_mem r (y :: g) l2 hg fun z hz => ?_)
        rcases List.mem_cons.mp (h z hz) with q | q
        · have h1 := l1 y hy
          rcases List.mem_cons.mp hz with q2 | q2
          · rw [q2]
            exact hy
          · have := g1 z q2
            omega
        · exact q
theorem lt_nodup {l : List Int} (h : l.Pairwise (· < ·)) : l.Nodup := h.imp fun h => by omega
theorem LotOk.len7 {n : Nat} {g : List Int} (h : LotOk n g) : g.length ≤ n := by
  have := nodup_sub g (ppl n) (lt_nodup h.up) fun x hx => mem_ppl.mpr (h.lo x hx)
  rwa [ppl_len] at this
theorem LotOk.subs {n : Nat} {g : List Int} (h : LotOk n g) : g ∈ subs (ppl n) := subs_mem _ _ (ppl_up n) h.up fun x hx => mem_ppl.mpr (h.lo x hx)
theorem came_mem {ps : List (Int × Int)} {g : List Int} {p k : Int} : k ∈ cameI ps g p ↔ (k ∈ g ∧ k ≠ p ∧ foe ps k p = false) ∨ k = p := by
  unfold cameI
  rw [(isort_perm _).mem_iff, List.mem_append, List.mem_filter, List.mem_singleton]
  simp
theorem came_up {ps : List (Int × Int)} {g : List Int} {p : Int} (h : g.Pairwise (· < ·)) : (cameI ps g p).Pairwise (· < ·) := by
  unfold cameI
  refine lt_of_le_nodup (isort_up _) ((isort_perm _).nodup_iff.mpr ?_)
  rw [List.nodup_append]
  refine ⟨(lt_nodup h).filter _, by simp, fun a ha b hb z => ?_⟩
  rw [List.mem_singleton] at hb
  rw [List.mem_filter] at ha
  subst hb
  subst z
  simp at ha
theorem lot_of {n : Nat} {g : List Int} (hn : n ≤ 50) (h : ∀ x ∈ g, 0 ≤ x ∧ x < n) (u : g.Pairwise (· < ·)) : LotOk n g := by
  refine ⟨h, u, ?_⟩
  have := nodup_sub g (ppl n) (lt_nodup u) fun x hx => mem_ppl.mpr (h x hx)
  rw [ppl_len] at this
  omega
theorem came_lot {n : Nat} {ps : List (Int × Int)} {g : List Int} {p : Int} (hn : n ≤ 50) (h : LotOk n g) (hp : p ∈ ppl n) : LotOk n (cameI ps g p) := by
  refine lot_of hn (fun x hx => ?_) (came_up h.up)
  rcases came_mem.mp hx with ⟨q, _⟩ | q
  · exact h.lo x q
  · rw [q]
    exact mem_ppl.mp hp

theorem filter_tt {α : Type} (l : List α) : (l.filter fun _ => true) = l := List.filter_eq_self.mpr fun _ _ => rfl
/-! ### worth, plainly -/
def wv (n : Nat) (ps : List (Int × Int)) (sc : List Int → Int) : Nat → Bool → List Int → Int
  | 0, _, g => sc g
  | m + 1, b, g => if b = true then maxI ((ppl n).map fun p => wv n ps sc m (!b) (cameI ps g p)) else minI ((ppl n).map fun p => wv n ps sc m (!b) (cameI ps g p))
/-- the keys that may come -/
def keysU (n : Nat) : List NestedKey := (List.range 9).flatMap fun (m : Nat) => (subs (ppl n)).map fun g => mkey g (m : Int)
theorem keysU_mem {n m : Nat} {g : List Int} (h : LotOk n g) (hm : m ≤ 8) : mkey g (m : Int) ∈ keysU n := by
  unfold keysU
  rw [List.mem_flatMap]
  exact ⟨m, List.mem_range.mpr (by omega), List.mem_map.mpr ⟨g, h.subs, rfl⟩⟩
theorem keysU_len {n : Nat} (hn : n ≤ 7) : (keysU n).length ≤ 1152 := by
  have e : (keysU n).length = 9 * 2 ^ n := by
    unfold keysU
    simp [List.length_flatMap, subs_len, ppl_len]
    show (List.map (fun _ => 2 ^ n) [0, 1, 2, 3, 4, 5, 6, 7, 8]).sum = 9 * 2 ^ n
    simp
    omega
  rw [e]
  have : 2 ^ n ≤ 2 ^ 7 := Nat.pow_le_pow_right (by decide) hn
  omega

/-! ### a score -/
/-- the function object at f gives val of a lot, while the things of objs stand -/
structure ScOk (P : Program) (w : World) (K : PySem.W.Frag) (mg : Str → Option Value) (base : Heap) (f : Addr) (objs : List (Addr × (Heap → Prop))) (val : List Int → Int) : Prop where
  fn : ∀ h : Heap, (∀ p ∈ objs, p.2 h) → PySem.W.FnAt f h
  run : ∀ (A : Around) (s : Shared) (u : Value) (g : List Int) (E Q : Value → Shared → Prop), L2.Mod K mg base → (∀ b o, base.get? b = some o → s.heap.get? b = some o) → A.handled = none → A.depth + 3 < recursionLimit → A.units + 100 < cLine → (∀ p ∈ objs, p.2 s.heap) →
    RdD s.heap u (tupD g) → g.length < 60 → (∀ s' t, Keeps s s' → Q (.int (val g) t) s') → wpAny (model P w) A (call (.ref f) [u]) Q E s
section
variable {X : Cx} {TG : List Addr} {TL : List (Addr × Str)} {i : Mi} {hk : Option NestedKey} {ρ : Rho} {e : Expr} {p pos : Pos}
theorem de_score {f : Addr} {val : List Int → Int} {g : List Int} {n : Str} {k : Nat} (j : Nat) (S : ScOk X.prog X.w X.K X.mg X.base f i.objs val) (hr : Room k X.A) (hn : ρ[j]? = some (some (.r (.ref f)))) (ha : DE X (wX X TG TL i hk) ρ e (.d (tupD g))) (hg : g.length < 60)
    (hN : X.N[j]? = some n := by rfl) (hv : Vis X.env.scope n := by first | exact Or.inl rfl | exact Or.inr (Or.inl rfl) | exact Or.inr (Or.inr rfl)) (hd : (n == ("__debug__" : Str)) = false := by decide) (hcd : (n == ("__classdict__" : Str)) = false := by decide)
    (he : starEach [e] X.env = (false, eval e X.env) :: starEach [] X.env := by rfl) : DE X (wX X TG TL i hk) ρ (.Call (.Name n p) [e] [] pos) (.d (.int (val g))) := by
  refine ⟨fun pins s σ H Q I ⟨jj, sl, q⟩ => ?_⟩
  have hobj : ∀ {s1 : Shared} {H1 : Hp}, Inv X pins σ H1 s1 → (wX X TG TL i hk).J H1 → ∀ p ∈ i.objs, p.2 s1.heap := fun I1 j1 p hp => (I1.hok _ _ (j1.2.1 p hp).2).1
  refine wpAny_Call_Name_kw (thn ((de_var (X := X) (W := wX X TG TL i hk) (a := .r (.ref f)) j hn hN hv hd hcd).run pins s σ H _ I ⟨jj, sl, fun y H1 x1 j1 r1 => (⟨x1, j1, r1⟩ : Ex (wX X TG TL i hk) H H1 ∧ (wX X TG TL i hk).J H1 ∧ y = V.ref f)⟩) fun u s1 ⟨y, H1, I1, ry, x1, j1, r1⟩ => ?_)
  subst r1
  obtain rfl : u = Value.ref f := ry
  refine PySem.W.callWith_F (S.fn _ (hobj I1 j1)) ?_ he (by rfl)
  rw [he]
  show wpAny _ _ (spliced ((false, eval e X.env) :: backTo pos (starEach [] X.env))) _ _ s1
  refine Calls.spliced_cons (thn (ha.run pins s1 σ H1 _ I1 ⟨j1, sl.mono x1, fun y H2 x2 j2 r2 => (⟨x2, j2, r2⟩ : Ex (wX X TG TL i hk) H1 H2 ∧ (wX X TG TL i hk).J H2 ∧ AvOk X.K H2 y _)⟩) fun v s2 ⟨y, H2, I2, ry, x2, j2, r2⟩ => ?_)
  have hdp := hr.dp
  have hun := hr.un
  refine Calls.spliced_nil ⟨S.fn _ (hobj I2 j2), ?_⟩
  refine S.run X.A s2 v g _ _ I2.mod I2.bk hr.hd (by omega) (by omega) (hobj I2 j2) (dq_rd I2 r2 ry) hg fun s3 t kk => ?_
  obtain ⟨h', t', rfl, k'⟩ := kk
  exact ⟨.int (val g), H2, I2.kept k', ⟨t, rfl⟩, q _ H2 (x1.trans x2) j2 (.int _)⟩
end

/-! ### worth -/
section
variable {P : Program} {w : World} {K : PySem.W.Frag} {mg : Str → Option Value} {base : Heap} {TG : List Addr} {TL : List (Addr × Str)}
abbrev sWorth : Stmt := topS 19
abbrev nWorth : List Str := ["web", "here", "many", "is_first", "score", "known", "key", "some", "one"]
abbrev pWorth : List Str := ["web", "here", "many", "is_first", "score", "known"]
theorem scWorth : FnScope nWorth pWorth (defScope sWorth) := ⟨rfl, rfl, rfl, by decide +kernel, rfl, by decide +kernel, by decide +kernel⟩
/-- the memo of worth -/
def miW (n : Nat) (ps : List (Int × Int)) (val : List Int → Int) (par : Nat → Bool) (d : Addr) (objs : List (Addr × (Heap → Prop))) : Mi := ⟨d, fun g m => .int (wv n ps val m.toNat (par m.toNat) g), keysU n, objs⟩
def FWorth (n : Nat) (ps : List (Int × Int)) (val : List Int → Int) (par : Nat → Bool) (f d : Addr) (m : Nat) : Rel := fun as r => ∃ g : List Int, LotOk n g ∧
  as = [.d (webD n ps), .d (tupD g), .d (.int m), .d (.bool (par m)), .r (.ref f), .r (.ref d)] ∧ r = .d (.int (wv n ps val m (par m) g))
theorem ok_worth {fw : Addr} {fd : FuncData} {n : Nat} {ps : List (Int × Int)} {val : List Int → Int} {par : Nat → Bool} {f d : Addr} {objs : List (Addr × (Heap → Prop))} (Fn : Fun K "worth" "worth" sWorth fw fd) (hb : Binds K fd pWorth []) (hw : mg "worth" = some (.ref fw))
    (mr : mg "range" = none) (ma : mg "max" = none) (mi : mg "min" = none) (CC : Callee P w K mg base "came" 3 2 (W0 TG TL) FCame) (S : ScOk P w K mg base f objs val) (h1 : 1 ≤ n) (h7 : n ≤ 7) (hpar : ∀ m, par (m + 1) = !par m) :
    ∀ m : Nat, m ≤ 8 → FnOk P w K mg base CX0 (m + 3) fw fd pWorth (avSp K (Wm P w K TG TL (miW n ps val par d objs) none) 6 (FWorth n ps val par f d m)) := by
  intro m
  induction m with
  | zero =>
    intro _
    refine av_def (k := 2) Fn scWorth fun cdv A outer s H hr as r hl hF => ?_
    obtain ⟨g, hg, rfl, rfl⟩ := hF
    have hgl := hg.len
    exact ⟨.rt _, dss_rt (ds_if (b := true) (dt_is (dt_eqI (de_var 2 rfl) de_int) (by decide)) (fun _ => dss_rt (ds_ret (de_score 4 S hr rfl (de_var 1 rfl) hgl))) fun z => by cases z), rfl⟩
  | succ m ih =>
    intro hm8
    have CW : Callee P w K mg base "worth" 6 (m + 3) (Wm P w K TG TL (miW n ps val par d objs) none) (FWorth n ps val par f d m) := callee_of hw Fn hb rfl (ih (by omega))
    refine av_def (k := m + 3) Fn scWorth fun cdv A outer s H hr as r hl hF => ?_
    obtain ⟨g, hg, rfl, rfl⟩ := hF
    have hgl := hg.len
    have hr2 : Room 2 (A.deeper (envOfC "worth" (defScope sWorth) s.heap.objs.size fw cdv)) := hr.mono (by omega)
    have hU := keysU_mem (m := m + 1) hg hm8
    have hUl := keysU_len (n := n) h7
    have hub := room65 hr
    have epar : ((m + 1 : Nat) : Int).toNat = m + 1 := Int.toNat_natCast _
    have efv : (miW n ps val par d objs).fv g ((m + 1 : Nat) : Int) = .int (wv n ps val (m + 1) (par (m + 1)) g) := by
      show V.int (wv n ps val (((m + 1 : Nat) : Int)).toNat (par (((m + 1 : Nat) : Int)).toNat) g) = _
      rw [epar]
    refine ⟨.rt _, dss_cons (ds_no (dt_is (dt_eqI (de_var 2 rfl) de_int) (decide_eq_false (by omega)))) (dss_cons (ds_set 6 (a := .d (keyD g ((m + 1 : Nat) : Int))) (de_tup (ds := [tupD g, .int ((m + 1 : Nat) : Int)]) (da_cons (de_var 1 rfl) (da_cons (de_var 2 rfl) da_nil)) (bigL 2 (by decide))) scWorth.nd) ?_), rfl⟩
    refine dss_memo (X := (cxOf CX0 P w K mg base nWorth "worth" (defScope sWorth) fw cdv A outer s H E0).nox) (g := g) (m := ((m + 1 : Nat) : Int)) (x := .int (wv n ps val (m + 1) (par (m + 1)) g)) (i := miW n ps val par d objs) ?_ (fun K' H' => ?_) ?_ ?_ ?_ ?_ ?_ ?_ ?_
    · exact hub
    · rw [efv]
      exact .int _
    · exact de_var 5 rfl
    · exact de_var 6 rfl
    · exact de_var 5 rfl
    · exact de_var 6 rfl
    · let ρ0 : Rho := [some (.d (webD n ps)), some (.d (tupD g)), some (.d (.int ((m + 1 : Nat) : Int))), some (.d (.bool (par (m + 1)))), some (.r (.ref f)), some (.r (.ref d)), some (.d (keyD g ((m + 1 : Nat) : Int))), none, none]
      let fs : Int → Int := fun p => wv n ps val m (par m) (cameI ps g p)
      let ρ1 : Rho := ρ0.set 7 (some (.d (lstD ((ppl n).map fs))))
      have eint : ((ppl n).map fs).map PyData.int = ((ppl n).filter fun _ => true).map fun p => .int (fs p) := by rw [filter_tt, List.map_map]; rfl
      refine pss_imp (pss_cons (ds_setLc (W := Wm P w K TG TL (miW n ps val par d objs) none) (ρ := ρ0) 7 8 (ppl n) (fun k => .d (.int k)) (fun _ => true) (fun p => .int (fs p))
        (di_is (di_range1 (n := n) (de_ixT 0 (de_var 0 rfl) de_int rfl rfl) mr (by omega) (by omega)) (range_ppl n)) (by rw [ppl_len]; exact big n (by omega)) (fun _ _ => by simp [noL]) scWorth.nd (blkOk_by (N := nWorth) (sc := defScope sWorth) (by decide +kernel)) (sw_true rfl rfl rfl (by decide +kernel))
        (fun s H C cl fp k _ => dts_nil)
        (fun s H C cl fp k hk _ => ?_)) (pss_one (ps_memput (X := (cxOf CX0 P w K mg base nWorth "worth" (defScope sWorth) fw cdv A outer s H E0).nox) (TG := TG) (TL := TL) (i := miW n ps val par d objs) (g := g) (m := ((m + 1 : Nat) : Int)) (ρ := ρ1) (x := .int (wv n ps val (m + 1) (par (m + 1)) g)) ?_ ?_ ?_ ?_ ?_ hU ?_ ?_))) ?_
      · refine de_is (de_call CW (Sub.refl _) (hr.mono (by omega)) (da_cons (de_var 0 rfl) (da_cons (de_call CC sub_m (hr.mono (by omega)) (da_cons (de_var 0 rfl) (da_cons (de_var 1 rfl) (da_cons (de_var 8 rfl) da_nil))) ⟨n, ps, g, k, hgl, rfl, rfl⟩) (da_cons (de_sub (de_var 2 rfl) de_int) (da_cons (de_not (de_var 3 rfl)) (da_cons (de_var 4 rfl) (da_cons (de_var 5 rfl) da_nil))))))
          (r := .d (.int (fs k))) ⟨cameI ps g k, came_lot (by omega) hg hk, ?_, rfl⟩) rfl
        have e1 : ((m + 1 : Nat) : Int) - 1 = (m : Int) := by omega
        have e2 : (!par (m + 1)) = par m := by rw [hpar, Bool.not_not]
        rw [e1, e2]
      · exact hub
      · exact de_var 5 rfl
      · exact de_var 6 rfl
      · have hpos : 0 < ((ppl n).map fs).length := by rw [List.length_map, ppl_len]; omega
        refine de_is (de_if (x := par (m + 1)) (a := .d (.int (wv n ps val (m + 1) (par (m + 1)) g))) (dt_val (de_var 3 rfl)) (fun e => de_is (de_maxL (ns := (ppl n).map fs) (de_var 7 rfl) hpos ma) ?_) (fun e => de_is (de_minL (ns := (ppl n).map fs) (de_var 7 rfl) hpos mi) ?_)) rfl
        · have e3 : par m = !par (m + 1) := by rw [hpar, Bool.not_not]
          show _ = AV.d (.int (if par (m + 1) = true then _ else _))
          rw [if_pos e, ← e3]
        · have e3 : par m = !par (m + 1) := by rw [hpar, Bool.not_not]
          show _ = AV.d (.int (if par (m + 1) = true then _ else _))
          rw [if_neg (by rw [e]; decide), ← e3]
      · intro K' H' v hv
        rw [efv]
        exact dp_int hv
      · exact Nat.le_trans hUl (by decide)
      · rfl
      · rintro D σ H' ⟨j, sl, q⟩
        refine ⟨j, sl, fun σ2 H2 x2 j2 s2 => ?_⟩
        have s2' : SlOk K H2 σ2 ρ1 := by
          have e : ρ1 = ρ0.set 7 (some (.d (.list (((ppl n).filter fun _ => true).map fun p => .int (fs p))))) := by
            show ρ0.set 7 _ = _
            rw [← eint]
          rw [e]
          exact s2
        exact ⟨j2, s2', fun H3 x3 j3 s3 => q _ H3 (x2.trans x3) j3 (s3.le (RLe.trans (RLe.of_eq rfl) (RLe.drop ρ1 7)))⟩
    · rfl
    · exact fun _ _ => rfl
end
end FK
set_option Elab.async false
set_option linter.all false
set_option maxRecDepth 100000
set_option maxHeartbeats 2000000
/-! Lambdas of one parameter as scores. -/
namespace FK
open PySem PySem.Spec PyProof.Rows L2

/-- the object at a is o -/
def ExO (a : Addr) (o : Obj) : HO := .ext fun h => h.get? a = some o
def CodeP (c : Addr) (q : Str) (h : Heap) : Prop := ∃ (oc : Obj) (vs : Array Value) (t : Tok), h.get? c = some oc ∧ oc.data = .fields vs ∧ vs[1]? = some (.str q t)
theorem codeO_ext (c : Addr) (q : Str) : LamX.CodeO c q = .ext (CodeP c q) := rfl

/-! ### the call of a lambda -/
section
variable {P : Program} {w : World} {K : PySem.W.Frag} {mg : Str → Option Value} {base : Heap}
theorem raw_lam {A : Around} {s : Shared} {f c' : Addr} {q x : Str} {params : Arguments} {body : Expr} {scope : Scope} {clo : List (Str × Addr)} {pm ctv u : Value} {E Q : Value → Shared → Prop} {v : Int} {d : PyData} (M : Mod K mg base) (hb : ∀ b o, base.get? b = some o → s.heap.get? b = some o)
    (hf : s.heap.get? f = some (PySem.W.kla_obj "<lambda>" q params body scope clo pm c' ctv)) (hc : CodeP c' q s.heap) (hd : A.depth < recursionLimit) (hbind : bindArgs (PySem.W.kla_fn "<lambda>" q params body scope clo pm (.ref c') ctv) ⟨[u], []⟩ = pure [(x, u)])
    (kind : scope.kind = .function) (co : scope.isCoroutine = false) (gen : scope.isGenerator = false) (cel : ∀ y ∈ scope.names, y.2 ≠ .cell) (loc : scope.names.lookup x = some .local) (hu : RdD s.heap u d)
    (hbody : ∀ (env : Env) (F : Shared → Prop), Kn K mg base env F → env.scope = scope → env.cells = clo → (∀ s', F s' → ∀ b o, s.heap.get? b = some o → s'.heap.get? b = some o) → Nm env F x d → GV P w (A.deeper env) env F body (.int v))
    (hq : ∀ s' t, Keeps s s' → Q (.int v t) s') : wpAny (model P w) A (call (.ref f) [u]) Q E s := by
  obtain ⟨oc, vs, t, hoc, hdc, hvc⟩ := hc
  refine wpAny_call (PySem.W.kla_callFunE hd hf rfl co gen rfl ⟨c', oc, vs, t, rfl, hoc, hdc, hvc⟩ ?_)
  rw [hbind]
  have lim : s.heap.NoLimit := M.nolimit.keeps hb
  refine wpAny_pure (wpAny_newFunctionEnv cel (fun y hy => ?_) (fun h₁ hns hsb => ⟨lim.fresh _ hsb, ?_⟩) kind)
  · rw [List.mem_singleton] at hy
    subst hy
    exact loc
  · have kp : ∀ b o, s.heap.get? b = some o → h₁.get? b = some o := fun b o e => hsb.extBut b o (Nat.ne_of_lt (Heap.lt_size e)) (Heap.get?_push_of_some _ e)
    refine PySem.W.kla_codeExpr ?_
    have g := hbody (newEnv scope s.heap.objs.size mainGlobals clo (q ++ ".<locals>.") (some f) (.ref c') none builtinsNs) (fun s' => Keeps { s with heap := h₁, toks := s.toks + [(x, u)].length } s') ⟨fun _ _ a b => kp_trans a b, fun s' h b o e => kp_all h b o (kp b o (hb b o e)), M, kind, rfl, rfl⟩ rfl rfl (fun s' h b o e => kp_all h b o (kp b o e))
      (fun s' h => ⟨u, hu.keep fun b o e => kp_all h b o (kp b o e), .inl ⟨loc, _, hns.keeps (kp_all h), by simp [List.lookup]⟩⟩)
    refine gv_use g (kp_refl _) fun y s' r _ kk => ?_
    obtain ⟨t', rfl⟩ := rd_int r
    exact hq s' t' (kp_trans ⟨h₁, _, rfl, kp⟩ kk)
end
section
variable {prog : Program} {w : World} {A : Around} {env : Env} {F : Shared → Prop} {K : PySem.W.Frag} {mg : Str → Option Value} {base : Heap} {e e1 e2 ea eb : Expr} {p pos : Pos}
theorem gv_len (k : Kn K mg base env F) {ds : List PyData} (h : GV prog w A env F e (.tuple ds)) (hl : ds.length < 1000) (hm : mg "len" = none) (g : env.kindOf "len" = some .globalImplicit) (he : starEach [e] env = (false, eval e env) :: starEach [] env := by rfl) :
    GV prog w A env F (.Call (.Name "len" p) [e] [] pos) (.int ds.length) := by
  intro E Q s hs q
  refine wpAny_Call_Name_kw (gv_bltn k hs g hm PySem.boot_len ?_)
  refine PyProof.Rows.callWith_builtin1 ?_ he (by rfl)
  rw [he]
  show wpAny _ _ (spliced ((false, eval e env) :: backTo pos (starEach [] env))) _ _ s
  refine Calls.spliced_cons (h E _ s hs fun u s1 r1 f1 k1 => Calls.spliced_nil ?_)
  obtain ⟨a, vs, as, rfl, ht, ra⟩ := rd_tup r1
  have hlen := rds_len ra
  rw [Array.length_toList] at hlen
  refine PyProof.Rows.len_tuple (show IsTup s1.heap a vs from ht) (by omega) (q _ _ ?_ (k.keep _ _ f1 (kp_tok _ _)) (kp_trans k1 (kp_tok _ _)))
  rw [hlen]
  exact rdI
theorem gv_ifIn (k : Kn K mg base env F) {i x y : Int} {ns : List Int} (h1 : GV prog w A env F e1 (.int i)) (h2 : GV prog w A env F e2 (tupD ns)) (ha : GV prog w A env F ea (.int x)) (hb : GV prog w A env F eb (.int y)) (hu : A.units + 65 < cLine) (hm : behindInMarks .In e2 = false := by rfl) :
    GV prog w A env F (.IfExp (.Compare e1 [.In] [e2] p) ea eb pos) (.int (if i ∈ ns then x else y)) := by
  intro E Q s hs q
  refine wpAny_IfExp (wpAny_isTrue_Compare1 (gv_two h1 h2 hs fun u v s2 ⟨as, r1⟩ ⟨bs, r2⟩ f2 k2 => ?_) hm)
  refine SeqAt.in_tuple_reads r2 r1 (canLay_ints ns) (by simp [PyData.canLay0]) (by rw [depthAll_ints]; omega) ?_
  have e : ((ns.map PyData.int).any fun y => PyData.eqv y (.int i)) = decide (i ∈ ns) := by
    rw [List.any_map, Bool.eq_iff_iff, List.any_eq_true, decide_eq_true_eq]
    constructor
    · rintro ⟨y, hy, e⟩
      have e' : PyData.eqv (.int y) (.int i) = true := e
      simp only [PyData.eqv, beq_iff_eq] at e'
      rw [← e']
      exact hy
    · intro h
      refine ⟨i, h, ?_⟩
      show PyData.eqv (.int i) (.int i) = true
      simp [PyData.eqv]
  rw [e]
  refine wpAny_truthy_bool ?_
  by_cases hi : i ∈ ns
  · rw [decide_eq_true hi]
    rw [if_pos hi] at q
    exact ite_tt (ha E _ s2 f2 fun z s3 r3 f3 k3 => q _ _ r3 f3 (kp_trans k2 k3))
  · rw [decide_eq_false hi]
    rw [if_neg hi] at q
    exact ite_ff (hb E _ s2 f2 fun z s3 r3 f3 k3 => q _ _ r3 f3 (kp_trans k2 k3))
end

/-! ### the making of a lambda -/
section
variable {X : Cx} {TG : List Addr} {TL : List (Addr × Str)} {pins : List (Addr × Obj)} {σ : L2.St} {H : Hp} {s : Shared}
theorem exO_ok {P : Program} {w : World} {H' : Hp} {h : Heap} {a : Addr} {o : Obj} (e : h.get? a = some o) : ObjOk P w H' h a (ExO a o) := ⟨e, ⟨o, e⟩, fun h1 h2 q st => st _ q⟩
theorem tab_grow {P c : Addr} {q : Str} {ps : Array Value} {pos : Pos} (hJ : tabJ TG TL H) (hP : H P = some (.tbl ps)) (ht : TriplesOk ps.toList) (hc : H c = none) (hu : ∀ p ∈ TL, p.1 = P → p.2 = q) (hG : ∀ R ∈ TG, R ≠ P) :
    tabJ TG TL (upd (upd H P (.tbl (ps ++ #[rawInt pos.line, rawInt pos.col, .ref c]))) c (LamX.CodeO c q)) ∧ Ex (W0 TG TL) H (upd (upd H P (.tbl (ps ++ #[rawInt pos.line, rawInt pos.col, .ref c]))) c (LamX.CodeO c q)) := by
  have hE : Ex (W0 TG TL) H (upd (upd H P (.tbl (ps ++ #[rawInt pos.line, rawInt pos.col, .ref c]))) c (LamX.CodeO c q)) := fun b o e n => by
    rw [upd_ne (ne_of_none e hc), upd_ne (fun z => n ⟨ps, Option.some.inj (e.symm.trans (by rw [z]; exact hP))⟩)]
    exact e
  have eL : (ps ++ #[rawInt pos.line, rawInt pos.col, .ref c]).toList = ps.toList ++ [rawInt pos.line, rawInt pos.col, .ref c] := by simp
  have old : ∀ b o, b ≠ P → H b = some o → upd (upd H P (.tbl (ps ++ #[rawInt pos.line, rawInt pos.col, .ref c]))) c (LamX.CodeO c q) b = some o := fun b o hb e => by
    rw [upd_ne (ne_of_none e hc), upd_ne hb]
    exact e
  refine ⟨⟨fun R hR => ?_, fun p hp => ?_⟩, hE⟩
  · obtain ⟨qs, h1, h2⟩ := hJ.1 R hR
    exact ⟨qs, old _ _ (hG R hR) h1, h2⟩
  · by_cases hb : p.1 = P
    · obtain ⟨qs, h1, h2, h3⟩ := hJ.2 p hp
      rw [hb, hP] at h1
      cases h1
      rw [hu p hp hb, hb]
      refine ⟨_, by rw [upd_ne (ne_of_none hP hc), upd_same], by rw [eL]; exact PySem.TriplesOk_snoc _ _ _ _ ht, fun p' cv hcv => ?_⟩
      rw [eL] at hcv
      rcases LamX.among_app _ ht hcv with z | z
      · obtain ⟨c0, e1, e2⟩ := h3 p' cv z
        rw [hu p hp hb] at e2
        exact ⟨c0, e1, hE _ _ e2 fun ⟨qs, k⟩ => codeO_not (fun f z => by cases z) k.symm⟩
      · exact ⟨c, z, upd_same⟩
    · obtain ⟨qs, h1, h2, h3⟩ := hJ.2 p hp
      refine ⟨qs, old _ _ hb h1, h2, fun p' cv hcv => ?_⟩
      obtain ⟨c0, e1, e2⟩ := h3 p' cv hcv
      exact ⟨c0, e1, hE _ _ e2 fun ⟨qs, k⟩ => codeO_not (fun f z => by cases z) k.symm⟩
abbrev lamObj (X : Cx) (params : Arguments) (body : Expr) (scope : Scope) (pm : Value) (c' : Addr) (ctv : Value) : Obj := PySem.W.kla_obj "<lambda>" (X.env.qual ++ "<lambda>") params body scope (cloFrom X.env.cells scope.names []) pm c' ctv
theorem pe_lam {c Pt : Addr} {params : Arguments} {body : Expr} {scope : Scope} {pos : Pos} (TB : GxR.TabB X.base X.mg c Pt) (hcode : X.env.code = .ref c) (hm : (Pt, X.env.qual ++ "<lambda>") ∈ TL) (hu : ∀ p ∈ TL, p.1 = Pt → p.2 = X.env.qual ++ "<lambda>") (hG : ∀ R ∈ TG, R ≠ Pt)
    (hdef : defaultsOf params X.env = ([], []) := by rfl) (hfree : ∀ y ∈ scope.names, y.2 = .free → X.env.scope.names.lookup y.1 = some .cell) :
    PE X (.Lambda params body scope pos) (fun σ H Q => tabJ TG TL H ∧ ∀ f c' pm ctv H2, H f = none → Ex (W0 TG TL) H H2 → tabJ TG TL H2 → H2 f = some (ExO f (lamObj X params body scope pm c' ctv)) → H2 c' = some (LamX.CodeO c' (X.env.qual ++ "<lambda>")) → (∀ d xs, H2 d = some (MemO X.prog X.w d xs) → c' ≠ d) → Q (.ref f) H2) := by
  refine ⟨fun pins s σ H Q I ⟨hJ, h⟩ => ?_⟩
  have hfr : ∀ y ∈ scope.names, y.2 = .free → ∃ c, X.env.cells.lookup y.1 = some c := fun y hy e => I.ok.has _ (.inl (hfree y hy e))
  obtain ⟨ps, hP, ht, ha⟩ := hJ.2 _ hm
  have bP : s.heap.BuiltinsAt X.mg Pt := TB.bm.keeps I.bk
  have hP' : s.heap.get? Pt = some { cls := .none, data := .fields ps } := I.hok Pt _ hP
  refine PySem.W.kla_eval hdef ?_
  cases hc : codeAmong pos ps.toList with
  | none =>
    refine PySem.W.kla_makeFunction (mg := X.mg) (c := c) (P := Pt) (ps := ps) (closure_ok hfr) I.ok.glob (I.mod.glob.keeps I.bk) hcode (TB.code.keeps I.bk) hP' ht hc TB.gP bP fun c' ctv h' tk hx hge hlt hrec htb => ?_
    obtain ⟨c2, oc, vs, t, e2, hoc, hd, hv⟩ := hrec
    cases e2
    have hsz : s.heap.objs.size ≤ h'.objs.size := Nat.le_trans hge (Nat.le_of_lt hlt)
    have nC : H c' = none := I.hok.fresh hge
    have nF : H h'.objs.size = none := I.hok.fresh hsz
    obtain ⟨J1, E1⟩ := tab_grow (pos := pos) hJ hP ht nC hu hG
    have I1 := LamX.inv_table (t' := tk) (more := #[rawInt pos.line, rawInt pos.col, .ref c']) (h' := h') I hP (fun b o hb e => hx b o hb e) htb hge ⟨oc, vs, t, hoc, hd, hv⟩
    have nF1 := I1.hok.fresh (Nat.le_refl h'.objs.size)
    have I2 := I1.laid (a := h'.objs.size) (o := ExO h'.objs.size (lamObj X params body scope ((X.mg "__name__").getD .none) c' ctv)) (t' := tk) (h' := h'.push (lamObj X params body scope ((X.mg "__name__").getD .none) c' ctv)) (fun b o e => Heap.get?_push_of_some _ e) (Nat.le_refl _) (exO_ok (Heap.get?_push_size _ rfl))
    exact ⟨.ref h'.objs.size, _, I2, rfl, h h'.objs.size c' _ ctv _ nF (E1.trans (Ex.new nF1)) ((W0 TG TL).jal _ _ _ nF1 J1) upd_same (by rw [upd_ne (Nat.ne_of_lt hlt)]; exact upd_same) fun d xs hd => memO_ne (i := ⟨d, fun _ _ => .non, [], []⟩) I2 (by rw [upd_ne (Nat.ne_of_lt hlt)]; exact upd_same) hd⟩
  | some cv =>
    obtain ⟨c', e, hco⟩ := ha pos cv hc
    subst e
    refine PySem.W.kla_makeFunctionHit (mg := X.mg) (c := c) (P := Pt) (ps := ps) (closure_ok hfr) I.ok.glob (I.mod.glob.keeps I.bk) hcode (TB.code.keeps I.bk) hP' ht hc bP fun ctv h' tk hx hsz => ?_
    have nF : H h'.objs.size = none := I.hok.fresh hsz
    have I1 : Inv X pins σ H { s with heap := h', toks := tk } := I.kept hx
    have I2 := I1.laid (a := h'.objs.size) (o := ExO h'.objs.size (lamObj X params body scope ((X.mg "__name__").getD .none) c' ctv)) (t' := tk) (h' := h'.push (lamObj X params body scope ((X.mg "__name__").getD .none) c' ctv)) (fun b o e => Heap.get?_push_of_some _ e) (Nat.le_refl _) (exO_ok (Heap.get?_push_size _ rfl))
    exact ⟨.ref h'.objs.size, _, I2, rfl, h h'.objs.size c' _ ctv _ nF (Ex.new nF) ((W0 TG TL).jal _ _ _ nF hJ) upd_same (by rw [upd_ne (ne_of_none hco nF)]; exact hco) fun d xs hd => memO_ne (i := ⟨d, fun _ _ => .non, [], []⟩) I2 (by rw [upd_ne (ne_of_none hco nF)]; exact hco) hd⟩
/-- {} as a memo -/
theorem pe_dnewM {pos : Pos} : PE X (.Dict [] [] pos) (fun σ H Q => ∀ d, H d = none → (d == sysModules) = false → Q (.ref d) (upd H d (MemO X.prog X.w d []))) :=
  ⟨fun pins s σ H Q I h => wpAny_Dict_empty ⟨.ref s.heap.objs.size, _, I.laid (a := s.heap.objs.size) (o := MemO X.prog X.w s.heap.objs.size []) (t' := s.toks) (fun _ _ q => Heap.get?_push_of_some _ q) (Nat.le_refl _)
    ⟨⟨_, #[], 0, Heap.get?_push_size _ rfl, ⟨rfl, rfl, rfl⟩, rfl, rfl, List.nodup_nil⟩, ⟨_, Heap.get?_push_size _ rfl⟩, fun g1 g2 ⟨o, es, ep, q1, q2⟩ st => ⟨o, es, ep, st _ q1, q2⟩⟩, rfl,
    h _ (I.hok.fresh (Nat.le_refl _)) (beq_eq_false_iff_ne.mpr (Ne.symm (Nat.ne_of_lt I.big)))⟩⟩
end
end FK
set_option Elab.async false
set_option linter.all false
set_option maxRecDepth 100000
set_option maxHeartbeats 2000000
/-! most_there, can_hold, best_calls -/
namespace FK
open PySem PySem.Spec PyProof.Rows L2

/-! ### the two scores -/
section
variable {P : Program} {w : World} {K : PySem.W.Frag} {mg : Str → Option Value} {base : Heap}
/-- the lambda's scope: one parameter here, no cell -/
structure HereS (scope : Scope) : Prop where
  kind : scope.kind = .function
  co : scope.isCoroutine = false
  gen : scope.isGenerator = false
  cel : ∀ y ∈ scope.names, y.2 ≠ .cell
  loc : scope.names.lookup ("here" : Str) = some .local
abbrev lamThings (f c' : Addr) (q : Str) (o : Obj) : List (Addr × (Heap → Prop)) := [(f, fun h => h.get? f = some o), (c', CodeP c' q)]
theorem sc_len {f c' : Addr} {q : Str} {params : Arguments} {scope : Scope} {clo : List (Str × Addr)} {pm ctv : Value} {p p2 p3 : Pos} (ml : mg "len" = none) (hs : HereS scope) (hg : scope.names.lookup ("len" : Str) = some .globalImplicit)
    (hbind : ∀ u, bindArgs (PySem.W.kla_fn "<lambda>" q params (.Call (.Name "len" p) [.Name "here" p2] [] p3) scope clo pm (.ref c') ctv) ⟨[u], []⟩ = pure [(("here" : Str), u)]) :
    ScOk P w K mg base f (lamThings f c' q (PySem.W.kla_obj "<lambda>" q params (.Call (.Name "len" p) [.Name "here" p2] [] p3) scope clo pm c' ctv)) (fun g => (g.length : Int)) where
  fn := fun h hp => ⟨_, _, _, _, hp _ List.mem_cons_self⟩
  run := fun A s u g E Q M hb hh hd hu hp r hl q => by
    refine raw_lam (v := (g.length : Int)) (d := tupD g) M hb (hp _ List.mem_cons_self) (hp _ (List.mem_cons_of_mem _ List.mem_cons_self)) (by omega) (hbind u) hs.kind hs.co hs.gen hs.cel hs.loc r (fun env F k he hc kp hn => ?_) q
    have e : (g.length : Int) = ((g.map PyData.int).length : Int) := by rw [List.length_map]
    rw [e]
    exact gv_len k (gv_name k hn) (by rw [List.length_map]; omega) ml (by unfold Env.kindOf; rw [he]; exact hg)
theorem sc_in {f c' c : Addr} {q : Str} {params : Arguments} {scope : Scope} {clo : List (Str × Addr)} {pm ctv : Value} {p1 p2 p3 p4 p5 p6 : Pos} {j1 j2 : Nat} {x : Int} {t : Tok} {ob : Obj} (hs : HereS scope) (hg : scope.names.lookup ("person" : Str) = some .free) (hclo : clo.lookup ("person" : Str) = some c) (hob : ob.data = .cell (some (.int x t)))
    (hbind : ∀ u, bindArgs (PySem.W.kla_fn "<lambda>" q params (.IfExp (.Compare (.Name "person" p1) [.In] [.Name "here" p2] p3) (.Constant (.int 1) j1 p4) (.Constant (.int 0) j2 p5) p6) scope clo pm (.ref c') ctv) ⟨[u], []⟩ = pure [(("here" : Str), u)]) :
    ScOk P w K mg base f (lamThings f c' q (PySem.W.kla_obj "<lambda>" q params (.IfExp (.Compare (.Name "person" p1) [.In] [.Name "here" p2] p3) (.Constant (.int 1) j1 p4) (.Constant (.int 0) j2 p5) p6) scope clo pm c' ctv) ++ [(c, fun h => h.get? c = some ob)]) (fun g => if x ∈ g then 1 else 0) where
  fn := fun h hp => ⟨_, _, _, _, hp _ List.mem_cons_self⟩
  run := fun A s u g E Q M hb hh hd hu hp r hl q => by
    have hcell : s.heap.get? c = some ob := hp _ (List.mem_append_right _ List.mem_cons_self)
    refine raw_lam (v := if x ∈ g then 1 else 0) (d := tupD g) M hb (hp _ List.mem_cons_self) (hp _ (List.mem_cons_of_mem _ List.mem_cons_self)) (by omega) (hbind u) hs.kind hs.co hs.gen hs.cel hs.loc r (fun env F k he hc kp hn => ?_) q
    have np : Nm env F "person" (.int x) := fun s' hf => ⟨.int x t, rdI, .inr ⟨by unfold Env.kindOf; rw [he]; exact hg, c, by rw [hc]; exact hclo, ob, kp s' hf _ _ hcell, hob⟩⟩
    refine gv_ifIn k (gv_name k np) (gv_name k hn) (gv_int k) (gv_int k) ?_
    show A.units + 3 + 65 < cLine
    omega
end

/-! ### one cell told for the time of a call -/
def delA (H : Hp) (c : Addr) : Hp := fun b => if b = c then none else H b
theorem del_ne {H : Hp} {b c : Addr} (h : b ≠ c) : delA H c b = H b := by
  unfold delA
  rw [if_neg h]
theorem del_same {H : Hp} {c : Addr} : delA H c c = none := by
  unfold delA
  rw [if_pos rfl]
section
variable {X : Cx} {pins : List (Addr × Obj)} {σ : L2.St} {H : Hp} {s : Shared}
theorem ce_hide {outer : List Env} {P : Program} {w : World} {H : Hp} {s s' : Shared} {Q : VK} {u : Value} {c : Addr} {ob : Obj} (hn : H c = none) (hf : c ∉ frs outer) (ho : s.heap.get? c = some ob) (hcell : ∃ v, ob.data = .cell v)
    (h : CE outer P w (upd H c (ExO c ob)) s (fun v H2 => H2 c = some (ExO c ob) ∧ ((∀ cc q, H2 cc = some (LamX.CodeO cc q) → cc ≠ c) → Q v (delA H2 c))) u s') : CE outer P w H s Q u s' := by
  obtain ⟨v, H2, os, bare, un, hok, r, hc, q⟩ := h
  have hob : s'.heap.get? c = some ob := (hok c _ hc).1
  have up : ∀ b, b ≠ c → upd H c (ExO c ob) b = H b := fun b z => upd_ne z
  refine ⟨v, delA H2 c, os, bare, ⟨fun b o e n nf nx => ?_, fun b o e n nf nx => ?_, fun b o e n nx => ?_, fun b o e nx => un.there b o e nx, fun b xs e => ?_, fun b o u e => ?_, fun b ps e => ?_⟩, fun a o e => ?_, r, q fun cc qq e z => ?_⟩
  · by_cases hb : b = c
    · rw [hb] at e ⊢
      rw [ho] at e
      cases e
      exact hob
    · exact un.keep b o e (by rw [up b hb]; exact n) nf nx
  · have hb : b ≠ c := fun z => hf (z ▸ nf)
    exact un.slot b o e (by rw [up b hb]; exact n) nf nx
  · by_cases hb : b = c
    · rw [hb]
      exact del_same
    · rw [del_ne hb]
      exact un.free b o e (by rw [up b hb]; exact n) nx
  · have hb : b ≠ c := ne_of_none e hn
    rw [del_ne hb]
    exact un.tups b xs (by rw [up b hb]; exact e)
  · have hb : b ≠ c := ne_of_none e hn
    rw [del_ne hb]
    exact un.frzs b o u (by rw [up b hb]; exact e)
  · have hb : b ≠ c := ne_of_none e hn
    rw [del_ne hb]
    exact un.tbls b ps (by rw [up b hb]; exact e)
  · by_cases ha : a = c
    · rw [ha, del_same] at e
      cases e
    · rw [del_ne ha] at e
      refine (hok a o e).stay (fun _ _ _ k => k) (fun b k => ?_) fun b xs k => ?_
      · rw [del_ne (ne_of k hc (by intro z; cases z))]
        exact k
      · rw [del_ne (ne_of k hc (by intro z; cases z))]
        exact k
  · obtain ⟨⟨oc, vs, t, e1, e2, e3⟩, _, _⟩ := hok cc _ e
    rw [z, hob] at e1
    cases e1
    obtain ⟨v, hv⟩ := hcell
    rw [hv] at e2
    cases e2
theorem run_hide {k : Nat} {f c : Addr} {fd : FuncData} {ps : List Str} {sp : Sp} {y : Str} {ob : Obj} {us : List Value} {vs : List V} {Q : VK} (F : FnOk X.prog X.w X.K X.mg X.base CX0 k f fd ps sp) (hr : Room k X.A) (hb : Binds X.K fd ps []) (I : Inv X pins σ H s) (r : Vals vs us)
    (hy : X.env.cells.lookup y = some c) (hfn : X.fn y = true) (ho : s.heap.get? c = some ob) (hcell : ∃ v, ob.data = .cell v)
    (h : sp vs (upd H c (ExO c ob)) (fun v H2 => H2 c = some (ExO c ob) ∧ ((∀ cc q, H2 cc = some (LamX.CodeO cc q) → cc ≠ c) → Q v (delA H2 c))) E0) : wpAny (model X.prog X.w) X.A (call (.ref f) us) (EP X pins σ Q) X.xe s := by
  have hn : H c = none := I.freeC y c hy
  have hge : X.s_0.heap.objs.size ≤ c := I.ok.cab y c hfn hy
  have hfs : c ∉ frs X.stack := fun z => by
    rcases List.mem_cons.mp (I.stkSub c z) with e | e
    · exact I.cne y c hy e
    · obtain ⟨_, o, e2, _⟩ := I.ok.funs.mem e
      exact absurd (Heap.lt_size e2) (Nat.not_lt.mpr hge)
  have e0 := I.env0
  have up : ∀ b, b ≠ c → upd H c (ExO c ob) b = H b := fun b z => upd_ne z
  have e1 : Env0 X.prog X.w X.K X.mg X.base X.A X.stack s (upd H c (ExO c ob)) := ⟨e0.frames, e0.mod, fun b o e => ⟨(e0.bs b o e).1, by
      rw [up b]
      · exact (e0.bs b o e).2
      · intro z
        rw [z] at e
        exact absurd (Heap.lt_size (I.ok.bs _ _ e).1) (Nat.not_lt.mpr hge)⟩, e0.bsz, e0.funs, fun b hb => by
      rw [up b fun z => hfs (z ▸ hb)]
      exact e0.frf b hb, fun a o e => by
      by_cases ha : a = c
      · rw [ha, upd_same] at e
        cases e
        rw [ha]
        exact exO_ok ho
      · rw [up a ha] at e
        refine (e0.hok a o e).stay (fun _ _ _ k => k) (fun b k => ?_) fun b xs k => ?_
        · rw [up b (ne_of_none k hn)]
          exact k
        · rw [up b (ne_of_none k hn)]
          exact k, e0.bare⟩
  have hl : us.length = ps.length := by rw [← r.length]; exact F.len _ _ _ _ h
  refine wpAny_call (codeAny_mono (F.run X.A X.stack s (upd H c (ExO c ob)) ⟨us, []⟩ us vs _ E0 hr e1 (by have := hb s us I.kIn (by rw [List.append_nil]; exact hl); rwa [List.append_nil] at this) r h) fun r s' hq => ?_)
  cases r with
  | error e => exact (show False from hq).elim
  | ok fl =>
    cases fl with
    | ret u => exact I.after (ce_hide hn hfs ho hcell hq)
    | next => exact False.elim hq
    | brk => exact False.elim hq
    | cont => exact False.elim hq
end

/-! ### worth for any dict, any score -/
def parOf (b : Bool) (m k : Nat) : Bool := if (m + k) % 2 = 0 then b else !b
theorem parOf_self (b : Bool) (m : Nat) : parOf b m m = b := by
  unfold parOf
  rw [if_pos (by omega)]
theorem parOf_next (b : Bool) (m k : Nat) : parOf b m (k + 1) = !parOf b m k := by
  unfold parOf
  by_cases h : (m + k) % 2 = 0
  · rw [if_pos h, if_neg (by omega)]
  · rw [if_neg h, if_pos (by omega), Bool.not_not]
abbrev Thg := List (Addr × (Heap → Prop))
def spW (P : Program) (w : World) (K : PySem.W.Frag) (mg : Str → Option Value) (base : Heap) (TG : List Addr) (TL : List (Addr × Str)) (n : Nat) (ps : List (Int × Int)) (val : List Int → Int) (par : Nat → Bool) (m : Nat) : Sp := fun vs H Q E =>
  ∃ t : Addr × Addr × Thg, ScOk P w K mg base t.1 t.2.2 val ∧ avSp K (Wm P w K TG TL (miW n ps val par t.2.1 t.2.2) none) 6 (FWorth n ps val par t.1 t.2.1 m) vs H Q E
theorem fnOk_all {ι : Type} {P : Program} {w : World} {K : PySem.W.Frag} {mg : Str → Option Value} {base : Heap} {CX : CXT} {k : Nat} {f : Addr} {fd : FuncData} {ps : List Str} {C : ι → Prop} {sp : ι → Sp} (h : ∀ i, C i → FnOk P w K mg base CX k f fd ps (sp i)) : FnOk P w K mg base CX k f fd ps (fun vs H Q E => ∃ i, C i ∧ sp i vs H Q E) :=
  ⟨fun vs H Q E ⟨i, c, q⟩ => (h i c).len vs H Q E q, fun A outer s H args us vs Q E hr e0 hb r ⟨i, c, q⟩ => (h i c).run A outer s H args us vs Q E hr e0 hb r q⟩
/-- worth, as the other defs may call it -/
structure WorthC (P : Program) (w : World) (K : PySem.W.Frag) (mg : Str → Option Value) (base : Heap) (TG : List Addr) (TL : List (Addr × Str)) (f : Addr) (fd : FuncData) : Prop where
  glob : mg "worth" = some (.ref f)
  kp : PySem.W.keepIn K (.ref f) = true
  bi : Binds K fd pWorth []
  ok : ∀ (n : Nat) (ps : List (Int × Int)) (val : List Int → Int) (par : Nat → Bool), 1 ≤ n → n ≤ 7 → (∀ m, par (m + 1) = !par m) → ∀ m, m ≤ 8 → FnOk P w K mg base CX0 11 f fd pWorth (spW P w K mg base TG TL n ps val par m)
theorem worthC {P : Program} {w : World} {K : PySem.W.Frag} {mg : Str → Option Value} {base : Heap} {TG : List Addr} {TL : List (Addr × Str)} {fw : Addr} {fd : FuncData} (Fn : Fun K "worth" "worth" sWorth fw fd) (hb : Binds K fd pWorth []) (hw : mg "worth" = some (.ref fw))
    (mr : mg "range" = none) (ma : mg "max" = none) (mi : mg "min" = none) (CC : Callee P w K mg base "came" 3 2 (W0 TG TL) FCame) : WorthC P w K mg base TG TL fw fd :=
  ⟨hw, Fn.kp, hb, fun n ps val par h1 h7 hpar m hm => fnOk_all fun t S => (ok_worth Fn hb hw mr ma mi CC S h1 h7 hpar m hm).mono (show m + 3 ≤ 11 by omega)⟩
section
variable {X : Cx} {TG : List Addr} {TL : List (Addr × Str)} {ρ : Rho} {e1 e2 e3 e4 lamE : Expr} {p p5 pos : Pos} {f : Addr} {fd : FuncData} {n : Nat} {ps : List (Int × Int)} {val : List Int → Int} {par : Nat → Bool} {m : Nat} {g : List Int} {q : Str} {k : Nat}
theorem ex_back {H0 H5 H' : Hp} {i : Mi} {hk : Option NestedKey} {o : HO} (x : Ex (W0 TG TL) H0 H5) (hd : H5 i.d = none) (x' : Ex (wX X TG TL i hk) (upd H5 i.d o) H') : Ex (W0 TG TL) H0 H' := fun a u e nn => by
  have e5 := x a u e nn
  refine x' a u (by rw [upd_ne (ne_of_none e5 hd)]; exact e5) fun z => ?_
  rcases z with z | ⟨z, _⟩
  · exact nn z
  · rw [z, hd] at e5
    cases e5
/-- what the lambda's reading is -/
abbrev tLamO (X : Cx) (TG : List Addr) (TL : List (Addr × Str)) (q : Str) (Ob : Value → Addr → Value → Obj) : TE := fun σ H Q => tabJ TG TL H ∧ ∀ f c' pm ctv H2, H f = none → Ex (W0 TG TL) H H2 → tabJ TG TL H2 → H2 f = some (ExO f (Ob pm c' ctv)) → H2 c' = some (LamX.CodeO c' q) → (∀ d xs, H2 d = some (MemO X.prog X.w d xs) → c' ≠ d) → Q (.ref f) H2
/-- worth(.., lambda, {}) -/
theorem de_wnew {Ob : Value → Addr → Value → Obj} (WC : WorthC X.prog X.w X.K X.mg X.base TG TL f fd) (hr : Room 11 X.A) (hn1 : 1 ≤ n) (hn7 : n ≤ 7) (hpar : ∀ m, par (m + 1) = !par m) (hm8 : m ≤ 8) (hg8 : LotOk n g)
    (h1 : DE X (W0 TG TL) ρ e1 (.d (webD n ps))) (h2 : DE X (W0 TG TL) ρ e2 (.d (tupD g))) (h3 : DE X (W0 TG TL) ρ e3 (.d (.int m))) (h4 : DE X (W0 TG TL) ρ e4 (.d (.bool (par m)))) (hl : PE X lamE (tLamO X TG TL q Ob))
    (S : ∀ fl c' pm ctv, ScOk X.prog X.w X.K X.mg X.base fl (lamThings fl c' q (Ob pm c' ctv)) val) (hg : Gl X "worth" := by rfl)
    (s1 : starEach [e1, e2, e3, e4, lamE, .Dict [] [] p5] X.env = (false, eval e1 X.env) :: starEach [e2, e3, e4, lamE, .Dict [] [] p5] X.env := by rfl) (s2 : starEach [e2, e3, e4, lamE, .Dict [] [] p5] X.env = (false, eval e2 X.env) :: starEach [e3, e4, lamE, .Dict [] [] p5] X.env := by rfl)
    (s3 : starEach [e3, e4, lamE, .Dict [] [] p5] X.env = (false, eval e3 X.env) :: starEach [e4, lamE, .Dict [] [] p5] X.env := by rfl) (s4 : starEach [e4, lamE, .Dict [] [] p5] X.env = (false, eval e4 X.env) :: starEach [lamE, .Dict [] [] p5] X.env := by rfl)
    (s5 : starEach [lamE, .Dict [] [] p5] X.env = (false, eval lamE X.env) :: starEach [.Dict [] [] p5] X.env := by rfl) (hpl : (backTo pos (starEach [e2, e3, e4, lamE, .Dict [] [] p5] X.env)).any (·.1) = false := by rfl) :
    DE X (W0 TG TL) ρ (.Call (.Name "worth" p) [e1, e2, e3, e4, lamE, .Dict [] [] p5] [] pos) (.d (.int (wv n ps val m (par m) g))) := by
  refine pe_imp (pe_call (WC.ok n ps val par hn1 hn7 hpar m hm8) hr hg WC.glob WC.kp WC.bi .nil pass0 (pa_cons h1 (pa_cons h2 (pa_cons h3 (pa_cons h4 (pa_cons hl (pa_cons pe_dnewM pa_nil (by rfl)) s5) s4) s3) s2) s1) (by decide) s1 hpl) fun σ H Q ⟨j, s, qq⟩ => ?_
  refine ⟨j, s, fun v1 H1 x1 j1 r1 => ⟨j1, s.mono x1, fun v2 H2 x2 j2 r2 => ⟨j2, (s.mono x1).mono x2, fun v3 H3 x3 j3 r3 => ⟨j3, ((s.mono x1).mono x2).mono x3, fun v4 H4 x4 j4 r4 => ⟨j4, fun fl c' pm ctv H5 nf x5 j5 hf hc _ d hd hsm => ?_⟩⟩⟩⟩⟩
  show spW X.prog X.w X.K X.mg X.base TG TL n ps val par m [v1, v2, v3, v4, .ref fl, .ref d] (upd H5 d (MemO X.prog X.w d [])) Q E0
  have x6 : Ex (W0 TG TL) H5 (upd H5 d (MemO X.prog X.w d [])) := Ex.new hd
  refine ⟨(fl, d, lamThings fl c' q (Ob pm c' ctv)), S fl c' pm ctv, rfl, ⟨(W0 TG TL).jal _ _ _ hd j5, ?_, hsm, [], ⟨upd_same, fun y hy => absurd hy (by simp)⟩, fun k e => by cases e⟩, _, _, ?_, ⟨g, hg8, rfl, rfl⟩, fun v H' x' j' r' => ?_⟩
  · intro pp hp
    rcases List.mem_cons.mp hp with z | hp
    · subst z
      exact ⟨ne_of_none hf hd, by rw [upd_ne (ne_of_none hf hd)]; exact hf⟩
    · rw [List.mem_singleton] at hp
      subst hp
      exact ⟨ne_of_none hc hd, by rw [upd_ne (ne_of_none hc hd)]; exact hc⟩
  · exact .cons (((((AvOk.mono x2 r1).mono x3).mono x4).mono x5).mono x6) (.cons ((((AvOk.mono x3 r2).mono x4).mono x5).mono x6) (.cons (((AvOk.mono x4 r3).mono x5).mono x6) (.cons ((AvOk.mono x5 r4).mono x6) (.cons rfl (.cons rfl .nil)))))
  · exact qq v H' (ex_back (X := X) (i := miW n ps val par d (lamThings fl c' q (Ob pm c' ctv))) ((((x1.trans x2).trans x3).trans x4).trans x5) hd x') j'.1 r'

theorem tabJ_del {H : Hp} {c : Addr} {φ : Heap → Prop} (j : tabJ TG TL H) (hc : H c = some (.ext φ)) (hco : ∀ cc q, H cc = some (LamX.CodeO cc q) → cc ≠ c) : tabJ TG TL (delA H c) :=
  tabJ_of j fun b o e k => by
    rw [del_ne]
    · exact e
    · rcases k with ⟨ps, k⟩ | ⟨q, k⟩
      · subst k
        exact ne_of e hc (by intro z; cases z)
      · subst k
        exact hco b q e
/-- worth(.., lambda, {}) where the lambda has taken a cell -/
theorem de_wnewH {Ob : Value → Addr → Value → Obj} {y : Str} {c : Addr} {x : Int} (i : Nat) (WC : WorthC X.prog X.w X.K X.mg X.base TG TL f fd) (hr : Room 11 X.A) (hn1 : 1 ≤ n) (hn7 : n ≤ 7) (hpar : ∀ m, par (m + 1) = !par m) (hm8 : m ≤ 8) (hg8 : LotOk n g)
    (hy : X.env.cells.lookup y = some c) (hfn : X.fn y = true) (hyc : X.env.scope.names.lookup y = some .cell) (hyi : X.N[i]? = some y) (hyr : ρ[i]? = some (some (.d (.int x))))
    (h1 : DE X (W0 TG TL) ρ e1 (.d (webD n ps))) (h2 : DE X (W0 TG TL) ρ e2 (.d (tupD g))) (h3 : DE X (W0 TG TL) ρ e3 (.d (.int m))) (h4 : DE X (W0 TG TL) ρ e4 (.d (.bool (par m)))) (hl : PE X lamE (tLamO X TG TL q Ob))
    (S : ∀ fl c' pm ctv ob t, ob.data = .cell (some (.int x t)) → ScOk X.prog X.w X.K X.mg X.base fl (lamThings fl c' q (Ob pm c' ctv) ++ [(c, fun h => h.get? c = some ob)]) val) (hg : Gl X "worth" := by rfl)
    (s1 : starEach [e1, e2, e3, e4, lamE, .Dict [] [] p5] X.env = (false, eval e1 X.env) :: starEach [e2, e3, e4, lamE, .Dict [] [] p5] X.env := by rfl) (s2 : starEach [e2, e3, e4, lamE, .Dict [] [] p5] X.env = (false, eval e2 X.env) :: starEach [e3, e4, lamE, .Dict [] [] p5] X.env := by rfl)
    (s3 : starEach [e3, e4, lamE, .Dict [] [] p5] X.env = (false, eval e3 X.env) :: starEach [e4, lamE, .Dict [] [] p5] X.env := by rfl) (s4 : starEach [e4, lamE, .Dict [] [] p5] X.env = (false, eval e4 X.env) :: starEach [lamE, .Dict [] [] p5] X.env := by rfl)
    (s5 : starEach [lamE, .Dict [] [] p5] X.env = (false, eval lamE X.env) :: starEach [.Dict [] [] p5] X.env := by rfl) (hpl : (backTo pos (starEach [e2, e3, e4, lamE, .Dict [] [] p5] X.env)).any (·.1) = false := by rfl) :
    DE X (W0 TG TL) ρ (.Call (.Name "worth" p) [e1, e2, e3, e4, lamE, .Dict [] [] p5] [] pos) (.d (.int (wv n ps val m (par m) g))) := by
  refine ⟨fun pins s σ H Q I ⟨j, sl, qq⟩ => ?_⟩
  refine wpAny_Call_Name_kw (ld_glob I hg WC.glob ?_ (by decide))
  let Post : List V → Hp → Prop := fun vs H6 => ∃ v1 v2 v3 v4 fl c' pm ctv d H5, vs = [v1, v2, v3, v4, .ref fl, .ref d] ∧ H6 = upd H5 d (MemO X.prog X.w d []) ∧ H5 d = none ∧ (d == sysModules) = false ∧ Ex (W0 TG TL) H H5 ∧ tabJ TG TL H5 ∧
    AvAll X.K H5 [v1, v2, v3, v4] [.d (webD n ps), .d (tupD g), .d (.int m), .d (.bool (par m))] ∧ H5 fl = some (ExO fl (Ob pm c' ctv)) ∧ H5 c' = some (LamX.CodeO c' q)
  refine PySem.W.callWith_K (h₀ := X.base) I.ok.mod.kin WC.kp (thn ((pa_cons h1 (pa_cons h2 (pa_cons h3 (pa_cons h4 (pa_cons hl (pa_cons pe_dnewM pa_nil (by rfl)) s5) s4) s3) s2) s1).run pos pins s σ H Post I
    ⟨j, sl, fun v1 H1 x1 j1 r1 => ⟨j1, sl.mono x1, fun v2 H2 x2 j2 r2 => ⟨j2, (sl.mono x1).mono x2, fun v3 H3 x3 j3 r3 => ⟨j3, ((sl.mono x1).mono x2).mono x3, fun v4 H4 x4 j4 r4 => ⟨j4, fun fl c' pm ctv H5 nf x5 j5 hf hc _ d hd hsm =>
      ⟨v1, v2, v3, v4, fl, c', pm, ctv, d, H5, rfl, rfl, hd, hsm, (((x1.trans x2).trans x3).trans x4).trans x5, j5,
        .cons ((((AvOk.mono x2 r1).mono x3).mono x4).mono x5) (.cons (((AvOk.mono x3 r2).mono x4).mono x5) (.cons ((AvOk.mono x4 r3).mono x5) (.cons (AvOk.mono x5 r4) .nil))), hf, hc⟩⟩⟩⟩⟩⟩) fun us s6 ⟨vs, H6, I6, r, post⟩ => ⟨I6.kIn, ?_⟩) s1 hpl
  obtain ⟨v1, v2, v3, v4, fl, c', pm, ctv, d, H5, rfl, eH6, hd, hsm, x5, j5, ha, hf, hc⟩ := post
  obtain ⟨vx, ex, rx⟩ := sl.get i _ hyr
  have rx' : vx = .int x := dp_int rx
  obtain ⟨mm, hns, hlook⟩ := I6.loc
  obtain ⟨u, ru, lk⟩ := hlook i y vx hyi ex (.inr (.inl hyc))
  subst rx'
  obtain ⟨t, rfl⟩ := ru
  have hcell : s6.heap.IsCell c (some (.int x t)) := by
    rcases lk with ⟨k1, _⟩ | ⟨_, c2, k1, k2⟩
    · have k1' : X.env.scope.names.lookup y = some .local := k1
      rw [hyc] at k1'
      cases k1'
    · rw [hy] at k1
      cases k1
      exact k2
  obtain ⟨ob, hob, hobd⟩ := hcell
  have hn6 : H6 c = none := I6.freeC y c hy
  have x6 : Ex (W0 TG TL) H5 (upd H5 d (MemO X.prog X.w d [])) := Ex.new hd
  have nd : ∀ {a : Addr} {o : HO}, H5 a = some o → a ≠ d := fun e => ne_of_none e hd
  have at6 : ∀ {a : Addr} {o : HO}, H5 a = some o → H6 a = some o := fun {a o} e => by
    rw [eH6, upd_ne (nd e)]
    exact e
  have at7 : ∀ {a : Addr} {o : HO}, H6 a = some o → upd H6 c (ExO c ob) a = some o := fun {a o} e => by
    rw [upd_ne (ne_of_none e hn6)]
    exact e
  have x7 : Ex (W0 TG TL) H6 (upd H6 c (ExO c ob)) := Ex.new hn6
  have h6d : H6 d = some (MemO X.prog X.w d []) := by rw [eH6]; exact upd_same
  have cd : c ≠ d := fun z => by
    rw [z, h6d] at hn6
    cases hn6
  have j6 : tabJ TG TL H6 := by
    rw [eH6]
    exact (W0 TG TL).jal _ _ _ hd j5
  have j7 : tabJ TG TL (upd H6 c (ExO c ob)) := (W0 TG TL).jal _ _ _ hn6 j6
  refine run_hide (WC.ok n ps val par hn1 hn7 hpar m hm8) hr WC.bi I6 r hy hfn hob ⟨_, hobd⟩ ?_
  refine ⟨(fl, d, lamThings fl c' q (Ob pm c' ctv) ++ [(c, fun h => h.get? c = some ob)]), S fl c' pm ctv ob t hobd, rfl, ⟨j7, ?_, hsm, [], ⟨at7 h6d, fun y hy => absurd hy (by simp)⟩, fun k e => by cases e⟩, _, _, ?_, ⟨g, hg8, rfl, rfl⟩, fun v H' x' j' r' => ?_⟩
  · intro pp hp
    rcases List.mem_append.mp hp with hp | hp
    · rcases List.mem_cons.mp hp with z | hp
      · subst z
        exact ⟨nd hf, at7 (at6 hf)⟩
      · rw [List.mem_singleton] at hp
        subst hp
        exact ⟨nd hc, at7 (at6 hc)⟩
    · rw [List.mem_singleton] at hp
      subst hp
      exact ⟨cd, upd_same⟩
  · have ha7 : AvAll X.K (upd H6 c (ExO c ob)) [v1, v2, v3, v4] _ := avAll_mono x7 (by rw [eH6]; exact avAll_mono x6 ha)
    cases ha7 with
    | cons r1 t1 =>
      cases t1 with
      | cons r2 t2 =>
        cases t2 with
        | cons r3 t3 =>
          cases t3 with
          | cons r4 t4 => exact .cons r1 (.cons r2 (.cons r3 (.cons r4 (.cons rfl (.cons rfl .nil)))))
  · have hc' : H' c = some (ExO c ob) := (j'.2.1 (c, fun h => h.get? c = some ob) (List.mem_append_right _ List.mem_cons_self)).2
    refine ⟨hc', fun hco => ?_⟩
    have e5 : v = .int (wv n ps val m (par m) g) := dp_int r'
    subst e5
    refine qq _ (delA H' c) (fun a u e nn => ?_) (tabJ_del j'.1 hc' hco) (.int _)
    have e1 := at6 (x5 a u e nn)
    rw [del_ne (ne_of_none e1 hn6)]
    refine x' a u (at7 e1) fun z => ?_
    rcases z with z | ⟨z, _⟩
    · exact nn z
    · exact nd (x5 a u e nn) z
end
end FK
set_option Elab.async false
set_option linter.all false
set_option maxRecDepth 100000
set_option maxHeartbeats 2000000
/-! most_there, can_hold -/
namespace FK
open PySem PySem.Spec PyProof.Rows L2
def freeB (sc scope : Scope) : Bool := scope.names.all fun y => !decide (y.2 = .free) || decide (sc.names.lookup y.1 = some .cell)
theorem free_by {sc scope : Scope} (h : freeB sc scope = true) : ∀ y ∈ scope.names, y.2 = .free → sc.names.lookup y.1 = some .cell := fun y hy e => by
  unfold freeB at h
  simp only [List.all_eq_true, Bool.or_eq_true, Bool.not_eq_true', decide_eq_true_eq, decide_eq_false_iff_not] at h
  exact (h y hy).resolve_left fun z => z e
def lamQ (x : Str) : Str := x ++ ".<locals>." ++ "<lambda>"
/-- a maker of lambdas: its table -/
structure LamT (base : Heap) (mg : Str → Option Value) (TG : List Addr) (TL : List (Addr × Str)) (x : Str) (c Pt : Addr) : Prop where
  tb : GxR.TabB base mg c Pt
  mem : (Pt, lamQ x) ∈ TL
  one : ∀ p ∈ TL, p.1 = Pt → p.2 = lamQ x
  ng : ∀ R ∈ TG, R ≠ Pt
section
variable {P : Program} {w : World} {K : PySem.W.Frag} {mg : Str → Option Value} {base : Heap} {TG : List Addr} {TL : List (Addr × Str)}
theorem lenI (g : List Int) : (fun g : List Int => (g.length : Int)) g = g.length := rfl
abbrev lenS (g : List Int) : Int := (g.length : Int)
abbrev inS (x : Int) (g : List Int) : Int := if x ∈ g then 1 else 0

abbrev sMost : Stmt := topS 20
theorem scMost : FnScope ["web", "start", "many"] ["web", "start", "many"] (defScope sMost) := ⟨rfl, rfl, rfl, by decide +kernel, rfl, by decide +kernel, by decide +kernel⟩
def FMost : Rel := fun as r => ∃ (n : Nat) (ps : List (Int × Int)) (g : List Int) (m : Nat), WebOk n ps ∧ GathOk n ps g ∧ m ≤ 8 ∧ as = [.d (webD n ps), .d (tupD g), .d (.int m)] ∧ r = .d (.int (wv n ps lenS m true g))
theorem ok_most {f c Pt fw : Addr} {fd fdw : FuncData} (F : FunC K "most_there" sMost f fd c) (L : LamT base mg TG TL "most_there" c Pt) (ml : mg "len" = none) (CN : Callee P w K mg base "need_calls" 4 5 (W0 TG TL) FNeedCalls) (WC : WorthC P w K mg base TG TL fw fdw) :
    FnOk P w K mg base CX0 12 f fd ["web", "start", "many"] (avSp K (W0 TG TL) 3 FMost) := by
  refine av_defC (k := 11) F scMost fun A outer s H hr as r hl hF => ?_
  obtain ⟨n, ps, g, m, okw, ok, hm8, rfl, rfl⟩ := hF
  refine ⟨.rt (.d (.int (wv n ps lenS m true g))), dss_cons (ds_expr (de_call CN (Sub.refl _) (hr.mono (by decide)) (da_cons (de_var 0 rfl) (da_cons (de_var 1 rfl) (da_cons de_int (da_cons (de_var 2 rfl) da_nil)))) ⟨n, ps, g, 0, m, okw, ok, by omega, by omega, rfl, rfl⟩)) (dss_rt (ds_ret (de_is (de_wnew (X := (cxOf CX0 P w K mg base ["web", "start", "many"] "most_there" (defScope sMost) f (.ref c) A outer s H E0).nox) (val := lenS) (par := parOf true m) WC hr okw.lo okw.hi (parOf_next true m) hm8 ok.lot
    (de_var 0 rfl) (de_var 1 rfl) (de_var 2 rfl) (de_is de_bl (by rw [parOf_self])) (pe_lam L.tb rfl L.mem L.one L.ng rfl (free_by (sc := defScope sMost) (by decide +kernel))) (fun fl c' pm ctv => sc_len ml ⟨rfl, rfl, rfl, by decide +kernel, rfl⟩ rfl fun u => rfl)) (by rw [parOf_self])))), rfl⟩

/-! ### can_hold -/
abbrev sHold : Stmt := topS 22
theorem scHold : FnScope ["web", "start", "person", "many"] ["web", "start", "person", "many"] (defScope sHold) := ⟨rfl, rfl, rfl, by decide +kernel, rfl, by decide +kernel, by decide +kernel⟩
def FHold : Rel := fun as r => ∃ (n : Nat) (ps : List (Int × Int)) (g : List Int) (x : Int) (m : Nat), WebOk n ps ∧ GathOk n ps g ∧ x ∈ ppl n ∧ m ≤ 8 ∧ as = [.d (webD n ps), .d (tupD g), .d (.int x), .d (.int m)] ∧ r = .d (.bool (decide (wv n ps (inS x) m true g = 1)))
theorem ok_hold {f c Pt fw : Addr} {fd fdw : FuncData} (F : FunC K "can_hold" sHold f fd c) (L : LamT base mg TG TL "can_hold" c Pt) (CG : Callee P w K mg base "need_gathering" 2 4 (W0 TG TL) FNeedGath) (CI : Callee P w K mg base "is_in" 3 1 (W0 TG TL) FIsIn) (CN : Callee P w K mg base "need_calls" 4 5 (W0 TG TL) FNeedCalls) (WC : WorthC P w K mg base TG TL fw fdw) :
    FnOk P w K mg base CX0 12 f fd ["web", "start", "person", "many"] (avSp K (W0 TG TL) 4 FHold) := by
  refine av_defC (k := 11) F scHold fun A outer s H hr as r hl hF => ?_
  obtain ⟨n, ps, g, x, m, okw, ok, hx, hm8, rfl, rfl⟩ := hF
  have hxr := mem_ppl.mp hx
  obtain ⟨cc, hcc⟩ : ∃ cc, (cellsFrom (s.heap.objs.size + 1) (defScope sHold).names []).lookup ("person" : Str) = some cc := Option.isSome_iff_exists.mp (PySem.W.cellsFrom_some _ _ _ (.inl rfl))
  refine ⟨.rt (.d (.bool (decide (wv n ps (inS x) m true g = 1)))), ?_, rfl⟩
  refine dss_cons (ds_expr (de_call CG (Sub.refl _) (hr.mono (by decide)) (da_cons (de_var 0 rfl) (da_cons (de_var 1 rfl) da_nil)) ⟨n, ps, g, okw, ok, rfl, rfl⟩)) ?_
  refine dss_cons (ds_no (dt_is (dt_not (dt_val (de_call CI (Sub.refl _) (hr.mono (by decide)) (da_cons (de_var 2 rfl) (da_cons de_int (da_cons (de_sub (de_ixT 0 (de_var 0 rfl) de_int rfl rfl) de_int) da_nil))) ⟨_, _, _, rfl, rfl⟩))) ?_)) ?_
  · rw [decide_eq_true (by omega), decide_eq_true (by omega)]
    rfl
  refine dss_cons (ds_expr (de_call CN (Sub.refl _) (hr.mono (by decide)) (da_cons (de_var 0 rfl) (da_cons (de_var 1 rfl) (da_cons de_int (da_cons (de_var 3 rfl) da_nil)))) ⟨n, ps, g, 0, m, okw, ok, by omega, by omega, rfl, rfl⟩)) ?_
  refine dss_rt (ds_ret (de_is (de_eqI (i := wv n ps (inS x) m (parOf true m m) g) (de_wnewH (X := (cxOf CX0 P w K mg base ["web", "start", "person", "many"] "can_hold" (defScope sHold) f (.ref c) A outer s H E0).nox) (val := inS x) (par := parOf true m) (y := "person") (c := cc) (x := x) 2 WC hr okw.lo okw.hi (parOf_next true m) hm8 ok.lot hcc rfl rfl rfl rfl
    (de_var 0 rfl) (de_var 1 rfl) (de_var 3 rfl) (de_is de_bl (by rw [parOf_self])) (pe_lam L.tb rfl L.mem L.one L.ng rfl (free_by (sc := defScope sHold) (by decide +kernel))) (fun fl c' pm ctv ob t hob => sc_in ⟨rfl, rfl, rfl, by decide +kernel, rfl⟩ rfl ?_ hob fun u => rfl)) de_int) ?_))
  · exact NdefX.clo_has (fun y hy e => by
      have e2 := free_by (sc := defScope sHold) (by decide +kernel) y hy e
      exact Option.isSome_iff_exists.mp (PySem.W.cellsFrom_some _ _ _ (.inl e2))) (lookup_mem' (by rfl)) hcc
  · rw [parOf_self]
end
end FK
set_option Elab.async false
set_option linter.all false
set_option maxRecDepth 100000
set_option maxHeartbeats 2000000
/-! A list or a dict that is built up: one object is written, all else stands. -/
namespace FK
open PySem PySem.Spec PyProof.Rows L2

def Bld (o : HO) : Prop := (∃ xs, o = .lst xs) ∨ ∃ kvs, o = .dK kvs
def ExB (W : Wd) (l : Addr) (H H' : Hp) : Prop := ∀ a o, a ≠ l → H a = some o → ¬ W.mu a o → H' a = some o
inductive RStb : Rho → Prop
  | nil : RStb []
  | non {ρ : Rho} (h : RStb ρ) : RStb (none :: ρ)
  | d {ρ : Rho} {x : PyData} (n : noL x = true) (h : RStb ρ) : RStb (some (.d x) :: ρ)
  | r {ρ : Rho} {v : V} (h : RStb ρ) : RStb (some (.r v) :: ρ)
section
variable {W : Wd} {H H1 H' : Hp} {K : PySem.W.Frag} {l : Addr} {σ : L2.St} {ρ : Rho} {ob o : HO}
theorem ExB.refl (H : Hp) : ExB W l H H := fun _ _ _ h _ => h
theorem ExB.trans (a : ExB W l H H1) (b : ExB W l H1 H') : ExB W l H H' := fun c o n h m => b c o n (a c o n h m) m
theorem ExB.of (e : Ex W H H') : ExB W l H H' := fun a o _ h m => e a o h m
theorem ExB.upd : ExB W l H (upd H l o) := fun a u n h _ => by
  rw [upd_ne n]
  exact h
theorem ExB.ex (e : ExB W l H H') (h : H l = none) : Ex W H H' := fun a o q m => e a o (ne_of_none q h) q m
theorem Bld.ne_tup {xs : List V} (h : Bld ob) : ob ≠ .tup xs := by
  rcases h with ⟨_, rfl⟩ | ⟨_, rfl⟩ <;> exact fun z => by cases z
theorem Bld.ne_frz {u : Obj} {v : HO} (h : Bld ob) : ob ≠ .frz u v := by
  rcases h with ⟨_, rfl⟩ | ⟨_, rfl⟩ <;> exact fun z => by cases z
theorem Bld.nmu (h : Bld ob) : ¬ W.mu l ob := by
  rcases h with ⟨_, rfl⟩ | ⟨_, rfl⟩
  · exact W.mlst _ _
  · exact W.mdk _ _
theorem ExB.tup (e : ExB W l H H') (h : H l = some ob) (hb : Bld ob) : TupEx H H' :=
  ⟨fun a xs q => e a _ (fun z => hb.ne_tup (Option.some.inj (h.symm.trans (z ▸ q)))) q (W.mtup _ _), fun a u v q => e a _ (fun z => hb.ne_frz (Option.some.inj (h.symm.trans (z ▸ q)))) q (W.mfrz _ _ _)⟩
theorem RStb.at (s : RStb ρ) : ∀ {i : Nat} {a : AV}, ρ[i]? = some (some a) → (∃ x, a = .d x ∧ noL x = true) ∨ ∃ v, a = .r v := by
  induction s with
  | nil => intro i a h; simp at h
  | non h ih =>
    intro i a e
    cases i with
    | zero => simp at e
    | succ i => exact ih (by simpa using e)
  | d n h ih =>
    intro i a e
    cases i with
    | zero =>
      simp at e
      subst e
      exact .inl ⟨_, rfl, n⟩
    | succ i => exact ih (by simpa using e)
  | r h ih =>
    intro i a e
    cases i with
    | zero =>
      simp at e
      subst e
      exact .inr ⟨_, rfl⟩
    | succ i => exact ih (by simpa using e)
theorem SlOk.stb (h : SlOk K H σ ρ) (s : RStb ρ) (e : TupEx H H') : SlOk K H' σ ρ := ⟨h.len, fun i a hi => by
  obtain ⟨v, e1, r⟩ := h.get i a hi
  refine ⟨v, e1, ?_⟩
  rcases s.at hi with ⟨x, rfl, n⟩ | ⟨v', rfl⟩
  · exact dp_noL e x v n r
  · exact r⟩
end

theorem ps_all' {X : Cx} {st : Stmt} {A : Type} {C : A → Prop} {t : A → TS} (h : ∀ i, C i → PS X st (t i)) : PS X st (fun D σ H => ∃ i, C i ∧ t i D σ H) := ⟨fun pins s σ H D I ⟨i, c, q⟩ => (h i c).run pins s σ H D I q⟩
/-! ### the judgement -/
def tM (K : PySem.W.Frag) (W : Wd) (l : Addr) (ρ : Rho) (C : HO → Hp → Prop) (ρ' : Rho) (C' : HO → Hp → Prop) : TS := fun D σ H => W.J H ∧ SlOk K H σ ρ ∧ (∃ ob, H l = some ob ∧ Bld ob ∧ C ob H) ∧
  ∀ σ' H', ExB W l H H' → W.J H' → SlOk K H' σ' ρ' → (∃ ob, H' l = some ob ∧ Bld ob ∧ C' ob H') → D.nx σ' H'
abbrev MS (X : Cx) (W : Wd) (l : Addr) (ρ : Rho) (C : HO → Hp → Prop) (st : Stmt) (ρ' : Rho) (C' : HO → Hp → Prop) : Prop := PS X st (tM X.K W l ρ C ρ' C')
abbrev MSs (X : Cx) (W : Wd) (l : Addr) (ρ : Rho) (C : HO → Hp → Prop) (sts : List Stmt) (ρ' : Rho) (C' : HO → Hp → Prop) : Prop := PSs X sts (tM X.K W l ρ C ρ' C')
def CSt (W : Wd) (C : HO → Hp → Prop) : Prop := ∀ ob H H', C ob H → Ex W H H' → C ob H'
/-- a list of the data ds -/
def Cl (K : PySem.W.Frag) (ds : List PyData) : HO → Hp → Prop := fun ob H => ∃ vs, ob = .lst vs ∧ DqAll K H vs ds
/-- a dict with the keys ks -/
def Cd (ks : List Int) : HO → Hp → Prop := fun ob _ => ∃ kvs, ob = .dK kvs ∧ kvs.map (·.1) = ks.map Sum.inl
section
variable {X : Cx} {W : Wd} {l : Addr} {ρ ρ' ρ1 : Rho} {C C' C1 : HO → Hp → Prop} {st : Stmt} {rest sts sts1 sts2 body : List Stmt} {e : Expr} {pos : Pos}
theorem cl_st {K : PySem.W.Frag} {ds : List PyData} : CSt W (Cl K ds) := fun ob H H' ⟨vs, h1, h2⟩ e => ⟨vs, h1, dpAll_mono e _ _ h2⟩
theorem cd_st {ks : List Int} : CSt W (Cd ks) := fun ob H H' h e => h
theorem mss_nil : MSs X W l ρ C [] ρ C := pss_imp pss_nil fun D σ H ⟨j, s, c, q⟩ => q σ H (ExB.refl H) j s c
theorem mss_cons (h1 : MS X W l ρ C st ρ1 C1) (h2 : MSs X W l ρ1 C1 rest ρ' C') : MSs X W l ρ C (st :: rest) ρ' C' :=
  pss_imp (pss_cons h1 h2) fun D σ H ⟨j, s, c, q⟩ => ⟨j, s, c, fun σ1 H1 x1 j1 s1 c1 => ⟨j1, s1, c1, fun σ2 H2 x2 j2 s2 c2 => q σ2 H2 (x1.trans x2) j2 s2 c2⟩⟩
theorem mss_one (h1 : MS X W l ρ C st ρ' C') : MSs X W l ρ C [st] ρ' C' := pss_imp (pss_one h1) fun D σ H q => q
theorem mss_to (h : RLe ρ' ρ1) (h1 : MSs X W l ρ C sts ρ1 C') : MSs X W l ρ C sts ρ' C' := pss_imp h1 fun D σ H ⟨j, s, c, q⟩ => ⟨j, s, c, fun σ1 H1 x1 j1 s1 c1 => q σ1 H1 x1 j1 (s1.le h) c1⟩
theorem ms_of (h : DS X W ρ st (.nx ρ')) (hc : CSt W C) : MS X W l ρ C st ρ' C := ps_imp h fun D σ H ⟨j, s, ⟨ob, c1, c2, c3⟩, q⟩ => ⟨j, s, fun σ1 H1 x1 j1 s1 => q σ1 H1 (ExB.of x1) j1 s1 ⟨ob, x1 _ _ c1 c2.nmu, c2, hc _ _ _ c3 x1⟩⟩
theorem ms_if {ec : Expr} {b : Bool} (h : DT X W ρ ec b) (hc : CSt W C) (h1 : b = true → MSs X W l ρ C sts1 ρ' C') (h2 : b = false → MSs X W l ρ C sts2 ρ' C') : MS X W l ρ C (.If ec sts1 sts2 pos) ρ' C' :=
  ps_imp (ps_if h (pss_when h1) (pss_when h2)) fun D σ H ⟨j, s, ⟨ob, c1, c2, c3⟩, q⟩ => ⟨j, s, fun H1 x1 j1 => by
    have q1 : tM X.K W l ρ C ρ' C' D σ H1 := ⟨j1, s.mono x1, ⟨ob, x1 _ _ c1 c2.nmu, c2, hc _ _ _ c3 x1⟩, fun σ2 H2 x2 j2 s2 k2 => q σ2 H2 ((ExB.of x1).trans x2) j2 s2 k2⟩
    cases b with
    | true => exact ⟨rfl, q1⟩
    | false => exact ⟨rfl, q1⟩⟩
/-- y.append(e) -/
theorem ms_append (i : Nat) {y : Str} {p1 p2 p3 : Pos} {d : PyData} {ds : List PyData} (hy : ρ[i]? = some (some (.r (.ref l)))) (he : DE X W ρ e (.d d)) (hs : RStb ρ) (hd : noL d = true) (hds : noLs ds = true) (hlen : ds.length < sizeLine)
    (hN : X.N[i]? = some y := by rfl) (hv : Vis X.env.scope y := by first | exact Or.inl rfl | exact Or.inr (Or.inl rfl) | exact Or.inr (Or.inr rfl)) (hdd : (y == ("__debug__" : Str)) = false := by decide) (hcd : (y == ("__classdict__" : Str)) = false := by decide)
    (hbase : attributeBase (.Name y p1) "append" X.env (eval (.Name y p1) X.env) = eval (.Name y p1) X.env := by rfl)
    (hfew : ((backTo p3 (starEach [e] X.env)).all (fun x => !x.1) && (backToKw p3 (keywordEach [] X.env)).all (fun x => x.1.isSome) && decide (([e] : List Expr).length + ([] : List Keyword).length + (if ([] : List Keyword).isEmpty then 0 else 1) < 30)) = true := by rfl)
    (hline : (p2.endLine == p3.line) = true := by rfl) (hst : starEach [e] X.env = (false, eval e X.env) :: starEach [] X.env := by rfl)
    (hsw : swapsWith (.Call (.Attribute (.Name y p1) "append" p2) [e] [] p3) none pos.line X.env = pure false := by rfl) : MS X W l ρ (Cl X.K ds) (.Expr (.Call (.Attribute (.Name y p1) "append" p2) [e] [] p3) pos) ρ (Cl X.K (ds ++ [d])) :=
  ps_imp (ps_expr (pe_bm PySem.F.plainAttrs_list PySem.F.slot_list_append PySem.F.type_list_append mt_append (de_var (W := W) (ρ := ρ) i hy hN hv hdd hcd) (pa_cons he pa_nil hst) hbase hfew hline hst (by rfl)) hsw)
    fun D σ H ⟨j, s, ⟨ob, c1, c2, vs, hob, c3⟩, q⟩ => ⟨j, s, fun v H1 x1 j1 r1 => by
      subst hob
      obtain rfl : v = .ref l := r1
      have c1' : H1 l = some (.lst vs) := x1 _ _ c1 (W.mlst _ _)
      refine ⟨.inl ⟨rfl, _, SqL.of c1'⟩, j1, s.mono x1, fun u H2 x2 j2 r2 => ?_⟩
      have c2' : H2 l = some (.lst vs) := x2 _ _ c1' (W.mlst _ _)
      have tx : TupEx H2 (upd H2 l (.lst (vs ++ [u]))) := TupEx.lst c2'
      refine ⟨l, vs, u, rfl, rfl, c2', by rw [dpAll_len c3]; exact hlen, q σ _ ((ExB.of (x1.trans x2)).trans ExB.upd) (W.jlst _ _ _ _ c2' j2) (((s.mono x1).mono x2).stb hs tx) ⟨_, upd_same, .inl ⟨_, rfl⟩, _, rfl, ?_⟩⟩
      exact dpAll_append (dpAll_noL tx _ _ hds (dpAll_mono (x1.trans x2) _ _ c3)) (.cons (dp_noL tx _ _ hd r2) .nil)⟩
theorem put_keys {kvs : List (Key × V)} {ks : List Int} (h : kvs.map (·.1) = ks.map Sum.inl) (k : Int) (v : V) : (putK kvs (.inl k) v).map (·.1) = (dedI ks [k]).map Sum.inl := by
  have e : (kvs.any fun kv => decide (kv.1 = (Sum.inl k : Key))) = decide (k ∈ ks) := by
    rw [Bool.eq_iff_iff, List.any_eq_true, decide_eq_true_eq]
    constructor
    · rintro ⟨x, hx, e⟩
      have e' := of_decide_eq_true e
      have : x.1 ∈ ks.map (Sum.inl : Int → Key) := by rw [← h]; exact List.mem_map.mpr ⟨x, hx, rfl⟩
      obtain ⟨y, hy, e2⟩ := List.mem_map.mp this
      rw [e'] at e2
      cases e2
      exact hy
    · intro hk
      have : (Sum.inl k : Key) ∈ kvs.map (·.1) := by rw [h]; exact List.mem_map.mpr ⟨k, hk, rfl⟩
      obtain ⟨x, hx, e2⟩ := List.mem_map.mp this
      exact ⟨x, hx, decide_eq_true e2⟩
  unfold putK dedI dedI
  rw [e]
  by_cases hk : k ∈ ks
  · rw [decide_eq_true hk, if_pos rfl, if_pos hk, List.map_map, ← h]
    refine List.map_congr_left fun x _ => ?_
    show (if x.1 = Sum.inl k then (x.1, v) else x).1 = x.1
    split <;> rfl
  · rw [decide_eq_false hk, if_neg (by decide), if_neg hk, List.map_append, List.map_append, h]
    rfl
/-- y[e] = True -/
theorem ms_put (i : Nat) {y : Str} {p1 p2 p3 : Pos} {j0 : Nat} {b : Bool} {k : Int} {ks : List Int} (hy : ρ[i]? = some (some (.r (.ref l)))) (he : DE X W ρ e (.d (.int k))) (hs : RStb ρ) (hu : X.A.units + 1 < cLine) (hlen : ks.length < sizeLine)
    (hN : X.N[i]? = some y := by rfl) (hv : Vis X.env.scope y := by first | exact Or.inl rfl | exact Or.inr (Or.inl rfl) | exact Or.inr (Or.inr rfl)) (hdd : (y == ("__debug__" : Str)) = false := by decide) (hcd : (y == ("__classdict__" : Str)) = false := by decide)
    (hsw : swapsWith (.Constant (.bool b) j0 p3) (some (.Subscript (.Name y p1) e p2)) pos.line X.env = pure false := by rfl) : MS X W l ρ (Cd ks) (.Assign [.Subscript (.Name y p1) e p2] (.Constant (.bool b) j0 p3) pos) ρ (Cd (dedI ks [k])) :=
  ps_imp (ps_dput hu (de_var (W := W) (ρ := ρ) i hy hN hv hdd hcd) he (de_bl (W := W) (ρ := ρ)) hsw) fun D σ H ⟨j, s, ⟨ob, c1, c2, kvs, hob, c3⟩, q⟩ => ⟨j, s, fun v0 H0 x0 j0 r0 => ⟨j0, s.mono x0, fun v H1 x1 j1 r1 => ⟨j1, (s.mono x0).mono x1, fun u H2 x2 j2 r2 => by
      subst hob
      obtain rfl : v = .ref l := r1
      have e2 : u = .int k := dp_int r2
      subst e2
      have xx := (x0.trans x1).trans x2
      have c2' : H2 l = some (.dK kvs) := xx _ _ c1 (W.mdk _ _)
      have tx : TupEx H2 (upd H2 l (.dK (putK kvs (.inl k) v0))) := TupEx.dk c2'
      have hkl : kvs.length = ks.length := by
        have := congrArg List.length c3
        simpa using this
      exact ⟨l, _, rfl, DPut.k (k := .inl k) c2' (by rw [hkl]; exact hlen), q σ _ ((ExB.of xx).trans ExB.upd) (W.jdk _ _ _ _ c2' j2) ((s.mono xx).stb hs tx) ⟨_, upd_same, .inr ⟨_, rfl⟩, _, rfl, put_keys c3 k v0⟩⟩⟩⟩⟩

/-! ### loops -/
def ItB (K : PySem.W.Frag) (W : Wd) (l : Addr) (J : It) (ds : List AV) (H : Hp) : Prop := ∀ H1, ExB W l H H1 →
  (∀ i, i < ds.length → J.go i H1) ∧ (∀ i a x H2, ds[i]? = some a → J.yld i H1 x H2 → H2 = H1 ∧ AvOk K H1 x a) ∧ J.stop ds.length H1
def DIB (X : Cx) (W : Wd) (l : Addr) (ρ : Rho) (C : HO → Prop) (tg it : Expr) (ds : List AV) : Prop := ∃ wi, PI X tg it wi ∧ ∀ σ H R ob, W.J H → SlOk X.K H σ ρ → H l = some ob → Bld ob → C ob → (∀ J H', Ex W H H' → W.J H' → ItB X.K W l J ds H' → R J H') → wi σ H R
theorem itb_range {K : PySem.W.Frag} {H : Hp} (lo : Int) (n : Nat) : ItB K W l (Itr lo n) ((List.range n).map fun i => AV.d (.int (lo + (i : Nat)))) H := by
  intro H1 x1
  refine ⟨fun i hi => ?_, fun i b x H3 hb hy => ?_, ?_⟩
  · rw [List.length_map, List.length_range] at hi
    exact hi
  · obtain ⟨k, hk, rfl⟩ := map_at hb
    obtain ⟨rfl, rfl⟩ := hy
    have e : k = i := by
      obtain ⟨hl, e⟩ := List.getElem?_eq_some_iff.mp hk
      rw [List.getElem_range] at e
      exact e.symm
    subst e
    exact ⟨rfl, .int _⟩
  · rw [List.length_map, List.length_range]
    exact Nat.le_refl n
theorem dib_range1 {tg a : Expr} {n : Int} {p pos : Pos} (h : DE X W ρ a (.d (.int n))) (hm : X.mg "range" = none) (h1 : -(2 ^ 62) ≤ n) (h2 : n < 2 ^ 62) (hg : Gl X "range" := by rfl) (hs : starEach [a] X.env = [(false, eval a X.env)] := by rfl) :
    DIB X W l ρ (fun _ => True) tg (.Call (.Name "range" p) [a] [] pos) ((List.range n.toNat).map fun i => AV.d (.int (0 + (i : Nat)))) := by
  refine ⟨_, pi_range1 hg hm (da_cons h da_nil hs) hs, fun σ H R ob j s _ _ _ q => ⟨j, s, fun vs H1 x1 j1 r1 => ?_⟩⟩
  cases r1 with
  | cons r r' =>
    cases r'
    exact ⟨n, by rw [dp_int r], h1, h2, q _ H1 x1 j1 (itb_range 0 n.toNat)⟩
theorem dib_tup {tg it : Expr} {ds : List PyData} (h : DE X W ρ it (.d (.tuple ds))) (hn : noLs ds = true) : DIB X W l ρ (fun _ => True) tg it (ds.map AV.d) := by
  refine ⟨_, pi_tup h, fun σ H R ob j s hob hb _ q => ⟨j, s, fun v H1 x1 j1 r1 => ?_⟩⟩
  obtain ⟨a, xs, rfl, hs, ha⟩ := dp_tup r1
  have hob1 : H1 l = some ob := x1 _ _ hob hb.nmu
  refine ⟨a, rfl, ⟨xs, hs⟩, q _ H1 x1 j1 fun H2 x2 => ?_⟩
  have tx := x2.tup hob1 hb
  have hs2 : SqT X.K H2 a xs := tx.seqT hs
  have ha2 : DqAll X.K H2 xs ds := dpAll_noL tx _ _ hn ha
  refine ⟨fun i hi => ?_, fun i b x H3 hb hy => ?_, xs, hs2, ?_⟩
  · rw [List.length_map] at hi
    obtain ⟨x, e, r⟩ := dpAll_get ha (List.getElem?_eq_getElem hi)
    exact ⟨xs, x, hs2, e⟩
  · obtain ⟨d, hd, rfl⟩ := map_at hb
    obtain ⟨x', e, r⟩ := dpAll_get ha2 hd
    obtain ⟨rfl, hy⟩ := hy
    have e2 := hy xs hs2
    rw [e] at e2
    cases e2
    exact ⟨rfl, r⟩
  · rw [dpAll_len ha, List.length_map]
    exact Nat.le_refl _
/-- a list, walked while a dict is built -/
theorem dib_list {tg it : Expr} {ds : List PyData} (h : DE X W ρ it (.d (.list ds))) (hn : noLs ds = true) : DIB X W l ρ (fun ob => ∃ kvs, ob = .dK kvs) tg it (ds.map AV.d) := by
  refine ⟨_, pi_list h, fun σ H R ob j s hob hb hc q => ⟨j, s, fun v H1 x1 j1 r1 => ?_⟩⟩
  obtain ⟨a, xs, rfl, hs0, ha⟩ := dp_lst r1
  obtain ⟨kvs, rfl⟩ := hc
  have hob1 : H1 l = some (.dK kvs) := x1 _ _ hob hb.nmu
  have al : a ≠ l := ne_of hs0 hob1 (by intro z; cases z)
  refine ⟨a, rfl, ⟨xs, SqL.of hs0⟩, q _ H1 x1 j1 fun H2 x2 => ?_⟩
  have tx := x2.tup hob1 hb
  have hs2 : SqL X.K H2 a xs := SqL.of (x2 a _ al hs0 (W.mlst _ _))
  have ha2 : DqAll X.K H2 xs ds := dpAll_noL tx _ _ hn ha
  refine ⟨fun i hi => ?_, fun i b x H3 hb hy => ?_, xs, hs2, ?_⟩
  · rw [List.length_map] at hi
    obtain ⟨x, e, r⟩ := dpAll_get ha (List.getElem?_eq_getElem hi)
    exact ⟨xs, x, hs2, e⟩
  · obtain ⟨d, hd, rfl⟩ := map_at hb
    obtain ⟨x', e, r⟩ := dpAll_get ha2 hd
    obtain ⟨rfl, hy⟩ := hy
    have e2 := hy xs hs2
    rw [e] at e2
    cases e2
    exact ⟨rfl, r⟩
  · rw [dpAll_len ha, List.length_map]
    exact Nat.le_refl _
theorem dib_is {D : HO → Prop} {tg it : Expr} {ds ds' : List AV} (h : DIB X W l ρ D tg it ds) (e : ds = ds') : DIB X W l ρ D tg it ds' := e ▸ h
/-- for x in it: body -/
theorem ms_for {α : Type} {n : Str} {p : Pos} {it : Expr} {D0 : HO → Prop} (k : Nat) (xs : List α) (enc : α → AV) (ρs : Rho) (Cs : List α → HO → Hp → Prop) (hN : X.N.Nodup) (hp : PassesOwn (model X.prog X.w) X.A X.env X.xe) (hi : DIB X W l ρ D0 (.Name n p) it (xs.map enc)) (hst : RStb ρs) (h0 : RLe ρs ρ)
    (hC0 : ∀ ob H, C ob H → D0 ob) (hCs : ∀ pre, CSt W (Cs pre)) (hC : ∀ ob H, C ob H → Cs [] ob H) (hb : ∀ pre x post, xs = pre ++ x :: post → MSs X W l (ρs.set k (some (enc x))) (Cs pre) body ρs (Cs (pre ++ [x])))
    (hc : X.calm = true := by rfl) (hk : X.N[k]? = some n := by rfl) (hx : Loc X.env.scope n := by first | exact Or.inl rfl | exact Or.inr rfl)
    (hf : X.fn n = true ∨ X.env.scope.names.lookup n = some .local := by first | exact .inl rfl | exact .inr rfl)
    (hs : ∀ x, foldedSetIterable it X.env x = pure x := by intro _; rfl) : MS X W l ρ C (.For (.Name n p) it body [] pos) ρs (Cs xs) := by
  obtain ⟨wi, pi, hw⟩ := hi
  refine ps_imp (ps_for hp hc pi (pg_name hN hk hx hf) (pss_all (A := List α × α) (C := fun p => ∃ post, xs = p.1 ++ p.2 :: post) (t := fun p => tM X.K W l (ρs.set k (some (enc p.2))) (Cs p.1) ρs (Cs (p.1 ++ [p.2]))) fun p ⟨post, e⟩ => hb p.1 p.2 post e) hs) fun D σ H ⟨j, s, ⟨ob, c1, c2, c3⟩, q⟩ => ?_
  refine hw σ H _ ob j s c1 c2 (hC0 _ _ c3) fun J H1 x1 j1 ok => ?_
  have c1' : H1 l = some ob := x1 _ _ c1 c2.nmu
  refine ⟨fun i m σ' H' => m = xs.length - i ∧ i ≤ xs.length ∧ ExB W l H1 H' ∧ W.J H' ∧ SlOk X.K H' σ' ρs ∧ ∃ ob, H' l = some ob ∧ Bld ob ∧ Cs (xs.take i) ob H', ⟨xs.length, by simp, Nat.zero_le _, ExB.refl H1, j1, (s.mono x1).le h0, ob, c1', c2, hCs [] _ _ _ (hC _ _ c3) x1⟩, ?_⟩
  rintro i m σ' H' ⟨rfl, hle, x2, j2, s2, ob2, k1, k2, k3⟩
  obtain ⟨ok1, ok2, ok3⟩ := ok H' x2
  rw [List.length_map] at ok1 ok3
  by_cases hlt : i < xs.length
  · obtain ⟨et, ex⟩ := take_next hlt
    refine .inr ⟨ok1 i hlt, fun σ3 H3 => ExB W l H1 H3 ∧ W.J H3 ∧ SlOk X.K H3 σ3 ρs ∧ ∃ ob, H3 l = some ob ∧ Bld ob ∧ Cs (xs.take (i + 1)) ob H3, fun σ3 H3 ⟨x3, j3, s3, k3⟩ => ⟨xs.length - (i + 1), by omega, rfl, hlt, x3, j3, s3, k3⟩, fun v H3 hy => ?_⟩
    obtain ⟨rfl, r⟩ := ok2 i (enc xs[i]) v H3 (by rw [List.getElem?_map, List.getElem?_eq_getElem hlt]; rfl) hy
    refine ⟨(xs.take i, xs[i]), ⟨xs.drop (i + 1), ex⟩, j2, s2.set k r, ⟨ob2, k1, k2, k3⟩, fun σ5 H5 x5 j5 s5 k5 => ⟨x2.trans x5, j5, s5, ?_⟩⟩
    rw [et]
    exact k5
  · have e : i = xs.length := by omega
    subst e
    rw [List.take_length] at k3
    exact .inl ⟨ok3, q σ' H' ((ExB.of x1).trans x2) j2 s2 ⟨ob2, k1, k2, k3⟩⟩

/-! ### from the new object on -/
/-- y = [] ; st ; rest -/
theorem pss_newlist {tr : TS} {y : Str} {py p2 pos2 : Pos} {a : AV} (i : Nat) (hN : X.N.Nodup) (h1 : ∀ l, MS X W l (ρ.set i (some (.r (.ref l)))) (Cl X.K []) st (ρ1.set i (some (.r (.ref l)))) C1) (ha : ∀ l ob H, H l = some ob → C1 ob H → AvOk X.K H (.ref l) a) (h2 : PSs X rest tr)
    (hi : X.N[i]? = some y := by rfl) (hx : Loc X.env.scope y := by first | exact Or.inl rfl | exact Or.inr rfl) (hs : swapsWith (.List [] p2) (some (.Name y py)) pos2.line X.env = pure false := by rfl)
    (hf : X.fn y = true ∨ X.env.scope.names.lookup y = some .local := by first | exact .inl rfl | exact .inr rfl) (hlr : i < ρ1.length := by simp) :
    PSs X (.Assign [.Name y py] (.List [] p2) pos2 :: st :: rest) (fun D σ H => W.J H ∧ SlOk X.K H σ ρ ∧ ∀ σ' H', Ex W H H' → W.J H' → SlOk X.K H' σ' (ρ1.set i (some a)) → tr D σ' H') :=
  pss_imp (pss_cons (ps_set hN hi hx (pe_lst pa_nil) hs hf) (pss_cons (ps_all' (C := fun _ => True) (t := fun l => tM X.K W l (ρ.set i (some (.r (.ref l)))) (Cl X.K []) (ρ1.set i (some (.r (.ref l)))) C1) fun l _ => h1 l) h2)) fun D σ H ⟨j, s, q⟩ => ⟨Nat.zero_le _, fun l hl => by
    have x1 : Ex W H (upd H l (.lst [])) := Ex.new hl
    refine ⟨l, trivial, W.jal _ _ _ hl j, (s.mono x1).set i rfl, ⟨_, upd_same, .inl ⟨_, rfl⟩, [], rfl, .nil⟩, fun σ2 H2 x2 j2 s2 ⟨ob, k1, k2, k3⟩ => ?_⟩
    have x3 : Ex W H H2 := (((ExB.of x1).trans x2)).ex hl
    have sg : ∃ v, σ2[i]? = some (some v) ∧ AvOk X.K H2 v (.r (.ref l)) := s2.get i _ (by rw [List.getElem?_set_self hlr])
    obtain ⟨v, e1, r1⟩ := sg
    obtain rfl : v = .ref l := r1
    refine q σ2 H2 x3 j2 ⟨?_, fun i' b hb => ?_⟩
    · rw [s2.len, List.length_set, List.length_set]
    · by_cases hii : i = i'
      · subst hii
        rw [List.getElem?_set_self hlr] at hb
        cases hb
        exact ⟨_, e1, ha l ob H2 k1 k3⟩
      · rw [List.getElem?_set_ne hii] at hb
        exact s2.get i' b (by rw [List.getElem?_set_ne hii]; exact hb)⟩
end
end FK
set_option Elab.async false
set_option linter.all false
set_option maxRecDepth 100000
set_option maxHeartbeats 2000000
/-! best_calls -/
namespace FK
open PySem PySem.Spec PyProof.Rows L2
section
variable {X : Cx} {TG : List Addr} {TL : List (Addr × Str)} {ρ : Rho} {e1 e2 e3 e4 lamE knE : Expr} {p p5 pos : Pos} {f : Addr} {fd : FuncData} {n : Nat} {ps : List (Int × Int)} {val : List Int → Int} {par : Nat → Bool} {m : Nat} {g : List Int} {q : Str} {k : Nat} {rest : List Stmt}
/-- y = {}, the memo of what follows -/
theorem dss_newmemo {mk : Addr → Mi} {x : PyData} {y : Str} {py p2 : Pos} (i : Nat) (hmk : ∀ d, (mk d).d = d ∧ (mk d).objs = []) (hN : X.N.Nodup) (h : ∀ d, DSs X (wX X TG TL (mk d) none) (ρ.set i (some (.r (.ref d)))) rest (.rt (.d x)))
    (hi : X.N[i]? = some y := by rfl) (hx : Loc X.env.scope y := by first | exact Or.inl rfl | exact Or.inr rfl) (hs : swapsWith (.Dict [] [] p2) (some (.Name y py)) pos.line X.env = pure false := by rfl)
    (hf : X.fn y = true ∨ X.env.scope.names.lookup y = some .local := by first | exact .inl rfl | exact .inr rfl) : DSs X (W0 TG TL) ρ (.Assign [.Name y py] (.Dict [] [] p2) pos :: rest) (.rt (.d x)) :=
  pss_imp (pss_cons (ps_set hN hi hx pe_dnewM hs hf) (pss_all (C := fun _ => True) (t := fun d => tS X.K (wX X TG TL (mk d) none) (ρ.set i (some (.r (.ref d)))) (.rt (.d x))) fun d _ => h d)) fun D σ H ⟨j, s, qq⟩ d hd hsm => by
    have x1 : Ex (W0 TG TL) H (upd H d (MemO X.prog X.w d [])) := Ex.new hd
    have e1 := (hmk d).1
    refine ⟨d, trivial, ⟨(W0 TG TL).jal _ _ _ hd j, fun p hp => ?_, ?_, [], ⟨?_, fun y hy => by cases hy⟩, fun k e => by cases e⟩, (s.mono x1).set i rfl, fun v H' x' j' r' => qq v H' (fun a u e nn => ?_) j'.1 r'⟩
    · rw [(hmk d).2] at hp
      cases hp
    · rw [e1]
      exact hsm
    · rw [e1]
      exact upd_same
    · have hne : a ≠ d := ne_of_none e hd
      refine x' a u (by rw [upd_ne hne]; exact e) fun z => ?_
      rcases z with z | ⟨z, _⟩
      · exact nn z
      · exact hne (z.trans e1)
/-- worth(.., lambda, known) -/
theorem de_wcall {Ob : Value → Addr → Value → Obj} {d : Addr} (WC : WorthC X.prog X.w X.K X.mg X.base TG TL f fd) (hr : Room 11 X.A) (hn1 : 1 ≤ n) (hn7 : n ≤ 7) (hpar : ∀ m, par (m + 1) = !par m) (hm8 : m ≤ 8) (hg8 : LotOk n g)
    (h1 : DE X (wX X TG TL (miW n ps val par d []) none) ρ e1 (.d (webD n ps))) (h2 : DE X (wX X TG TL (miW n ps val par d []) none) ρ e2 (.d (tupD g))) (h3 : DE X (wX X TG TL (miW n ps val par d []) none) ρ e3 (.d (.int m))) (h4 : DE X (wX X TG TL (miW n ps val par d []) none) ρ e4 (.d (.bool (par m)))) (hl : PE X lamE (tLamO X TG TL q Ob))
    (h6 : DE X (wX X TG TL (miW n ps val par d []) none) ρ knE (.r (.ref d)))
    (S : ∀ fl c' pm ctv, ScOk X.prog X.w X.K X.mg X.base fl (lamThings fl c' q (Ob pm c' ctv)) val) (hg : Gl X "worth" := by rfl)
    (s1 : starEach [e1, e2, e3, e4, lamE, knE] X.env = (false, eval e1 X.env) :: starEach [e2, e3, e4, lamE, knE] X.env := by rfl) (s2 : starEach [e2, e3, e4, lamE, knE] X.env = (false, eval e2 X.env) :: starEach [e3, e4, lamE, knE] X.env := by rfl)
    (s3 : starEach [e3, e4, lamE, knE] X.env = (false, eval e3 X.env) :: starEach [e4, lamE, knE] X.env := by rfl) (s4 : starEach [e4, lamE, knE] X.env = (false, eval e4 X.env) :: starEach [lamE, knE] X.env := by rfl)
    (s5 : starEach [lamE, knE] X.env = (false, eval lamE X.env) :: starEach [knE] X.env := by rfl) (s6 : starEach [knE] X.env = (false, eval knE X.env) :: starEach [] X.env := by rfl) (hpl : (backTo pos (starEach [e2, e3, e4, lamE, knE] X.env)).any (·.1) = false := by rfl) :
    DE X (wX X TG TL (miW n ps val par d []) none) ρ (.Call (.Name "worth" p) [e1, e2, e3, e4, lamE, knE] [] pos) (.d (.int (wv n ps val m (par m) g))) := by
  refine pe_imp (pe_call (WC.ok n ps val par hn1 hn7 hpar m hm8) hr hg WC.glob WC.kp WC.bi .nil pass0 (pa_cons h1 (pa_cons h2 (pa_cons h3 (pa_cons h4 (pa_cons hl (pa_cons h6 pa_nil s6) s5) s4) s3) s2) s1) (by decide) s1 hpl) fun σ H Q ⟨j, s, qq⟩ => ?_
  refine ⟨j, s, fun v1 H1 x1 j1 r1 => ⟨j1, s.mono x1, fun v2 H2 x2 j2 r2 => ⟨j2, (s.mono x1).mono x2, fun v3 H3 x3 j3 r3 => ⟨j3, ((s.mono x1).mono x2).mono x3, fun v4 H4 x4 j4 r4 => ⟨j4.1, fun fl c' pm ctv H5 nf x5 jt5 hf hc hcd => ?_⟩⟩⟩⟩⟩
  have sb : Sub (W0 TG TL) (wX X TG TL (miW n ps val par d []) none) := sub_m
  have y5 : Ex (wX X TG TL (miW n ps val par d []) none) H4 H5 := sb.ex x5
  have j5 := sb.st _ _ j4 x5 jt5
  refine ⟨j5, (((s.mono x1).mono x2).mono x3).mono x4 |>.mono y5, fun v6 H6 x6 j6 r6 => ?_⟩
  obtain rfl : v6 = .ref d := r6
  show spW X.prog X.w X.K X.mg X.base TG TL n ps val par m [v1, v2, v3, v4, .ref fl, .ref d] H6 Q E0
  obtain ⟨hsm4, xs4, hm4, _⟩ := j4.2.2
  obtain ⟨hsm5, xs5, hm5, _⟩ := j5.2.2
  have fd4 : fl ≠ d := fun z => by
    have := hm4.1
    rw [show (miW n ps val par d []).d = d from rfl, ← z, nf] at this
    cases this
  have cd5 : c' ≠ d := hcd d xs5 hm5.1
  have at6 : ∀ {a : Addr} {φ : Heap → Prop}, a ≠ d → H5 a = some (.ext φ) → H6 a = some (.ext φ) := fun {a φ} nd e => x6 a _ e fun z => by
    rcases z with ⟨_, z⟩ | ⟨z, _⟩
    · cases z
    · exact nd z
  refine ⟨(fl, d, lamThings fl c' q (Ob pm c' ctv)), S fl c' pm ctv, rfl, ⟨j6.1, ?_, j6.2.2⟩, _, _, ?_, ⟨g, hg8, rfl, rfl⟩, fun v H' x' j' r' => ?_⟩
  · intro pp hp
    rcases List.mem_cons.mp hp with z | hp
    · subst z
      exact ⟨fd4, at6 fd4 hf⟩
    · rw [List.mem_singleton] at hp
      subst hp
      exact ⟨cd5, at6 cd5 hc⟩
  · exact .cons (((((AvOk.mono x2 r1).mono x3).mono x4).mono y5).mono x6) (.cons ((((AvOk.mono x3 r2).mono x4).mono y5).mono x6) (.cons (((AvOk.mono x4 r3).mono y5).mono x6) (.cons ((AvOk.mono y5 r4).mono x6) (.cons rfl (.cons rfl .nil)))))
  · exact qq v H' (((((x1.trans x2).trans x3).trans x4).trans y5).trans x6 |>.trans x') ⟨j'.1, (fun p hp => by cases hp), j'.2.2⟩ r'
end
section
variable {P : Program} {w : World} {K : PySem.W.Frag} {mg : Str → Option Value} {base : Heap} {TG : List Addr} {TL : List (Addr × Str)}
theorem noL_ints (g : List Int) : noL (tupD g) = true := noLs_ints g
theorem noL_prs (ps : List (Int × Int)) : noLs (ps.map prD) = true := noLs_of fun p _ => rfl
theorem noL_web (n : Nat) (ps : List (Int × Int)) : noL (webD n ps) = true := by
  show (true && (noLs (ps.map prD) && true)) = true
  rw [noL_prs]
  rfl
theorem ppl_get {n : Nat} {p : Int} (h : p ∈ ppl n) : (ppl n)[p.toNat]? = some p ∧ p = (p.toNat : Int) := by
  have hp := mem_ppl.mp h
  have e : p = (p.toNat : Int) := by omega
  refine ⟨?_, e⟩
  unfold ppl
  rw [List.getElem?_map, List.getElem?_range (by omega)]
  show some ((p.toNat : Nat) : Int) = some p
  rw [← e]
/-- the values of the first calls -/
def firstV (n : Nat) (ps : List (Int × Int)) (m : Nat) (g : List Int) (p : Int) : Int := wv n ps lenS m false (cameI ps g p)
def bestI (n : Nat) (ps : List (Int × Int)) (m : Nat) (g : List Int) : List Int := (ppl n).filter fun p => decide (firstV n ps m g p = maxI ((ppl n).map (firstV n ps m g)))
abbrev sBest : Stmt := topS 21
abbrev nBest : List Str := ["web", "start", "many", "known", "some", "one", "person"]
theorem scBest : FnScope nBest ["web", "start", "many"] (defScope sBest) := ⟨rfl, rfl, rfl, by decide +kernel, rfl, by decide +kernel, by decide +kernel⟩
def FBest : Rel := fun as r => ∃ (n : Nat) (ps : List (Int × Int)) (g : List Int) (m : Nat), WebOk n ps ∧ GathOk n ps g ∧ m + 1 ≤ 8 ∧ as = [.d (webD n ps), .d (tupD g), .d (.int (m + 1 : Nat))] ∧ r = .d (tupD (bestI n ps m g))
theorem ok_best {f c Pt fw : Addr} {fd fdw : FuncData} (F : FunC K "best_calls" sBest f fd c) (L : LamT base mg TG TL "best_calls" c Pt) (ml : mg "len" = none) (mr : mg "range" = none) (mt : mg "tuple" = none) (mm : mg "max" = none) (CN : Callee P w K mg base "need_calls" 4 5 (W0 TG TL) FNeedCalls)
    (CC : Callee P w K mg base "came" 3 2 (W0 TG TL) FCame) (WC : WorthC P w K mg base TG TL fw fdw) :
    FnOk P w K mg base CX0 12 f fd ["web", "start", "many"] (avSp K (W0 TG TL) 3 FBest) := by
  refine av_defC (k := 11) F scBest fun A outer s H hr as r hl hF => ?_
  obtain ⟨n, ps, g, m, okw, ok, hm8, rfl, rfl⟩ := hF
  have hn7 := okw.hi
  have hn1 := okw.lo
  have hgl := ok.lot.len
  refine ⟨.rt (.d (tupD (bestI n ps m g))), ?_, rfl⟩
  refine dss_cons (ds_expr (de_call CN (Sub.refl _) (hr.mono (by decide)) (da_cons (de_var 0 rfl) (da_cons (de_var 1 rfl) (da_cons de_int (da_cons (de_var 2 rfl) da_nil)))) ⟨n, ps, g, 1, _, okw, ok, by omega, by omega, rfl, rfl⟩)) ?_
  refine dss_newmemo (X := (cxOf CX0 P w K mg base nBest "best_calls" (defScope sBest) f (.ref c) A outer s H E0).nox) (mk := fun d => miW n ps lenS (parOf false m) d []) 3 (fun d => ⟨rfl, rfl⟩) scBest.nd fun d => ?_
  let ρ1 : Rho := [some (.d (webD n ps)), some (.d (tupD g)), some (.d (.int (m + 1 : Nat))), some (.r (.ref d)), none, none, none]
  let W := wX (cxOf CX0 P w K mg base nBest "best_calls" (defScope sBest) f (.ref c) A outer s H E0).nox TG TL (miW n ps lenS (parOf false m) d []) none
  have efs : ((ppl n).map (firstV n ps m g)).map PyData.int = (ppl n).map fun p => PyData.int (firstV n ps m g p) := by rw [List.map_map]; rfl
  refine pss_imp (pss_newlist (X := (cxOf CX0 P w K mg base nBest "best_calls" (defScope sBest) f (.ref c) A outer s H E0).nox) (W := W) (ρ := ρ1) (ρ1 := ρ1) (C1 := Cl K ((ppl n).map fun p => PyData.int (firstV n ps m g p))) (a := .d (lstD ((ppl n).map (firstV n ps m g)))) (tr := tS K W (ρ1.set 4 (some (.d (lstD ((ppl n).map (firstV n ps m g)))))) (.rt (.d (tupD (bestI n ps m g))))) 4 scBest.nd (fun l => ?_) (fun l ob H' e ⟨vs, hv, hq⟩ => ?_) ?_ (hlr := by show 4 < 7; decide)) fun D σ H' ⟨j, sl, q⟩ => ⟨j, sl, fun σ2 H2 x2 j2 s2 => ⟨j2, s2, fun v H3 x3 j3 r3 => q v H3 (x2.trans x3) j3 r3⟩⟩
  · let ρl : Rho := [some (.d (webD n ps)), some (.d (tupD g)), some (.d (.int (m + 1 : Nat))), some (.r (.ref d)), some (.r (.ref l)), none, none]
    have hst : ∀ a : PyData, noL a = true → RStb (ρl.set 5 (some (.d a))) := fun a na => .d (noL_web n ps) (.d (noL_ints g) (.d rfl (.r (.r (.d na (.non .nil))))))
    have hst0 : RStb ρl := .d (noL_web n ps) (.d (noL_ints g) (.d rfl (.r (.r (.non (.non .nil))))))
    refine ms_for (D0 := fun _ => True) 5 (ppl n) (fun k => .d (.int k)) ρl (fun pre => Cl K (pre.map fun p => PyData.int (firstV n ps m g p))) scBest.nd owns (dib_is (dib_range1 (n := n) (de_ixT 0 (de_var 0 rfl) de_int rfl rfl) mr (by omega) (by omega)) (range_ppl n)) hst0 (RLe.refl _) (fun _ _ _ => trivial) (fun pre => cl_st) (fun ob H h => h) fun pre x post e => ?_
    have hx : x ∈ ppl n := by rw [e]; exact List.mem_append_right _ List.mem_cons_self
    have hpre : pre.length ≤ n := by
      have := congrArg List.length e
      rw [ppl_len, List.length_append] at this
      omega
    refine mss_to (RLe.drop (ρl.set 5 (some (.d (.int x)))) 5) (mss_one ?_)
    rw [List.map_append, List.map_cons, List.map_nil]
    refine ms_append 4 rfl (de_is (de_wcall (X := (cxOf CX0 P w K mg base nBest "best_calls" (defScope sBest) f (.ref c) A outer s H E0).nox) (val := lenS) (par := parOf false m) (m := m) (g := cameI ps g x) WC hr hn1 hn7 (parOf_next false m) (by omega) (came_lot (by omega) ok.lot hx)
      (de_var 0 rfl) (de_call CC sub_m (hr.mono (by decide)) (da_cons (de_var 0 rfl) (da_cons (de_var 1 rfl) (da_cons (de_var 5 rfl) da_nil))) ⟨n, ps, g, x, hgl, rfl, rfl⟩) (de_is (de_sub (de_var 2 rfl) de_int) ?_) (de_is de_bl (by rw [parOf_self])) (pe_lam L.tb rfl L.mem L.one L.ng rfl (free_by (sc := defScope sBest) (by decide +kernel))) (de_var 3 rfl) (fun fl c' pm ctv => sc_len ml ⟨rfl, rfl, rfl, by decide +kernel, rfl⟩ rfl fun u => rfl)) ?_) (hst _ rfl) rfl (noLs_of fun _ _ => rfl) (by rw [List.length_map]; exact big _ (by omega))
    · have e1 : ((m + 1 : Nat) : Int) - 1 = (m : Int) := by omega
      rw [e1]
    · rw [parOf_self]
      rfl
  · subst hv
    have hq' : DqAll K H' vs (((ppl n).map (firstV n ps m g)).map PyData.int) := by
      rw [efs]
      exact hq
    exact .lst e hq'
  · refine dss_rt (ds_ret (de_is (de_tupleL (de_lc (W := W) (ρ := ρ1.set 4 (some (.d (lstD ((ppl n).map (firstV n ps m g)))))) 6 (ppl n) (fun k => .d (.int k)) (fun p => decide (firstV n ps m g p = maxI ((ppl n).map (firstV n ps m g)))) (fun k => .int k)
      (di_is (di_range1 (n := n) (de_ixT 0 (de_var 0 rfl) de_int rfl rfl) mr (by omega) (by omega)) (range_ppl n)) (by rw [ppl_len]; exact big n (by omega)) (fun _ _ => by simp [noL]) scBest.nd (blkOk_by (N := nBest) (sc := defScope sBest) (by decide +kernel))
      (fun s H C cl fp k hk => dts_one (dt_eqI (de_ixL k.toNat (de_var 4 rfl) (de_var 6 rfl) (ppl_get hk).2 ?_) (de_maxL (ns := (ppl n).map (firstV n ps m g)) (de_var 4 rfl) (by rw [List.length_map, ppl_len]; omega) mm)))
      (fun s H C cl fp k _ _ => de_var 6 rfl)) mt) rfl))
    rw [List.getElem?_map, List.getElem?_map, (ppl_get hk).1]
    rfl
end
end FK
set_option Elab.async false
set_option linter.all false
set_option maxRecDepth 100000
set_option maxHeartbeats 2000000
/-! with_foes -/
namespace FK
open PySem PySem.Spec PyProof.Rows L2

theorem dedI_app : ∀ (a b acc : List Int), dedI acc (a ++ b) = dedI (dedI acc a) b
  | [], _, _ => rfl
  | x :: r, b, acc => by
    show dedI (if x ∈ acc then acc else acc ++ [x]) (r ++ b) = dedI (dedI (if x ∈ acc then acc else acc ++ [x]) r) b
    exact dedI_app r b _
section
variable {X : Cx} {W : Wd} {ρ ρ1 : Rho} {C0 C1 : HO → Hp → Prop} {st0 st : Stmt} {rest : List Stmt} {tr : TS}
/-- y = {k: True for x in it}, on a row of its own -/
theorem ps_setDc {i : Nat} {y : Str} {py : Pos} {kx vx tg iter : Expr} {ifs : List Expr} {scope : Scope} {own : List (Str × Nat)} {pos spos : Pos} {wi : TI} {g : TG} {tt : TT} {tk tv : TE} (hc : X.calm = true) (hN : X.N.Nodup) (hy : X.N[i]? = some y) (hyl : X.env.scope.names.lookup y = some .local)
    (hsw : swapsWith (.DictComp kx vx [⟨tg, iter, ifs, 0⟩] scope pos) (some (.Name y py)) spos.line X.env = pure true) (hi : PI X tg iter wi) (ok : BlkOk X.N X.env.scope scope own)
    (hg : ∀ (s : Shared) (H : Hp) (C : Addr) (cl : List (Str × Addr)) (fp : List Addr), PG (X.blk s H scope (compEnvC scope cl C X.env) fp) tg g) (ht : ∀ (s : Shared) (H : Hp) (C : Addr) (cl : List (Str × Addr)) (fp : List Addr), PTs (X.blk s H scope (compEnvC scope cl C X.env) fp) ifs tt)
    (hk : ∀ (s : Shared) (H : Hp) (C : Addr) (cl : List (Str × Addr)) (fp : List Addr), PE (X.blk s H scope (compEnvC scope cl C X.env) fp) kx tk) (he : ∀ (s : Shared) (H : Hp) (C : Addr) (cl : List (Str × Addr)) (fp : List Addr), PE (X.blk s H scope (compEnvC scope cl C X.env) fp) vx tv)
    (hs : ∀ x, foldedSetIterable iter X.env x = pure x := by intro _; rfl) :
    PS X (.Assign [.Name y py] (.DictComp kx vx [⟨tg, iter, ifs, 0⟩] scope pos) spos) (tAsg (tDc wi g tt tk tv (own.map (·.2))) (gName i)) := by
  refine ⟨fun pins s σ H D I h => ?_⟩
  rw [exec_Assign_Name_used _ _ _ _ hsw]
  refine wpAny_bind (wpAny_standAt (wpAny_bind ?_))
  show wpAny _ X.A (do let _ ← comprehension (.DictComp kx vx [⟨tg, iter, ifs, 0⟩] scope pos) scope X.env (firstIterPos [⟨tg, iter, ifs, 0⟩] pos) newDict false (eval iter X.env) (some (assign (.Name y py) X.env))) _ _ s
  have h2 : tDc wi g tt tk tv (own.map (·.2)) σ H (fun x H1 => gName i x σ H1 D.nx) := h
  refine wpAny_bind (thn (dc_core (Qf := fun _ s' => SP X pins D .next s') hc hN I hi ok hg ht hk he hs h2 fun L C s' m H' I' q hn f => ?_) fun _ s' hq => wpAny_pure (wpAny_pure hq))
  show wpAny _ _ (assign (.Name y py) X.env (.ref L)) _ _ _
  refine wpAny_assign_Name (store_ok2 (v := V.ref L) I' hN hy (.inl hyl) rfl (fun s2 I2 ⟨a, sb, ha⟩ => ?_) (.inr hyl))
  obtain ⟨g0, g1, g2, g3, g4, g5⟩ := f
  have hCa : C ≠ a := by
    rcases ha with z | z
    · rw [z]
      exact g1
    · exact fun e => g4 y a z e.symm
  exact ⟨m, hn.sameBut sb hCa, fun h3 sb3 => ⟨_, H', I2.turned (t' := s2.toks) (fun b o hb e => (sb3.2 b hb).trans e) g0 g1 g3 g4 g5, q⟩⟩
theorem swd_true {kx vx : Expr} {gs : List Comprehension} {scope : Scope} {pos py : Pos} {y : Str} {l : Nat} {env : Env} (hk : env.scope.kind = .function) (hy : env.scope.names.lookup y = some .local) (hl : (py.line == pos.line) = true)
    (ha : (scope.names.any fun (n, k) => n == y && (k == .local || k == .cell)) = false) : swapsWith (.DictComp kx vx gs scope pos) (some (.Name y py)) l env = pure true := by
  have e1 : env.kindOf y = some .local := hy
  have e2 : env.blockKind = .function := by
    unfold Env.blockKind
    rw [hk]
    rfl
  unfold swapsWith
  simp only [e2, e1, ha, Expr.pos, hl]
  rfl
/-- {x: True for x in xs}: a new dict -/
theorem dc_read {K : PySem.W.Frag} {wi : TI} (xs : List Int) (k : Nat) (hl : xs.length < sizeLine) (hw : ∀ σ H R, W.J H → SlOk K H σ ρ → (∀ J H', Ex W H H' → W.J H' → ItOk K W J (xs.map fun x => .d (.int x)) H' → R J H') → wi σ H R) :
    ∀ σ H Q, (W.J H ∧ SlOk K H σ ρ ∧ ∀ l H1 H2 kvs, Ex W H H1 → H1 l = none → Ex W H1 H2 → W.J H2 → H2 l = some (.dK kvs) → kvs.map (·.1) = (dedI [] xs).map Sum.inl → Q (.ref l) H2) →
      tDc wi (gName k) (fun σ H Q => ∃ x, x ∈ xs ∧ tT K W (ρ.set k (some (.d (.int x)))) true σ H Q) (fun σ H Q => ∃ x, x ∈ xs ∧ tE K W (ρ.set k (some (.d (.int x)))) (.d (.int x)) σ H Q) (fun σ H Q => ∃ x, x ∈ xs ∧ tE K W (ρ.set k (some (.d (.int x)))) (.d (.bool true)) σ H Q) [k] σ H Q := by
  rintro σ H Q ⟨j, s, q⟩
  refine hw σ H _ j s fun J H1 x1 j1 ok D hD => ?_
  have sw : SlOk K H1 (wipe σ [k]) (ρ.set k none) := (s.mono x1).wipe k
  refine ⟨fun i m H' => m = xs.length - i ∧ i ≤ xs.length ∧ Ex W H1 H' ∧ W.J H' ∧ ∃ kvs, H' D = some (.dK kvs) ∧ kvs.map (·.1) = (dedI [] (xs.take i)).map Sum.inl, ⟨xs.length, by simp, Nat.zero_le _, Ex.new hD, W.jal _ _ _ hD j1, [], upd_same, rfl⟩, ?_⟩
  rintro i m H' ⟨rfl, hle, x2, j2, kvs, hk1, hk2⟩
  obtain ⟨ok1, ok2, ok3⟩ := ok H' x2
  rw [List.length_map] at ok1 ok3
  by_cases hlt : i < xs.length
  · obtain ⟨et, ex⟩ := take_next hlt
    have hmem : xs[i] ∈ xs := List.getElem_mem hlt
    refine .inr ⟨ok1 i hlt, fun H3 => Ex W H1 H3 ∧ W.J H3 ∧ ∃ kvs, H3 D = some (.dK kvs) ∧ kvs.map (·.1) = (dedI [] (xs.take (i + 1))).map Sum.inl, fun H3 ⟨x3, j3, a3⟩ => ⟨xs.length - (i + 1), by omega, rfl, hlt, x3, j3, a3⟩, fun v H3 hy => ?_⟩
    obtain ⟨rfl, r⟩ := ok2 i (.d (.int xs[i])) v H3 (by rw [List.getElem?_map, List.getElem?_eq_getElem hlt]; rfl) hy
    have hset : ∀ v : Option V, wipe ((wipe σ [k]).set k v) [k] = wipe σ [k] := fun v => by
      show ((σ.set k none).set k v).set k none = σ.set k none
      rw [List.set_set, List.set_set]
    have s3 : SlOk K H3 ((wipe σ [k]).set k (some v)) (ρ.set k (some (.d (.int xs[i])))) := by
      have z := (sw.mono x2).set k r
      rw [List.set_set] at z
      exact z
    refine ⟨hset _, xs[i], hmem, j2, s3, fun H4 x4 j4 => ?_⟩
    refine iteT ?_
    refine ⟨xs[i], hmem, j4, s3.mono x4, fun y H5 x5 j5 r5 => ⟨xs[i], hmem, j5, (s3.mono x4).mono x5, fun z H6 x6 j6 r6 => ?_⟩⟩
    have hD6 : H6 D = some (.dK kvs) := (x4.trans (x5.trans x6)) D _ hk1 (W.mdk _ _)
    have hkl : kvs.length = (dedI [] (xs.take i)).length := by
      have := congrArg List.length hk2
      simpa using this
    have hdl := dedI_len (xs.take i) []
    rw [List.length_take] at hdl
    have y5 : y = .int xs[i] := dp_int r5
    refine ⟨kvs, .inl xs[i], y5, hD6, by rw [hkl]; simp at hdl; omega, (Ex.mut ((x2.trans x4).trans (x5.trans x6)) hD), W.jdk _ _ _ _ hD6 j6, _, upd_same, ?_⟩
    rw [put_keys hk2, et, dedI_app]
  · have e : i = xs.length := by omega
    subst e
    rw [List.take_length] at hk2
    exact .inl ⟨ok3, q D H1 H' kvs x1 hD x2 j2 hk1 hk2⟩
/-- y = {x: True for x in xs} -/
theorem ps_newkeys (i k : Nat) {n y : Str} {pn py p1 p2 pos spos : Pos} {j0 : Nat} {it : Expr} {scope : Scope} (xs : List Int) (hi : DI X W ρ (.Name n pn) it (xs.map fun x => .d (.int x))) (hl : xs.length < sizeLine) (hN : X.N.Nodup) (ok : BlkOk X.N X.env.scope scope [(n, k)])
    (hsw : swapsWith (.DictComp (.Name n p1) (.Constant (.bool true) j0 p2) [⟨.Name n pn, it, [], 0⟩] scope pos) (some (.Name y py)) spos.line X.env = pure true) (hkx : ∀ s H C cl fp x, DE (Blk X s H scope C cl fp) W (ρ.set k (some (.d (.int x)))) (.Name n p1) (.d (.int x)))
    (hy : X.N[i]? = some y := by rfl) (hyl : X.env.scope.names.lookup y = some .local := by rfl)
    (hk : X.N[k]? = some n := by rfl) (hx : ∀ cl C, Loc (compEnvC scope cl C X.env).scope n := by intro _ _; first | exact Or.inl rfl | exact Or.inr rfl) (hf : ∀ cl C, (scope.names.lookup n == some NameKind.cell) = true ∨ (compEnvC scope cl C X.env).scope.names.lookup n = some .local := by intro _ _; first | exact .inl rfl | exact .inr rfl)
    (hc : X.calm = true := by rfl) (hs : ∀ x, foldedSetIterable it X.env x = pure x := by intro _; rfl) :
    PS X (.Assign [.Name y py] (.DictComp (.Name n p1) (.Constant (.bool true) j0 p2) [⟨.Name n pn, it, [], 0⟩] scope pos) spos)
      (fun D σ H => W.J H ∧ SlOk X.K H σ ρ ∧ ∀ l H1 H2 ob, Ex W H H1 → H1 l = none → Ex W H1 H2 → W.J H2 → H2 l = some ob → Bld ob → Cd (dedI [] xs) ob H2 → D.nx (σ.set i (some (.ref l))) H2) := by
  obtain ⟨wi, pi, hw⟩ := hi
  refine ps_imp (ps_setDc (i := i) (own := [(n, k)]) (g := gName k) hc hN hy hyl hsw pi ok (fun s H C cl fp => pg_name (X := Blk X s H scope C cl fp) (i := k) hN hk (hx cl C) (hf cl C)) (fun s H C cl fp => pts_all (A := Int) (C := fun x => x ∈ xs) (t := fun x => tT X.K W (ρ.set k (some (.d (.int x)))) true) fun x m => dts_nil)
    (fun s H C cl fp => pe_all (A := Int) (C := fun x => x ∈ xs) (t := fun x => tE X.K W (ρ.set k (some (.d (.int x)))) (.d (.int x))) fun x m => hkx s H C cl fp x) (fun s H C cl fp => pe_all (A := Int) (C := fun x => x ∈ xs) (t := fun x => tE X.K W (ρ.set k (some (.d (.int x)))) (.d (.bool true))) fun x m => de_bl) hs) fun D σ H ⟨j, s, q⟩ => ?_
  exact dc_read xs k hl hw σ H _ ⟨j, s, fun l H1 H2 kvs x1 hl x2 j2 k1 k2 => q l H1 H2 (.dK kvs) x1 hl x2 j2 k1 (.inr ⟨_, rfl⟩) ⟨kvs, rfl, k2⟩⟩
/-- {x: True for x in xs} as a value -/
theorem de_keys (k : Nat) {n : Str} {pn p1 p2 pos : Pos} {j0 : Nat} {it : Expr} {scope : Scope} (xs : List Int) (hi : DI X W ρ (.Name n pn) it (xs.map fun x => .d (.int x))) (hl : xs.length < sizeLine) (hN : X.N.Nodup) (ok : BlkOk X.N X.env.scope scope [(n, k)])
    (hkx : ∀ s H C cl fp x, DE (Blk X s H scope C cl fp) W (ρ.set k (some (.d (.int x)))) (.Name n p1) (.d (.int x)))
    (hk : X.N[k]? = some n := by rfl) (hx : ∀ cl C, Loc (compEnvC scope cl C X.env).scope n := by intro _ _; first | exact Or.inl rfl | exact Or.inr rfl) (hf : ∀ cl C, (scope.names.lookup n == some NameKind.cell) = true ∨ (compEnvC scope cl C X.env).scope.names.lookup n = some .local := by intro _ _; first | exact .inl rfl | exact .inr rfl)
    (hc : X.calm = true := by rfl) (hs : ∀ x, foldedSetIterable it X.env x = pure x := by intro _; rfl) :
    DE X W ρ (.DictComp (.Name n p1) (.Constant (.bool true) j0 p2) [⟨.Name n pn, it, [], 0⟩] scope pos) (.k (dedI [] xs)) := by
  obtain ⟨wi, pi, hw⟩ := hi
  refine pe_imp (pe_dc (own := [(n, k)]) (g := gName k) hc hN pi ok (fun s H C cl fp => pg_name (X := Blk X s H scope C cl fp) (i := k) hN hk (hx cl C) (hf cl C)) (fun s H C cl fp => pts_all (A := Int) (C := fun x => x ∈ xs) (t := fun x => tT X.K W (ρ.set k (some (.d (.int x)))) true) fun x m => dts_nil)
    (fun s H C cl fp => pe_all (A := Int) (C := fun x => x ∈ xs) (t := fun x => tE X.K W (ρ.set k (some (.d (.int x)))) (.d (.int x))) fun x m => hkx s H C cl fp x) (fun s H C cl fp => pe_all (A := Int) (C := fun x => x ∈ xs) (t := fun x => tE X.K W (ρ.set k (some (.d (.int x)))) (.d (.bool true))) fun x m => de_bl) hs) fun σ H Q ⟨j, s, q⟩ => ?_
  exact dc_read xs k hl hw σ H _ ⟨j, s, fun l H1 H2 kvs x1 hl x2 j2 k1 k2 => q _ H2 (x1.trans x2) j2 ⟨l, kvs, rfl, k1, k2⟩⟩
/-- st0 lays a new object into slot i; st builds it up; rest -/
theorem pss_newobj {a : AV} (i : Nat)
    (h0 : PS X st0 (fun D σ H => W.J H ∧ SlOk X.K H σ ρ ∧ ∀ l H1 H2 ob, Ex W H H1 → H1 l = none → Ex W H1 H2 → W.J H2 → H2 l = some ob → Bld ob → C0 ob H2 → D.nx (σ.set i (some (.ref l))) H2))
    (h1 : ∀ l, MS X W l (ρ.set i (some (.r (.ref l)))) C0 st (ρ1.set i (some (.r (.ref l)))) C1) (ha : ∀ l ob H, H l = some ob → C1 ob H → AvOk X.K H (.ref l) a) (h2 : PSs X rest tr) (hlr : i < ρ1.length) :
    PSs X (st0 :: st :: rest) (fun D σ H => W.J H ∧ SlOk X.K H σ ρ ∧ ∀ σ' H', Ex W H H' → W.J H' → SlOk X.K H' σ' (ρ1.set i (some a)) → tr D σ' H') :=
  pss_imp (pss_cons h0 (pss_cons (ps_all' (C := fun _ => True) (t := fun l => tM X.K W l (ρ.set i (some (.r (.ref l)))) C0 (ρ1.set i (some (.r (.ref l)))) C1) fun l _ => h1 l) h2)) fun D σ H ⟨j, s, q⟩ => ⟨j, s, fun l H1 H2 ob x1 hl x2 j2 k1 k2 k3 => by
    refine ⟨l, trivial, j2, (s.mono (x1.trans x2)).set i rfl, ⟨ob, k1, k2, k3⟩, fun σ3 H3 x3 j3 s3 ⟨ob3, q1, q2, q3⟩ => ?_⟩
    have xx : Ex W H H3 := x1.trans (((ExB.of x2).trans x3).ex hl)
    obtain ⟨v, e1, r1⟩ : ∃ v, σ3[i]? = some (some v) ∧ AvOk X.K H3 v (.r (.ref l)) := s3.get i _ (by rw [List.getElem?_set_self hlr])
    obtain rfl : v = .ref l := r1
    refine q σ3 H3 xx j3 ⟨?_, fun i' b hb => ?_⟩
    · rw [s3.len, List.length_set, List.length_set]
    · by_cases hii : i = i'
      · subst hii
        rw [List.getElem?_set_self hlr] at hb
        cases hb
        exact ⟨_, e1, ha l ob3 H3 q1 q3⟩
      · rw [List.getElem?_set_ne hii] at hb
        exact s3.get i' b (by rw [List.getElem?_set_ne hii]; exact hb)⟩
end
section
variable {P : Program} {w : World} {K : PySem.W.Frag} {mg : Str → Option Value} {base : Heap} {W : Wd}
/-- a person's foes -/
def foesI (n : Nat) (ps : List (Int × Int)) (p : Int) : List Int := (ppl n).filter fun k => foe ps p k
def withF (n : Nat) (ps : List (Int × Int)) (g : List Int) : List Int := norm (g ++ g.flatMap (foesI n ps))
theorem foesI_len (n : Nat) (ps : List (Int × Int)) (p : Int) : (foesI n ps p).length ≤ n := by
  unfold foesI
  refine Nat.le_trans (List.length_filter_le _ _) (by rw [ppl_len]; exact Nat.le_refl _)
theorem flat_len (n : Nat) (ps : List (Int × Int)) : ∀ g : List Int, (g.flatMap (foesI n ps)).length ≤ g.length * n
  | [] => by simp
  | x :: r => by
    rw [List.flatMap_cons, List.length_append, List.length_cons]
    have h1 := foesI_len n ps x
    have h2 := flat_len n ps r
    rw [Nat.add_mul, Nat.one_mul]
    omega
abbrev sWith : Stmt := topS 24
abbrev nWith : List Str := ["web", "people", "person", "found", "other"]
theorem scWith : FnScope nWith ["web", "people"] (defScope sWith) := ⟨rfl, rfl, rfl, by decide +kernel, rfl, by decide +kernel, by decide +kernel⟩
def FWith : Rel := fun as r => ∃ (n : Nat) (ps : List (Int × Int)) (g : List Int), n ≤ 7 ∧ g.length < 60 ∧ (∀ x ∈ g, x ∈ ppl n) ∧ as = [.d (webD n ps), .d (tupD g)] ∧ r = .d (tupD (withF n ps g))
theorem ok_with {f : Addr} {fd : FuncData} (F : Fun K "with_foes" "with_foes" sWith f fd) (mt : mg "tuple" = none) (ms : mg "sorted" = none) (CF : Callee P w K mg base "foes" 2 2 W FFoes) :
    FnOk P w K mg base CX0 3 f fd ["web", "people"] (avSp K W 2 FWith) := by
  refine av_def (k := 2) F scWith fun cdv A outer s H hr as r hl hF => ?_
  obtain ⟨n, ps, g, hn, hg, hin, rfl, rfl⟩ := hF
  let Xc := (cxOf CX0 P w K mg base nWith "with_foes" (defScope sWith) f cdv A outer s H E0).nox
  let ρ0 : Rho := [some (.d (webD n ps)), some (.d (tupD g)), none, none, none]
  let ks : List Int := dedI (dedI [] g) (g.flatMap (foesI n ps))
  have hks : ks = dedI [] (g ++ g.flatMap (foesI n ps)) := (dedI_app _ _ _).symm
  have hk64 : ks.length < 64 := by
    have h1 := nodup_sub ks (ppl n) (by rw [hks]; exact dedI_nodup _ _ List.nodup_nil) fun x hx => by
      rw [hks, dedI_mem] at hx
      rcases hx with z | z
      · cases z
      · rcases List.mem_append.mp z with z | z
        · exact hin x z
        · obtain ⟨y, _, hy⟩ := List.mem_flatMap.mp z
          exact (List.mem_filter.mp hy).1
    rw [ppl_len] at h1
    omega
  refine ⟨.rt (.d (tupD (withF n ps g))), ?_, rfl⟩
  refine pss_imp (pss_newobj (X := Xc) (W := W) (ρ := ρ0) (ρ1 := ρ0) (C0 := Cd (dedI [] g)) (C1 := Cd ks) (a := .k ks) (tr := tS K W (ρ0.set 3 (some (.k ks))) (.rt (.d (tupD (withF n ps g))))) 3 ?_ (fun l => ?_) (fun l ob H' e ⟨kvs, hv, hq⟩ => ?_) ?_ (by show 3 < 5; decide)) fun D σ H' ⟨j, sl, q⟩ => ⟨j, sl, fun σ2 H2 x2 j2 s2 => ⟨j2, s2, fun v H3 x3 j3 r3 => q v H3 (x2.trans x3) j3 r3⟩⟩
  · exact ps_newkeys 3 2 g (di_is (di_tup (de_var 1 rfl)) (map_avs g).symm) (big _ (by omega)) scWith.nd (blkOk_by (N := nWith) (sc := defScope sWith) (by decide +kernel)) (swd_true rfl rfl rfl (by decide +kernel)) fun s H C cl fp x => de_var 2 rfl
  · let ρl : Rho := [some (.d (webD n ps)), some (.d (tupD g)), none, some (.r (.ref l)), none]
    have hst0 : RStb ρl := .d (noL_web n ps) (.d (noL_ints g) (.non (.r (.non .nil))))
    have hst1 : ∀ p : Int, RStb (ρl.set 2 (some (.d (.int p)))) := fun p => .d (noL_web n ps) (.d (noL_ints g) (.d rfl (.r (.non .nil))))
    have hst2 : ∀ p q : Int, RStb ((ρl.set 2 (some (.d (.int p)))).set 4 (some (.d (.int q)))) := fun p q => .d (noL_web n ps) (.d (noL_ints g) (.d rfl (.r (.d rfl .nil))))
    refine ms_for (D0 := fun _ => True) 2 g (fun k => .d (.int k)) ρl (fun pre => Cd (dedI (dedI [] g) (pre.flatMap (foesI n ps)))) scWith.nd owns (dib_is (dib_tup (de_var 1 rfl) (noLs_ints g)) (map_avs g).symm) hst0 (RLe.refl _) (fun _ _ _ => trivial) (fun pre => cd_st) (fun ob H h => h) fun pre x post e => ?_
    have hpre : pre.length < g.length := by
      have := congrArg List.length e
      rw [List.length_append, List.length_cons] at this
      omega
    have hx : x ∈ ppl n := hin x (by rw [e]; exact List.mem_append_right _ List.mem_cons_self)
    refine mss_to (RLe.drop (ρl.set 2 (some (.d (.int x)))) 2) (mss_one ?_)
    rw [List.flatMap_append, List.flatMap_cons, List.flatMap_nil, List.append_nil, dedI_app]
    refine ms_for (D0 := fun ob => ∃ kvs, ob = .dK kvs) 4 (foesI n ps x) (fun k => .d (.int k)) (ρl.set 2 (some (.d (.int x)))) (fun pre2 => Cd (dedI (dedI (dedI [] g) (pre.flatMap (foesI n ps))) pre2)) scWith.nd owns (dib_is (dib_list (de_call CF (Sub.refl _) (hr.mono (by decide)) (da_cons (de_var 0 rfl) (da_cons (de_var 2 rfl) da_nil)) ⟨n, ps, x, by omega, rfl, rfl⟩) (noLs_ints _)) (map_avs _).symm) (hst1 x) (RLe.refl _) (fun ob H ⟨kvs, h, _⟩ => ⟨kvs, h⟩) (fun pre => cd_st) (fun ob H h => h) fun pre2 y post2 e2 => ?_
    have hpre2 : pre2.length ≤ n := by
      have := congrArg List.length e2
      rw [List.length_append, List.length_cons] at this
      have h3 := foesI_len n ps x
      omega
    refine mss_to (RLe.drop ((ρl.set 2 (some (.d (.int x)))).set 4 (some (.d (.int y)))) 4) (mss_one ?_)
    rw [dedI_app _ [y]]
    refine ms_put 3 rfl (de_var 4 rfl) (hst2 x y) (hu_of hr) (big _ ?_)
    have l1 := dedI_len pre2 (dedI (dedI [] g) (pre.flatMap (foesI n ps)))
    have l2 := dedI_len (pre.flatMap (foesI n ps)) (dedI [] g)
    have l3 := dedI_len g []
    have l4 := flat_len n ps pre
    have l5 : pre.length * n ≤ 60 * 7 := Nat.mul_le_mul (by omega) hn
    simp only [List.length_nil] at l3
    omega
  · exact ⟨l, kvs, rfl, by rw [e, hv], hq⟩
  · refine dss_rt (ds_ret (de_is (de_tupleL (de_sortedD (ks := ks) (de_var 3 rfl) hk64 ms) mt) ?_))
    rw [hks]
    rfl

/-! ### forces -/
/-- the people gone behind a coming -/
def goneI (n : Nat) (ps : List (Int × Int)) (g : List Int) (p : Int) : List Int := norm (g ++ withF n ps [p])
def fw (n : Nat) (ps : List (Int × Int)) : Nat → Bool → List Int → Bool
  | 0, _, g => decide (g.length = n)
  | m + 1, b, g => if g.length = n then true else if b = true then ((ppl n).map fun p => fw n ps m (!b) (goneI n ps g p)).any id else ((ppl n).map fun p => fw n ps m (!b) (goneI n ps g p)).all id
theorem foesI_ppl {n : Nat} {ps : List (Int × Int)} {p x : Int} (h : x ∈ foesI n ps p) : x ∈ ppl n := (List.mem_filter.mp h).1
theorem withF_ppl {n : Nat} {ps : List (Int × Int)} {g : List Int} (h : ∀ x ∈ g, x ∈ ppl n) : ∀ x ∈ withF n ps g, x ∈ ppl n := fun x hx => by
  rw [withF, norm_mem] at hx
  rcases List.mem_append.mp hx with z | z
  · exact h x z
  · obtain ⟨y, _, hy⟩ := List.mem_flatMap.mp z
    exact foesI_ppl hy
theorem gone_lot {n : Nat} {ps : List (Int × Int)} {g : List Int} {p : Int} (hn : n ≤ 50) (h : LotOk n g) (hp : p ∈ ppl n) : LotOk n (goneI n ps g p) := by
  refine lot_of hn (fun x hx => ?_) (norm_up _)
  rw [goneI, norm_mem] at hx
  rcases List.mem_append.mp hx with z | z
  · exact h.lo x z
  · exact mem_ppl.mp (withF_ppl (fun y hy => by rw [List.mem_singleton] at hy; rw [hy]; exact hp) x z)
abbrev sForces : Stmt := topS 27
abbrev nForces : List Str := ["web", "gone", "many", "is_first", "known", "key", "some", "person", "there", "one"]
abbrev pForces : List Str := ["web", "gone", "many", "is_first", "known"]
theorem scForces : FnScope nForces pForces (defScope sForces) := ⟨rfl, rfl, rfl, by decide +kernel, rfl, by decide +kernel, by decide +kernel⟩
def miF (n : Nat) (ps : List (Int × Int)) (par : Nat → Bool) (d : Addr) : Mi := ⟨d, fun g m => .bl (fw n ps m.toNat (par m.toNat) g), keysU n, []⟩
def FForces (n : Nat) (ps : List (Int × Int)) (par : Nat → Bool) (d : Addr) (m : Nat) : Rel := fun as r => ∃ g : List Int, LotOk n g ∧
  as = [.d (webD n ps), .d (tupD g), .d (.int m), .d (.bool (par m)), .r (.ref d)] ∧ r = .d (.bool (fw n ps m (par m) g))
variable {TG : List Addr} {TL : List (Addr × Str)}
theorem ok_forces {ff : Addr} {fd : FuncData} {n : Nat} {ps : List (Int × Int)} {par : Nat → Bool} {d : Addr} (Fn : Fun K "forces" "forces" sForces ff fd) (hb : Binds K fd pForces []) (hw : mg "forces" = some (.ref ff))
    (ml : mg "len" = none) (mr : mg "range" = none) (mt : mg "tuple" = none) (ms : mg "sorted" = none) (ma : mg "any" = none) (mall : mg "all" = none) (CF : Callee P w K mg base "with_foes" 2 3 (W0 TG TL) FWith) (h1 : 1 ≤ n) (h7 : n ≤ 7) (hpar : ∀ m, par (m + 1) = !par m) :
    ∀ m : Nat, m ≤ 8 → FnOk P w K mg base CX0 (m + 4) ff fd pForces (avSp K (Wm P w K TG TL (miF n ps par d) none) 5 (FForces n ps par d m)) := by
  intro m
  induction m with
  | zero =>
    intro _
    refine av_def (k := 3) Fn scForces fun cdv A outer s H hr as r hl hF => ?_
    obtain ⟨g, hg, rfl, rfl⟩ := hF
    refine ⟨.rt (.d (.bool (decide (g.length = n)))), dss_rt (ds_if (b := true) (dt_is (x := decide ((((g.map PyData.int).length : Nat) : Int) = (n : Int)) || true) (dt_w (dw_or (dt_eqI (de_lenT (de_var 1 rfl) ml) (de_ixT 0 (de_var 0 rfl) de_int rfl rfl)) fun _ => dw_or1 (dt_is (dt_eqI (de_var 2 rfl) de_int) (by decide)))) (Bool.or_true _)) (fun _ => dss_rt (ds_ret (de_is (de_eqI (de_lenT (de_var 1 rfl) ml) (de_ixT 0 (de_var 0 rfl) de_int rfl rfl)) ?_))) fun z => by cases z), rfl⟩
    have elen : decide ((((g.map PyData.int).length : Nat) : Int) = (n : Int)) = decide (g.length = n) := by
      rw [List.length_map, Bool.eq_iff_iff, decide_eq_true_eq, decide_eq_true_eq]
      omega
    rw [elen]
  | succ m ih =>
    intro hm8
    have CW : Callee P w K mg base "forces" 5 (m + 4) (Wm P w K TG TL (miF n ps par d) none) (FForces n ps par d m) := callee_of hw Fn hb rfl (ih (by omega))
    refine av_def (k := m + 4) Fn scForces fun cdv A outer s H hr as r hl hF => ?_
    obtain ⟨g, hg, rfl, rfl⟩ := hF
    have hgl := hg.len
    have hU := keysU_mem (m := m + 1) hg hm8
    have hUl := keysU_len (n := n) h7
    have hub := room65 hr
    let Xc := (cxOf CX0 P w K mg base nForces "forces" (defScope sForces) ff cdv A outer s H E0).nox
    let W' := Wm P w K TG TL (miF n ps par d) none
    have epar : ((m + 1 : Nat) : Int).toNat = m + 1 := Int.toNat_natCast _
    have efv : (miF n ps par d).fv g ((m + 1 : Nat) : Int) = .bl (fw n ps (m + 1) (par (m + 1)) g) := by
      show V.bl (fw n ps (((m + 1 : Nat) : Int)).toNat (par (((m + 1 : Nat) : Int)).toNat) g) = _
      rw [epar]
    have elen : decide ((((g.map PyData.int).length : Nat) : Int) = (n : Int)) = decide (g.length = n) := by
      rw [List.length_map, Bool.eq_iff_iff, decide_eq_true_eq, decide_eq_true_eq]
      omega
    refine ⟨.rt (.d (.bool (fw n ps (m + 1) (par (m + 1)) g))), ?_, rfl⟩
    by_cases hgn : g.length = n
    · have hfw : fw n ps (m + 1) (par (m + 1)) g = true := by
        show (if g.length = n then true else _) = true
        rw [if_pos hgn]
      rw [hfw]
      have dl : ∀ {e : Expr} {p q0 q1 q2 q3 : Pos} {j : Nat}, True := trivial
      refine dss_rt (ds_if (b := true) (dt_is (x := true || false) (dt_w (dw_or (x := true) (dt_is (dt_eqI (de_lenT (de_var 1 rfl) ml) (de_ixT 0 (de_var 0 rfl) de_int rfl rfl)) (by rw [elen]; exact decide_eq_true hgn)) fun z => by cases z)) rfl) (fun _ => dss_rt (ds_ret (de_is (de_eqI (de_lenT (de_var 1 rfl) ml) (de_ixT 0 (de_var 0 rfl) de_int rfl rfl)) ?_))) fun z => by cases z)
      rw [elen, decide_eq_true hgn]
    · have hfw : fw n ps (m + 1) (par (m + 1)) g = (if par (m + 1) = true then ((ppl n).map fun p => fw n ps m (!par (m + 1)) (goneI n ps g p)).any id else ((ppl n).map fun p => fw n ps m (!par (m + 1)) (goneI n ps g p)).all id) := by
        show (if g.length = n then true else _) = _
        rw [if_neg hgn]
      refine dss_cons (ds_no (dt_w (dw_or (x := false) (y := false) (dt_is (dt_eqI (de_lenT (de_var 1 rfl) ml) (de_ixT 0 (de_var 0 rfl) de_int rfl rfl)) (by rw [elen]; exact decide_eq_false hgn)) fun _ => dw_or1 (dt_is (dt_eqI (de_var 2 rfl) de_int) (decide_eq_false (by omega)))))) (dss_cons (ds_set 5 (a := .d (keyD g ((m + 1 : Nat) : Int))) (de_tup (ds := [tupD g, .int ((m + 1 : Nat) : Int)]) (da_cons (de_var 1 rfl) (da_cons (de_var 2 rfl) da_nil)) (bigL 2 (by decide))) scForces.nd) ?_)
      refine dss_memo (X := Xc) (g := g) (m := ((m + 1 : Nat) : Int)) (x := .bool (fw n ps (m + 1) (par (m + 1)) g)) (i := miF n ps par d) ?_ (fun K' H' => ?_) ?_ ?_ ?_ ?_ ?_ ?_ ?_
      · exact hub
      · rw [efv]
        exact .bl _
      · exact de_var 4 rfl
      · exact de_var 5 rfl
      · exact de_var 4 rfl
      · exact de_var 5 rfl
      · let fs : Int → Bool := fun p => fw n ps m (par m) (goneI n ps g p)
        let ρ0 : Rho := [some (.d (webD n ps)), some (.d (tupD g)), some (.d (.int ((m + 1 : Nat) : Int))), some (.d (.bool (par (m + 1)))), some (.r (.ref d)), some (.d (keyD g ((m + 1 : Nat) : Int))), none, none, none, none]
        let ρ1 : Rho := ρ0.set 6 (some (.d (.list (((ppl n).map fs).map .bool))))
        have ebool : ((ppl n).map fs).map PyData.bool = (ppl n).map fun p => PyData.bool (fs p) := by rw [List.map_map]; rfl
        have e3 : par m = !par (m + 1) := by rw [hpar, Bool.not_not]
        refine pss_imp (pss_newlist (X := Xc) (W := W') (ρ := ρ0) (ρ1 := ρ0) (C1 := Cl K ((ppl n).map fun p => PyData.bool (fs p))) (a := .d (.list (((ppl n).map fs).map .bool))) 6 scForces.nd (fun l => ?_) (fun l ob H' e ⟨vs, hv, hq⟩ => ?_) (pss_one (ps_memput (X := Xc) (TG := TG) (TL := TL) (i := miF n ps par d) (g := g) (m := ((m + 1 : Nat) : Int)) (ρ := ρ1) (x := .bool (fw n ps (m + 1) (par (m + 1)) g)) ?_ ?_ ?_ ?_ ?_ hU ?_ ?_)) (hlr := by show 6 < 10; decide)) ?_
        · let ρl : Rho := [some (.d (webD n ps)), some (.d (tupD g)), some (.d (.int ((m + 1 : Nat) : Int))), some (.d (.bool (par (m + 1)))), some (.r (.ref d)), some (.d (keyD g ((m + 1 : Nat) : Int))), some (.r (.ref l)), none, none, none]
          have hst0 : RStb ρl := .d (noL_web n ps) (.d (noL_ints g) (.d rfl (.d rfl (.r (.d (noL_key g _) (.r (.non (.non (.non .nil)))))))))
          have hst1 : ∀ (p : Int) (t : List Int), RStb ((ρl.set 7 (some (.d (.int p)))).set 8 (some (.d (tupD t)))) := fun p t => .d (noL_web n ps) (.d (noL_ints g) (.d rfl (.d rfl (.r (.d (noL_key g _) (.r (.d rfl (.d (noL_ints t) (.non .nil)))))))))
          refine ms_for (D0 := fun _ => True) 7 (ppl n) (fun k => .d (.int k)) ρl (fun pre => Cl K (pre.map fun p => PyData.bool (fs p))) scForces.nd owns (dib_is (dib_range1 (n := n) (de_ixT 0 (de_var 0 rfl) de_int rfl rfl) mr (by omega) (by omega)) (range_ppl n)) hst0 (RLe.refl _) (fun _ _ _ => trivial) (fun pre => cl_st) (fun ob H h => h) fun pre x post e => ?_
          have hx : x ∈ ppl n := by rw [e]; exact List.mem_append_right _ List.mem_cons_self
          have hpre : pre.length ≤ n := by
            have := congrArg List.length e
            rw [ppl_len, List.length_append] at this
            omega
          have hin : ∀ y ∈ [x], y ∈ ppl n := fun y hy => by
            rw [List.mem_singleton] at hy
            rw [hy]
            exact hx
          let xs : List Int := g ++ withF n ps [x]
          have hxs : ∀ y ∈ xs, y ∈ ppl n := fun y hy => by
            rcases List.mem_append.mp hy with z | z
            · exact mem_ppl.mpr (hg.lo y z)
            · exact withF_ppl hin y z
          have hwl : (withF n ps [x]).length ≤ n := by
            have := nodup_sub (withF n ps [x]) (ppl n) (lt_nodup (norm_up _)) (withF_ppl hin)
            rwa [ppl_len] at this
          have hgl7 := hg.len7
          have hk64 : (dedI [] xs).length < 64 := by
            have := nodup_sub (dedI [] xs) (ppl n) (dedI_nodup _ _ List.nodup_nil) fun y hy => by
              rw [dedI_mem] at hy
              rcases hy with z | z
              · cases z
              · exact hxs y z
            rw [ppl_len] at this
            omega
          refine mss_to (ρ1 := (ρl.set 7 (some (.d (.int x)))).set 8 (some (.d (tupD (goneI n ps g x))))) ?_ (mss_cons (ms_of (ds_set 8 (a := .d (tupD (goneI n ps g x))) (de_tupleL (ds := (goneI n ps g x).map .int) (de_sortedD (ks := dedI [] xs) (de_keys 9 xs (di_is (di_tup (ds := xs.map .int) (de_is (de_tup (ds := (g.map .int) ++ ((withF n ps [x]).map .int ++ [])) ?_ (bigL _ ?_)) ?_)) (map_avs xs).symm) (big _ ?_) scForces.nd (blkOk_by (N := nForces) (sc := defScope sForces) (by decide +kernel)) fun s H C cl fp x => de_var 9 rfl) hk64 ms) mt) scForces.nd) cl_st) (mss_one ?_))
          · exact RLe.trans (RLe.of_eq rfl) (RLe.trans (RLe.set (RLe.drop (ρl.set 7 (some (.d (.int x)))) 7) 8 none) (RLe.drop ((ρl.set 7 (some (.d (.int x)))).set 8 (some (.d (tupD (goneI n ps g x))))) 8))
          · rw [List.map_append, List.map_append]
            exact da_starT (de_var 1 rfl) (da_starT (de_call CF sub_m (hr.mono (by omega)) (da_cons (de_var 0 rfl) (da_cons (de_tup (ds := [.int x]) (da_cons (de_var 7 rfl) da_nil) (bigL 1 (by decide))) da_nil)) ⟨n, ps, [x], h7, (by simp), hin, rfl, rfl⟩) da_nil)
          · rw [List.length_append, List.length_append, List.length_map, List.length_map]
            simp
            omega
          · rw [List.append_nil, ← List.map_append]
          · show (g ++ withF n ps [x]).length < 10000
            rw [List.length_append]
            omega
          · rw [List.map_append, List.map_cons, List.map_nil]
            refine ms_append 6 rfl (de_is (de_call CW (Sub.refl _) (hr.mono (by omega)) (da_cons (de_var 0 rfl) (da_cons (de_var 8 rfl) (da_cons (de_sub (de_var 2 rfl) de_int) (da_cons (de_not (de_var 3 rfl)) (da_cons (de_var 4 rfl) da_nil))))) (r := .d (.bool (fs x))) ⟨goneI n ps g x, gone_lot (by omega) hg hx, ?_, rfl⟩) rfl) (hst1 x _) rfl (noLs_of fun _ _ => rfl) (by rw [List.length_map]; exact big _ (by omega))
            have e1 : ((m + 1 : Nat) : Int) - 1 = (m : Int) := by omega
            rw [e1, ← e3]
        · subst hv
          rw [← ebool] at hq
          exact .lst e hq
        · exact hub
        · exact de_var 4 rfl
        · exact de_var 5 rfl
        · rw [hfw, ← e3]
          refine de_is (de_if (x := par (m + 1)) (a := .d (.bool (if par (m + 1) = true then ((ppl n).map fs).any id else ((ppl n).map fs).all id))) (dt_val (de_var 3 rfl)) (fun e => de_is (de_anyL (bs := (ppl n).map fs) (de_var 6 rfl) ma) ?_) (fun e => de_is (de_allL (bs := (ppl n).map fs) (de_var 6 rfl) mall) ?_)) rfl
          · rw [if_pos e]
          · rw [if_neg (by rw [e]; decide)]
        · intro K' H' v hv
          rw [efv]
          exact dp_bl hv
        · exact Nat.le_trans hUl (by decide)
        · rfl
        · rintro D σ H' ⟨j, sl, q⟩
          exact ⟨j, sl, fun σ2 H2 x2 j2 s2 => ⟨j2, s2, fun H3 x3 j3 s3 => q _ H3 (x2.trans x3) j3 (s3.le (RLe.drop ρ1 6))⟩⟩
      · rfl
      · exact fun _ _ => rfl

/-! ### can_force -/
abbrev sCanF : Stmt := topS 28
theorem scCanF : FnScope ["web", "many"] ["web", "many"] (defScope sCanF) := ⟨rfl, rfl, rfl, by decide +kernel, rfl, by decide +kernel, by decide +kernel⟩
def FCanF : Rel := fun as r => ∃ (n : Nat) (ps : List (Int × Int)) (m : Nat), WebOk n ps ∧ m ≤ 8 ∧ as = [.d (webD n ps), .d (.int m)] ∧ r = .d (.bool (fw n ps m true []))
theorem lot_nil (n : Nat) : LotOk n [] := ⟨(fun x hx => by cases hx), List.Pairwise.nil, by simp⟩
theorem gath_nil (n : Nat) (ps : List (Int × Int)) : GathOk n ps [] := ⟨lot_nil n, fun p _ h => by cases h.1⟩
theorem ok_can_force {f ff : Addr} {fd fdf : FuncData} (F : Fun K "can_force" "can_force" sCanF f fd) (mc : ∃ t, mg "MOST_CALLS_wishing" = some (.int 8 t)) (CG : Callee P w K mg base "need_gathering" 2 4 (W0 TG TL) FNeedGath) (CI : Callee P w K mg base "is_in" 3 1 (W0 TG TL) FIsIn)
    (Ff : Fun K "forces" "forces" sForces ff fdf) (hb : Binds K fdf pForces []) (hw : mg "forces" = some (.ref ff))
    (ml : mg "len" = none) (mr : mg "range" = none) (mt : mg "tuple" = none) (ms : mg "sorted" = none) (ma : mg "any" = none) (mall : mg "all" = none) (CF : Callee P w K mg base "with_foes" 2 3 (W0 TG TL) FWith) :
    FnOk P w K mg base CX0 13 f fd ["web", "many"] (avSp K (W0 TG TL) 2 FCanF) := by
  refine av_def (k := 12) F scCanF fun cdv A outer s H hr as r hl hF => ?_
  obtain ⟨n, ps, m, okw, hm8, rfl, rfl⟩ := hF
  obtain ⟨t, mc⟩ := mc
  let Xc := (cxOf CX0 P w K mg base ["web", "many"] "can_force" (defScope sCanF) f cdv A outer s H E0).nox
  let ρ0 : Rho := [some (.d (webD n ps)), some (.d (.int m))]
  refine ⟨.rt (.d (.bool (fw n ps m true []))), ?_, rfl⟩
  refine dss_cons (ds_expr (de_call CG (Sub.refl _) (hr.mono (by decide)) (da_cons (de_var 0 rfl) (da_cons (de_tup (ds := []) da_nil (bigL 0 (by decide))) da_nil)) ⟨n, ps, [], okw, gath_nil n ps, rfl, rfl⟩)) ?_
  refine dss_cons (ds_no (dt_is (dt_not (dt_val (de_call CI (Sub.refl _) (hr.mono (by decide)) (da_cons (de_var 1 rfl) (da_cons de_int (da_cons (de_gint mc) da_nil))) ⟨_, _, _, rfl, rfl⟩))) ?_)) (dss_rt (ds_ret ?_))
  · rw [decide_eq_true (by omega), decide_eq_true (by omega)]
    rfl
  have FA : FnOk P w K mg base CX0 12 ff fdf pForces (fun vs H Q E => ∃ d : Addr, True ∧ avSp K (Wm P w K TG TL (miF n ps (parOf true m) d) none) 5 (FForces n ps (parOf true m) d m) vs H Q E) :=
    fnOk_all fun d _ => (ok_forces Ff hb hw ml mr mt ms ma mall CF okw.lo okw.hi (parOf_next true m) m hm8).mono (show m + 4 ≤ 12 by omega)
  refine pe_imp (pe_call (X := Xc) FA hr rfl hw Ff.kp hb .nil pass0 (pa_cons (de_var (W := W0 TG TL) (ρ := ρ0) 0 rfl) (pa_cons (de_tup (W := W0 TG TL) (ρ := ρ0) (ds := []) da_nil (bigL 0 (by decide))) (pa_cons (de_var (W := W0 TG TL) (ρ := ρ0) 1 rfl) (pa_cons (de_bl (W := W0 TG TL) (ρ := ρ0)) (pa_cons pe_dnewM pa_nil (by rfl)) (by rfl)) (by rfl)) (by rfl)) (by rfl)) (by decide) (by rfl) (by rfl)) fun σ H Q ⟨j, s, qq⟩ => ?_
  refine ⟨j, s, fun v1 H1 x1 j1 r1 => ⟨j1, s.mono x1, fun v2 H2 x2 j2 r2 => ⟨j2, (s.mono x1).mono x2, fun v3 H3 x3 j3 r3 => ⟨j3, ((s.mono x1).mono x2).mono x3, fun v4 H4 x4 j4 r4 d hd hsm => ?_⟩⟩⟩⟩
  have x6 : Ex (W0 TG TL) H4 (upd H4 d (MemO P w d [])) := Ex.new hd
  refine ⟨d, trivial, rfl, ⟨(W0 TG TL).jal _ _ _ hd j4, (fun p hp => by cases hp), hsm, [], ⟨upd_same, fun y hy => by cases hy⟩, fun k e => by cases e⟩, [.d (webD n ps), .d (tupD []), .d (.int m), .d (.bool (parOf true m m)), .r (.ref d)], _, ?_, ⟨[], lot_nil n, rfl, rfl⟩, fun v H' x' j' r' => ?_⟩
  · rw [parOf_self]
    exact .cons ((((AvOk.mono x2 r1).mono x3).mono x4).mono x6) (.cons (((AvOk.mono x3 r2).mono x4).mono x6) (.cons ((AvOk.mono x4 r3).mono x6) (.cons (AvOk.mono x6 r4) (.cons rfl .nil))))
  · rw [parOf_self] at r'
    exact qq v H' (ex_back (X := Xc) (i := miF n ps (parOf true m) d) (((x1.trans x2).trans x3).trans x4) hd x') j'.1 r'
end
end FK
set_option Elab.async false
set_option linter.all false
set_option maxRecDepth 100000
set_option maxHeartbeats 3200000
/-! sorted(set(a list of ints)) -/
namespace FK
open PySem PySem.Spec PyProof.Rows L2
/-- an empty set as set() lays it -/
abbrev bareSet (w : World) : Obj := { cls := .type "set", dict := none, data := .set #[] 0 (.fresh 0 0 (!w.params.followText "set-order")) }
section
variable {P : Program} {w : World} {A : Around} {E : Value → Shared → Prop} {s : Shared}
theorem set_of_list {l : Addr} {its : Array Value} (ns : List Int) {Q : Value → Shared → Prop} (calm : A.handled = none) (isL : s.heap.IsList l its) (hin : IntsAre its.toList ns) (room : ns.length + 1 < scanBound)
    (fin : ∀ (h' : Heap) (tk c : Nat), SetR w h' s.heap.objs.size (fun j => decide (j ∈ ns)) c → c ≤ ns.length → (∀ b o, s.heap.get? b = some o → h'.get? b = some o) → Q (.ref s.heap.objs.size) { s with heap := h', toks := tk }) :
    wpAny (model P w) A (call (.type "set") [.ref l]) Q E s := by
  have size : its.size = ns.length := by
    have := IntsAre.length hin
    rwa [Array.length_toList] at this
  obtain ⟨m1, m2, hmro⟩ := F.called_set.mro
  have f1 := F.called_set.made
  have f2 := F.called_set.sub
  refine wpAny_call (codeAny_of_tree ?_)
  show wpAny _ _ (callAny (.type "set") ⟨[.ref l], []⟩) _ _ s
  refine wpAny_pure ⟨Code.quiet_builtin _ (by decide +kernel), codeAny_builtin F.entry_type_call ?_⟩
  rw [Around.under_plain (weight_type_call_type "set" [.ref l] []) rfl]
  have f3 := F.called_set.notType
  have f4 := F.called_set.canCreate
  have f5 := F.typeCall_set_1 (.ref l)
  repeat (any_goals (first | assumption | wp_step))
  refine codeAny_mono (code_set_led1 (.ref l) (E := E) (Q₁ := fun obj s₁ => obj = .ref s.heap.objs.size ∧ s₁ = { s with heap := s.heap.push (bareSet w) }) ⟨rfl, rfl⟩) fun r s₁ hr => ?_
  cases r with
  | error e => exact hr
  | ok fl =>
    cases fl with
    | ret obj =>
      obtain ⟨rfl, rfl⟩ := hr
      have atS : (s.heap.push (bareSet w)).get? s.heap.objs.size = some (bareSet w) := Heap.get?_push_size _ rfl
      have hT : Shared.TypeIs { s with heap := s.heap.push (bareSet w) } (.ref s.heap.objs.size) "set" := ⟨_, atS, rfl⟩
      have f6 := F.called_set.init.lookup
      have f7 := F.called_set.init.bind (.ref s.heap.objs.size)
      repeat (any_goals (first | assumption | wp_step))
      refine codeAny_mono (codeAny_call_builtin (R := wants (fun r s₂ => r = .none ∧ ∃ h' tk c, s₂ = { s with heap := h', toks := tk } ∧ SetR w h' s.heap.objs.size (fun j => decide (j ∈ ns)) c ∧ c ≤ ns.length ∧
          (∀ b o, s.heap.get? b = some o → h'.get? b = some o)) E) F.called_set.init.plain F.entry_set_init (check_set_init_1 hT ?_)) fun r₂ s₂ hr₂ => ?_
      · obtain ⟨⟨oc, od, oda, osl⟩, hol, hcl, nl, hdl⟩ := isL
        simp only at hcl hdl
        subst hcl
        subst hdl
        have atL : (s.heap.push (bareSet w)).get? l = some { cls := .type "list", dict := od, data := .seq its nl, slots := osl } := Heap.get?_push_of_some _ hol
        have f8 := F.sub_list_set
        have f9 := F.sub_list_frozenset
        have f10 : (Value.type "list" == Value.type "dict") = false := by decide
        have isL1 : (s.heap.push (bareSet w)).IsList l its := ⟨_, atL, rfl, nl, rfl⟩
        unfold Builtin.«set.__init__» noKeywords Builtin.Frozenset.updateFrom
        generalize hPI : pyIter = PI
        wp_walk
        subst hPI
        refine wpAny_pyIter_list isL1 (wpAny_bind (wpAny_runValue ?_))
        have lS : l < s.heap.objs.size := Heap.lt_size hol
        have calm3 : A.in1.in1.in1.handled = none := calm
        have sz1 : (s.heap.push (bareSet w)).objs.size = s.heap.objs.size + 1 := Heap.size_push ..
        have n1 : l ≠ (s.heap.push (bareSet w)).objs.size := by
          rw [sz1]
          exact Nat.ne_of_lt (Nat.lt_succ_of_lt lS)
        have n2 : s.heap.objs.size ∉ [(s.heap.push (bareSet w)).objs.size, l] := fun z => by
          rcases List.mem_cons.mp z with z | z
          · rw [sz1] at z
            exact Nat.ne_of_lt (Nat.lt_succ_self _) z
          · rw [List.mem_singleton] at z
            rw [z] at lS
            exact Nat.lt_irrefl _ lS
        have vals : ∀ (i : Nat) (v : Value), its[i]? = some v → ∃ k t, ns[i]? = some k ∧ v = .int k t := fun i v hv => by
          have hi : i < ns.length := by
            rw [← size]
            exact (Array.getElem?_eq_some_iff.mp hv).1
          obtain ⟨t, e⟩ := PyProof.Rows.IntsAre.int_at hin i v (by rw [Array.getElem?_toList]; exact hv)
          rw [List.getD_eq_getElem?_getD, List.getElem?_eq_getElem hi] at e
          exact ⟨ns[i], t, List.getElem?_eq_getElem hi, e⟩
        refine set_update_ints ((Walks.list calm3 _ l n1 its).toS) s.heap.objs.size n2 ns size room vals (its.size - 0) 0 _ (by omega) (Nat.zero_le _) ⟨⟨_, Heap.get?_push_size _ rfl, rfl, rfl⟩, isL1.push _⟩ ?first ?last
        case first => exact ⟨0, Nat.le_refl 0, setR_new_at (Heap.get?_push_of_some _ atS)⟩
        case last =>
          rintro ⟨h', g', d', t', o'⟩ c' mv hc' hS'
          have eg : g' = s.gens := mv.gens
          have ed : d' = s.drawn := mv.drawn
          have eo : o' = s.os := mv.os
          subst eg ed eo
          show wpAny _ _ _ _ _ _
          refine wpAny_pure ?_
          show wpAny _ _ (ret Value.none) _ _ _
          rw [size] at hc'
          refine wpAny_pure ⟨rfl, h', t', c', rfl, hS', hc', fun b o e => ?_⟩
          have lb : b < s.heap.objs.size := Heap.lt_size e
          refine mv.heap b o (fun z => ?_) (Heap.get?_push_of_some _ (Heap.get?_push_of_some _ e))
          rcases List.mem_cons.mp z with z | z
          · exact Nat.ne_of_lt lb z
          · rw [List.mem_singleton, sz1] at z
            exact Nat.ne_of_lt (Nat.lt_succ_of_lt lb) z
      · cases r₂ with
        | error e => exact hr₂
        | ok fl₂ =>
          cases fl₂ with
          | ret r =>
            obtain ⟨rfl, h', tk, c', rfl, hS', hc', hk'⟩ := hr₂
            repeat (any_goals (first | assumption | wp_step))
            exact fin _ _ _ hS' hc' hk'
          | _ => exact hr₂.elim
    | _ => exact hr.elim
end
section
variable {X : Cx} {W : Wd} {ρ : Rho} {e : Expr} {p p2 pos pos2 : Pos}
def rSetL (K : PySem.W.Frag) (w : World) : List V → Hp → VK → Prop := fun xs H Q => ∃ (a : Addr) (ns : List Int), xs = [.ref a] ∧ SqL K H a (ns.map V.int) ∧ ns.length < 60 ∧ ∀ q c, H q = none → c ≤ ns.length → Q (.ref q) (upd H q (SetO w q (fun j => decide (j ∈ ns)) c))
theorem cr_setL (hc : X.calm = true) : CallR X (.type "set") (rSetL X.K X.w) := by
  intro pins s σ H xs us Q I r h
  obtain ⟨a, ns, rfl, hs, hl, q⟩ := h
  obtain ⟨its, rv, pl, hz⟩ := I.list hs
  rw [Vals.ref1 r]
  refine set_of_list ns (I.ok.hd hc) pl.isList (by simpa using ints_of_vals rv) (by unfold scanBound; omega) fun h' tk c R hcn k => ?_
  exact ⟨.ref _, _, I.laid (a := s.heap.objs.size) (t' := tk) k (Nat.le_refl _) (setO_new R), rfl, q _ c (I.hok.fresh (Nat.le_refl _)) hcn⟩
/-- sorted(set(e)) -/
theorem de_sortedSet {ns : List Int} (h : DE X W ρ e (.d (.list (ns.map .int)))) (h60 : ns.length < 60) (ms : X.mg "sorted" = none) (mt : X.mg "set" = none) (hc : X.calm = true := by rfl) (hg : Gl X "sorted" := by rfl) (hg2 : Gl X "set" := by rfl) (he : starEach [e] X.env = (false, eval e X.env) :: starEach [] X.env := by rfl)
    (he2 : starEach [.Call (.Name "set" p2) [e] [] pos2] X.env = (false, eval (.Call (.Name "set" p2) [e] [] pos2) X.env) :: starEach [] X.env := by rfl) :
    DE X W ρ (.Call (.Name "sorted" p) [.Call (.Name "set" p2) [e] [] pos2] [] pos) (.d (.list ((norm ns).map .int))) := by
  refine pe_imp (pe_callB (cr_sortedSet hc) hg ms boot_sorted (pa_cons (pe_callTy (cr_setL hc) hg2 mt boot_set (pa_cons h pa_nil he) (by decide) (by decide) he) pa_nil he2) (by decide) (by decide) he2) fun σ H Q ⟨j, s, q⟩ => ⟨j, s, fun v H1 x1 j1 r1 => ?_⟩
  obtain ⟨a, xs, rfl, hs0, ha⟩ := dp_lst r1
  rw [dpAll_ints ha] at hs0
  refine ⟨a, ns, rfl, SqL.of hs0, h60, fun q' c hq hcn => ⟨q', _, c, rfl, upd_same, by omega, fun ns' p' hup hmem hlen hp => ?_⟩⟩
  have e' : ns' = norm ns := norm_is (fun k => by rw [hmem k, decide_eq_true_eq]) hup
  subst e'
  have x2 : Ex W H1 (upd H1 q' (SetO X.w q' (fun j => decide (j ∈ ns)) c)) := Ex.new hq
  exact q _ _ ((x1.trans x2).trans (Ex.new hp)) (W.jal _ _ _ hp (W.jal _ _ _ hq j1)) (.lst upd_same (ints_dpAll _))
end
end FK
set_option Elab.async false
set_option linter.all false
set_option maxRecDepth 100000
set_option maxHeartbeats 2000000
/-! The law's own foes, come, is_gathering, worth, forces, alike. -/
namespace FK
open PySem PySem.Spec PyProof.Rows L2

/-! ### plain -/
def stepF (p : Int) (acc : List Int) (q : Int × Int) : List Int := (acc ++ if q.1 = p then [q.2] else []) ++ if q.2 = p then [q.1] else []
def rawF (ps : List (Int × Int)) (p : Int) : List Int := ps.foldl (stepF p) []
theorem stepF_len (p : Int) (acc : List Int) (q : Int × Int) : (stepF p acc q).length ≤ acc.length + 2 := by
  unfold stepF
  rw [List.length_append, List.length_append]
  split <;> split <;> simp
theorem foldF_len (p : Int) : ∀ (ps : List (Int × Int)) (acc : List Int), (ps.foldl (stepF p) acc).length ≤ acc.length + 2 * ps.length
  | [], acc => by simp
  | q :: r, acc => by
    rw [List.foldl_cons, List.length_cons]
    have h1 := foldF_len p r (stepF p acc q)
    have h2 := stepF_len p acc q
    omega
theorem foldF_mem (p k : Int) : ∀ (ps : List (Int × Int)) (acc : List Int), k ∈ ps.foldl (stepF p) acc ↔ k ∈ acc ∨ ∃ q ∈ ps, (q.1 = p ∧ q.2 = k) ∨ (q.2 = p ∧ q.1 = k)
  | [], acc => by simp
  | q :: r, acc => by
    rw [List.foldl_cons, foldF_mem p k r]
    have e : k ∈ stepF p acc q ↔ k ∈ acc ∨ (q.1 = p ∧ q.2 = k) ∨ (q.2 = p ∧ q.1 = k) := by
      unfold stepF
      rw [List.mem_append, List.mem_append]
      by_cases h1 : q.1 = p <;> by_cases h2 : q.2 = p <;> simp [h1, h2, or_assoc, eq_comm]
    rw [e]
    simp only [List.mem_cons, exists_eq_or_imp, or_assoc]
theorem rawF_mem {n : Nat} {ps : List (Int × Int)} (ok : WebOk n ps) (p k : Int) : k ∈ rawF ps p ↔ foe ps k p = true := by
  unfold rawF foe
  rw [foldF_mem, decide_eq_true_eq]
  constructor
  · rintro (h | ⟨q, hq, h⟩)
    · cases h
    · have hp := ok.pr q hq
      rcases h with ⟨h1, h2⟩ | ⟨h1, h2⟩
      · have e : (min k p, max k p) = q := by
          apply Prod.ext
          · show min k p = q.1
            omega
          · show max k p = q.2
            omega
        rw [e]
        exact hq
      · have e : (min k p, max k p) = q := by
          apply Prod.ext
          · show min k p = q.1
            omega
          · show max k p = q.2
            omega
        rw [e]
        exact hq
  · intro h
    have hp := ok.pr _ h
    refine .inr ⟨_, h, ?_⟩
    show (min k p = p ∧ max k p = k) ∨ (max k p = p ∧ min k p = k)
    have h2 : min k p < max k p := hp.2.1
    omega
def lfoes (ps : List (Int × Int)) (p : Int) : List Int := isort (rawF ps p)
theorem lfoes_mem {n : Nat} {ps : List (Int × Int)} (ok : WebOk n ps) (p k : Int) : k ∈ lfoes ps p ↔ foe ps k p = true := by
  unfold lfoes
  rw [(isort_perm _).mem_iff]
  exact rawF_mem ok p k
theorem lcome_is {n : Nat} {ps : List (Int × Int)} (ok : WebOk n ps) (g : List Int) (p : Int) : isort ((g.filter fun x => !decide (x = p) && !decide (x ∈ lfoes ps p)) ++ [p]) = cameI ps g p := by
  unfold cameI
  congr 2
  refine List.filter_congr fun x _ => ?_
  have e : decide (x ∈ lfoes ps p) = foe ps x p := by
    rw [Bool.eq_iff_iff, decide_eq_true_eq]
    exact lfoes_mem ok p x
  rw [e]
theorem foe_comm (ps : List (Int × Int)) (a b : Int) : foe ps a b = foe ps b a := by
  unfold foe
  have e1 : min a b = min b a := by omega
  have e2 : max a b = max b a := by omega
  rw [e1, e2]

theorem rep_if (b : Bool) (x : PyData) : (List.replicate ((if b = true then (1 : Int) else 0)).toNat [x]).flatten = if b = true then [x] else [] := by
  cases b <;> rfl
section
variable {P : Program} {w : World} {K : PySem.W.Frag} {mg : Str → Option Value} {base : Heap} {W : Wd}

/-! ### _law_foes -/
abbrev sLF : Stmt := topS 34
abbrev nLF : List Str := ["_law_web_here", "_law_person", "_law_found", "_law_one", "_law_other"]
theorem scLF : FnScope nLF ["_law_web_here", "_law_person"] (defScope sLF) := ⟨rfl, rfl, rfl, by decide +kernel, rfl, by decide +kernel, by decide +kernel⟩
def FLF : Rel := fun as r => ∃ (n : Nat) (ps : List (Int × Int)) (p : Int), ps.length ≤ 25 ∧ as = [.d (webD n ps), .d (.int p)] ∧ r = .d (lstD (lfoes ps p))
theorem ok_lf {f : Addr} {fd : FuncData} (F : Fun K "_law_foes" "_law_foes" sLF f fd) (mi : mg "int" = none) (ms : mg "sorted" = none) : FnOk P w K mg base CX0 1 f fd ["_law_web_here", "_law_person"] (avSp K W 2 FLF) := by
  refine av_def (k := 0) F scLF fun cdv A outer s H hr as r hl hF => ?_
  obtain ⟨n, ps, p, hps, rfl, rfl⟩ := hF
  let ρs : List (Int × Int) → Rho := fun pre => [some (.d (webD n ps)), some (.d (.int p)), some (.d (lstD (pre.foldl (stepF p) []))), none, none]
  refine ⟨.rt (.d (lstD (lfoes ps p))), dss_cons (ds_set 2 (a := .d (lstD [])) (de_lst (ds := []) da_nil (bigL 0 (by decide))) scLF.nd) (dss_cons (ds_for ps (fun q => .d (prD q)) ρs (fun pre q => ((ρs pre).set 3 (some (.d (.int q.1)))).set 4 (some (.d (.int q.2)))) owns rfl (di_is (di_tup (de_ixT 1 (de_var 0 rfl) de_int rfl rfl)) ?_) (pg_tup rfl (pgs_cons (pg_name (i := 3) scLF.nd rfl (Or.inl rfl)) (pgs_cons (pg_name (i := 4) scLF.nd rfl (Or.inl rfl)) pgs_nil))) (RLe.of_eq rfl) (fun pre q => tg_two 3 4) fun pre q post e => ?_) (dss_rt (ds_ret (de_sorted (ns := rawF ps p) (de_var 2 rfl) ?_ ms)))), rfl⟩
  · rw [List.map_map]; rfl
  · have hpre : pre.length ≤ ps.length := by
      have := congrArg List.length e
      rw [List.length_append] at this
      omega
    have hlen := foldF_len p pre []
    simp only [List.length_nil] at hlen
    have hsl : 200 ≤ sizeLine := by decide
    have e2 : lstD ((pre ++ [q]).foldl (stepF p) []) = .list (((pre.foldl (stepF p) []).map .int ++ (if decide (q.1 = p) = true then [PyData.int q.2] else [])) ++ (if decide (q.2 = p) = true then [PyData.int q.1] else [])) := by
      rw [List.foldl_append]
      show lstD (stepF p (pre.foldl (stepF p) []) q) = _
      unfold stepF
      simp only [List.map_append, decide_eq_true_eq]
      by_cases h1 : q.1 = p <;> by_cases h2 : q.2 = p <;> simp [h1, h2]
    let ρ2 : Rho := [some (.d (webD n ps)), some (.d (.int p)), some (.d (lstD ((pre ++ [q]).foldl (stepF p) []))), some (.d (.int q.1)), some (.d (.int q.2))]
    have l1 : ∀ b : Bool, ∀ x : PyData, (if b = true then [x] else []).length ≤ 1 := fun b x => by cases b <;> simp
    refine dss_to (ρ1 := ρ2) (RLe.trans (RLe.of_eq rfl) (RLe.trans (RLe.set (RLe.drop ρ2 3) 4 none) (RLe.drop ρ2 4))) (dss_one (ds_set 2 (de_is (de_cat (ds := (pre.foldl (stepF p) []).map .int ++ (if decide (q.1 = p) = true then [PyData.int q.2] else [])) (cs := if decide (q.2 = p) = true then [PyData.int q.1] else [])
      (de_cat (ds := (pre.foldl (stepF p) []).map .int) (cs := if decide (q.1 = p) = true then [PyData.int q.2] else []) (de_var 2 rfl) (de_is (de_rep (ds := [.int q.2]) (k := if decide (q.1 = p) = true then 1 else 0) (de_lst (ds := [.int q.2]) (da_cons (de_var 4 rfl) da_nil) (bigL 1 (by decide))) (de_intB (de_eqI (de_var 3 rfl) (de_var 1 rfl)) mi) ?_ ?_ ?_) ?_) ?_)
      (de_is (de_rep (ds := [.int q.1]) (k := if decide (q.2 = p) = true then 1 else 0) (de_lst (ds := [.int q.1]) (da_cons (de_var 3 rfl) da_nil) (bigL 1 (by decide))) (de_intB (de_eqI (de_var 4 rfl) (de_var 1 rfl)) mi) ?_ ?_ ?_) ?_) ?_) (by rw [e2])) scLF.nd))
    · split <;> decide
    · split <;> decide
    · split <;> exact bigL _ (by simp)
    · rw [rep_if]
    · have := l1 (decide (q.1 = p)) (.int q.2)
      rw [List.length_map]
      omega
    · split <;> decide
    · split <;> decide
    · split <;> exact bigL _ (by simp)
    · rw [rep_if]
    · have h1 := l1 (decide (q.1 = p)) (.int q.2)
      have h2 := l1 (decide (q.2 = p)) (.int q.1)
      rw [List.length_append, List.length_map]
      omega
  · have hlen := foldF_len p ps []
    simp only [List.length_nil] at hlen
    show (ps.foldl (stepF p) []).length < 64
    omega

/-! ### _law_come -/
abbrev sLC : Stmt := topS 35
abbrev nLC : List Str := ["_law_web_here", "_law_gathering", "_law_person", "_law_bad", "_law_one"]
theorem scLC : FnScope nLC ["_law_web_here", "_law_gathering", "_law_person"] (defScope sLC) := ⟨rfl, rfl, rfl, by decide +kernel, rfl, by decide +kernel, by decide +kernel⟩
def FLC : Rel := fun as r => ∃ (n : Nat) (ps : List (Int × Int)) (g : List Int) (p : Int), WebOk n ps ∧ ps.length ≤ 25 ∧ g.length < 60 ∧ as = [.d (webD n ps), .d (tupD g), .d (.int p)] ∧ r = .d (tupD (cameI ps g p))
theorem ok_lc {f : Addr} {fd : FuncData} (F : Fun K "_law_come" "_law_come" sLC f fd) (mt : mg "tuple" = none) (ms : mg "sorted" = none) (CF : Callee P w K mg base "_law_foes" 2 1 W FLF) : FnOk P w K mg base CX0 2 f fd ["_law_web_here", "_law_gathering", "_law_person"] (avSp K W 3 FLC) := by
  refine av_def (k := 1) F scLC fun cdv A outer s H hr as r hl hF => ?_
  obtain ⟨n, ps, g, p, ok, hps, hg, rfl, rfl⟩ := hF
  let ρ0 : Rho := [some (.d (webD n ps)), some (.d (tupD g)), some (.d (.int p)), some (.d (lstD (lfoes ps p))), none]
  let q : Int → Bool := fun x => !decide (x = p) && !decide (x ∈ lfoes ps p)
  have hfl : (g.filter q).length ≤ g.length := List.length_filter_le _ _
  have hb : ((g.filter q).map PyData.int).length + [PyData.int p].length ≤ sizeLine := by
    rw [List.length_map, List.length_singleton]
    exact bigL _ (by omega)
  refine ⟨.rt (.d (tupD (cameI ps g p))), dss_cons (ds_set 3 (a := .d (lstD (lfoes ps p))) (de_call CF (Sub.refl _) (hr.mono (by decide)) (da_cons (de_var 0 rfl) (da_cons (de_var 2 rfl) da_nil)) ⟨n, ps, p, hps, rfl, rfl⟩) scLC.nd) (dss_rt (ds_ret (de_is (de_tupleL (de_sorted (ns := g.filter q ++ [p]) (de_is (de_cat (ds := (g.filter q).map .int) (cs := [.int p]) (de_lc (ρ := ρ0) 4 g (fun k => .d (.int k)) q (fun k => .int k) (di_is (di_tup (de_var 1 rfl)) (map_avs g).symm) (big _ (by omega)) (fun _ _ => by simp [noL]) scLC.nd (blkOk_by (N := nLC) (sc := defScope sLC) (by decide +kernel))
    (fun s H C cl fp k _ => dts_one (dt_w (dw_and (dt_neI (de_var 4 rfl) (de_var 2 rfl)) fun _ => dw_and1 (dt_ninL (de_var 4 rfl) (de_var 3 rfl)))))
    (fun s H C cl fp k _ _ => de_var 4 rfl)) (de_lst (ds := [.int p]) (da_cons (de_var 2 rfl) da_nil) (bigL 1 (by decide))) hb) (by rw [List.map_append]; rfl)) ?_ ms) mt) (by rw [lcome_is ok])))), rfl⟩
  rw [List.length_append, List.length_singleton]
  omega

/-! ### _law_is_gathering -/
abbrev sLG : Stmt := topS 38
abbrev nLG : List Str := ["_law_web_here", "_law_lot", "_law_pair"]
theorem scLG : FnScope nLG ["_law_web_here", "_law_lot"] (defScope sLG) := ⟨rfl, rfl, rfl, by decide +kernel, rfl, by decide +kernel, by decide +kernel⟩
def badP (g : List Int) (q : Int × Int) : Bool := decide (q.1 ∈ g) && decide (q.2 ∈ g)
def gathB (ps : List (Int × Int)) (g : List Int) : Bool := (ps.filter (badP g)).isEmpty
def FLG : Rel := fun as r => ∃ (n : Nat) (ps : List (Int × Int)) (g : List Int), ps.length ≤ 25 ∧ as = [.d (webD n ps), .d (tupD g)] ∧ r = .d (.bool (gathB ps g))
theorem shaped_prl (ps : List (Int × Int)) : SeqAt.shaped (.list (ps.map prD)) = true := by
  have := depth_prs ps
  unfold SeqAt.shaped
  simp only [PyData.canLay0, PyData.depth, canLay_prs, Bool.true_and]
  exact decide_eq_true (by omega)
theorem ok_lg {f : Addr} {fd : FuncData} (F : Fun K "_law_is_gathering" "_law_is_gathering" sLG f fd) : FnOk P w K mg base CX0 1 f fd ["_law_web_here", "_law_lot"] (avSp K W 2 FLG) := by
  refine av_def (k := 0) F scLG fun cdv A outer s H hr as r hl hF => ?_
  obtain ⟨n, ps, g, hps, rfl, rfl⟩ := hF
  let ρ0 : Rho := [some (.d (webD n ps)), some (.d (tupD g)), none]
  have hun : (A.deeper (envOfC "_law_is_gathering" (defScope sLG) s.heap.objs.size f cdv)).units + 64 < cLine := by
    have := hr.un
    omega
  refine ⟨.rt (.d (.bool (gathB ps g))), dss_rt (ds_ret (de_is (de_eqD (c := .list ((ps.filter (badP g)).map prD)) (d := .list []) (de_lc (ρ := ρ0) 2 ps (fun q => .d (prD q)) (badP g) prD (di_is (di_tup (de_ixT 1 (de_var 0 rfl) de_int rfl rfl)) (by rw [List.map_map]; rfl)) (big _ (by omega)) (fun _ _ => rfl) scLG.nd (blkOk_by (N := nLG) (sc := defScope sLG) (by decide +kernel))
    (fun s H C cl fp q _ => dts_one (dt_w (dw_and (dt_inT (de_ixT 0 (de_var 2 rfl) de_int rfl rfl) (de_var 1 rfl)) fun _ => dw_and1 (dt_inT (de_ixT 1 (de_var 2 rfl) de_int rfl rfl) (de_var 1 rfl)))))
    (fun s H C cl fp k _ _ => de_var 2 rfl)) (de_lst (ds := []) da_nil (bigL 0 (by decide))) hun (shaped_prl _) (by decide)) ?_)), rfl⟩
  unfold gathB
  cases ps.filter (badP g) with
  | nil => simp [PyData.eqv, PyData.eqvAll]
  | cons x r => simp [PyData.eqv, PyData.eqvAll]

/-! ### _law_worth -/
abbrev sLW : Stmt := topS 43
abbrev pLW : List Str := ["_law_web_here", "_law_here", "_law_many", "_law_is_first", "_law_person"]
abbrev nLW : List Str := ["_law_web_here", "_law_here", "_law_many", "_law_is_first", "_law_person", "_law_some", "_law_one"]
theorem scLW : FnScope nLW pLW (defScope sLW) := ⟨rfl, rfl, rfl, by decide +kernel, rfl, by decide +kernel, by decide +kernel⟩
/-- the score that the law's last argument means -/
def ScD (x : PyData) (val : List Int → Int) : Prop := (x = .none ∧ val = lenS) ∨ ∃ i : Int, x = .int i ∧ val = inS i
def FLW (m : Nat) : Rel := fun as r => ∃ (n : Nat) (ps : List (Int × Int)) (g : List Int) (b : Bool) (x : PyData) (val : List Int → Int), WebOk n ps ∧ ps.length ≤ 25 ∧ LotOk n g ∧ ScD x val ∧ as = [.d (webD n ps), .d (tupD g), .d (.int m), .d (.bool b), .d x] ∧ r = .d (.int (wv n ps val m b g))
theorem ok_lw {f : Addr} {fd : FuncData} (F : Fun K "_law_worth" "_law_worth" sLW f fd) (hb : Binds K fd pLW []) (hw : mg "_law_worth" = some (.ref f)) (ml : mg "len" = none) (mi : mg "int" = none) (mr : mg "range" = none) (ma : mg "max" = none) (mm : mg "min" = none) (CC : Callee P w K mg base "_law_come" 3 2 W FLC) :
    ∀ m : Nat, FnOk P w K mg base CX0 (m + 3) f fd pLW (avSp K W 5 (FLW m)) := by
  intro m
  induction m with
  | zero =>
    refine av_def (k := 2) F scLW fun cdv A outer s H hr as r hl hF => ?_
    obtain ⟨n, ps, g, b, x, val, ok, hps, hg, hx, rfl, rfl⟩ := hF
    refine ⟨.rt (.d (.int (val g))), dss_rt (ds_if (b := true) (dt_is (dt_eqI (de_var 2 rfl) de_int) (by decide)) (fun _ => dss_rt (ds_ret ?_)) fun z => by cases z), rfl⟩
    rcases hx with ⟨rfl, rfl⟩ | ⟨i, rfl, rfl⟩
    · refine de_if (x := true) (dt_isN (de_var 4 rfl) fun K H v h => by rw [dp_non h]; rfl) (fun _ => de_is (de_lenT (de_var 1 rfl) ml) (by rw [List.length_map])) fun z => by cases z
    · refine de_if (x := false) (dt_isN (de_var 4 rfl) fun K H v h => by rw [dp_int h]; rfl) (fun z => by cases z) fun _ => de_is (de_intB (de_inT (de_var 4 rfl) (de_var 1 rfl)) mi) ?_
      simp only [decide_eq_true_eq]
  | succ m ih =>
    have CW : Callee P w K mg base "_law_worth" 5 (m + 3) W (FLW m) := callee_of hw F hb rfl ih
    refine av_def (k := m + 3) F scLW fun cdv A outer s H hr as r hl hF => ?_
    obtain ⟨n, ps, g, b, x, val, ok, hps, hg, hx, rfl, rfl⟩ := hF
    have hn7 := ok.hi
    have hn1 := ok.lo
    let fs : Int → Int := fun p => wv n ps val m (!b) (cameI ps g p)
    have hpos : 0 < ((ppl n).map fs).length := by rw [List.length_map, ppl_len]; omega
    let ρ0 : Rho := [some (.d (webD n ps)), some (.d (tupD g)), some (.d (.int ((m + 1 : Nat) : Int))), some (.d (.bool b)), some (.d x), none, none]
    have eint : ((ppl n).map fs).map PyData.int = ((ppl n).filter fun _ => true).map fun p => .int (fs p) := by rw [filter_tt, List.map_map]; rfl
    refine ⟨.rt (.d (.int (wv n ps val (m + 1) b g))), dss_cons (ds_no (dt_is (dt_eqI (de_var 2 rfl) de_int) (decide_eq_false (by omega)))) (dss_cons (ds_setLc (ρ := ρ0) 5 6 (ppl n) (fun k => .d (.int k)) (fun _ => true) (fun p => .int (fs p))
      (di_is (di_range1 (n := n) (de_ixT 0 (de_var 0 rfl) de_int rfl rfl) mr (by omega) (by omega)) (range_ppl n)) (by rw [ppl_len]; exact big n (by omega)) (fun _ _ => by simp [noL]) scLW.nd (blkOk_by (N := nLW) (sc := defScope sLW) (by decide +kernel)) (sw_true rfl rfl rfl (by decide +kernel)) (fun s H C cl fp k _ => dts_nil)
      (fun s H C cl fp k hk _ => ?_)) (dss_rt (ds_ret ?_))), rfl⟩
    · refine de_is (de_call CW (Sub.refl _) hr (da_cons (de_var 0 rfl) (da_cons (de_call CC (Sub.refl _) (hr.mono (by omega)) (da_cons (de_var 0 rfl) (da_cons (de_var 1 rfl) (da_cons (de_var 6 rfl) da_nil))) ⟨n, ps, g, k, ok, hps, hg.len, rfl, rfl⟩) (da_cons (de_sub (de_var 2 rfl) de_int) (da_cons (de_not (de_var 3 rfl)) (da_cons (de_var 4 rfl) da_nil)))))
        (r := .d (.int (fs k))) ⟨n, ps, cameI ps g k, !b, x, val, ok, hps, came_lot (by omega) hg hk, hx, ?_, rfl⟩) rfl
      have e1 : ((m + 1 : Nat) : Int) - 1 = (m : Int) := by omega
      rw [e1]
    · refine de_if (x := b) (dt_val (de_var 3 rfl)) (fun e => de_is (de_maxL (ns := (ppl n).map fs) (de_is (de_var 5 rfl) (by rw [eint])) hpos ma) ?_) (fun e => de_is (de_minL (ns := (ppl n).map fs) (de_is (de_var 5 rfl) (by rw [eint])) hpos mm) ?_)
      · show _ = AV.d (.int (if b = true then _ else _))
        rw [if_pos e]
      · show _ = AV.d (.int (if b = true then _ else _))
        rw [if_neg (by rw [e]; decide)]
end
end FK
set_option Elab.async false
set_option linter.all false
set_option maxRecDepth 100000
set_option maxHeartbeats 2000000
/-! _law_forces, _law_alike -/
namespace FK
open PySem PySem.Spec PyProof.Rows L2

/-! ### plain -/
theorem norm_eq {a b : List Int} (h : ∀ k, k ∈ a ↔ k ∈ b) : norm a = norm b := norm_is (fun k => (norm_mem a k).trans (h k)) (norm_up a)
theorem gone_is {n : Nat} {ps : List (Int × Int)} (ok : WebOk n ps) (g : List Int) (p : Int) : norm (g ++ [p] ++ lfoes ps p) = goneI n ps g p := by
  unfold goneI
  refine norm_eq fun k => ?_
  rw [List.mem_append, List.mem_append, List.mem_append, List.mem_singleton, lfoes_mem ok, withF, norm_mem, List.mem_append, List.mem_singleton, List.flatMap_cons, List.flatMap_nil, List.append_nil, foesI, List.mem_filter, mem_ppl, or_assoc, foe_comm ps k p]
  constructor
  · rintro (h | h | h)
    · exact .inl h
    · exact .inr (.inl h)
    · refine .inr (.inr ⟨?_, h⟩)
      have h' := h
      unfold foe at h'
      rw [decide_eq_true_eq] at h'
      have := ok.pr _ h'
      have h1 : 0 ≤ min p k := this.1
      have h2 : max p k < n := this.2.2
      omega
  · rintro (h | h | ⟨_, h⟩)
    · exact .inl h
    · exact .inr (.inl h)
    · exact .inr (.inr h)
theorem gone_full {n : Nat} {ps : List (Int × Int)} {g : List Int} {p : Int} (hn : n ≤ 50) (h : LotOk n g) (hp : p ∈ ppl n) (hl : g.length = n) : (goneI n ps g p).length = n := by
  have h1 := (gone_lot (ps := ps) hn h hp).len7
  have h2 := nodup_sub g (goneI n ps g p) (lt_nodup h.up) fun x hx => by
    rw [goneI, norm_mem]
    exact List.mem_append_left _ hx
  omega
theorem fw_full {n : Nat} {ps : List (Int × Int)} {g : List Int} (m : Nat) (b : Bool) (hl : g.length = n) : fw n ps m b g = true := by
  cases m with
  | zero => exact decide_eq_true hl
  | succ m =>
    show (if g.length = n then true else _) = true
    rw [if_pos hl]
theorem fw_next {n : Nat} {ps : List (Int × Int)} {g : List Int} {m : Nat} {b : Bool} (h1 : 1 ≤ n) (hn : n ≤ 50) (h : LotOk n g) :
    (if b = true then decide (true ∈ (ppl n).map fun p => fw n ps m (!b) (goneI n ps g p)) else !decide (false ∈ (ppl n).map fun p => fw n ps m (!b) (goneI n ps g p))) = fw n ps (m + 1) b g := by
  by_cases hl : g.length = n
  · rw [fw_full (m + 1) b hl]
    have hall : ∀ x ∈ (ppl n).map fun p => fw n ps m (!b) (goneI n ps g p), x = true := fun x hx => by
      obtain ⟨p, hp, rfl⟩ := List.mem_map.mp hx
      exact fw_full m (!b) (gone_full hn h hp hl)
    have h0 : (0 : Int) ∈ ppl n := mem_ppl.mpr (by omega)
    cases b with
    | true =>
      rw [if_pos rfl, decide_eq_true_eq]
      exact List.mem_map.mpr ⟨0, h0, fw_full m _ (gone_full hn h h0 hl)⟩
    | false =>
      rw [if_neg (by decide), decide_eq_false fun z => by cases hall _ z]
      rfl
  · show _ = (if g.length = n then true else _)
    rw [if_neg hl]
    cases b with
    | true =>
      rw [if_pos rfl, if_pos rfl, Bool.eq_iff_iff, decide_eq_true_eq, List.any_eq_true]
      exact ⟨fun z => ⟨true, z, rfl⟩, fun ⟨x, hx, e⟩ => by
        cases x with
        | true => exact hx
        | false => cases e⟩
    | false =>
      rw [if_neg (by decide), if_neg (by decide), Bool.eq_iff_iff, List.all_eq_true, Bool.not_eq_true', decide_eq_false_iff_not]
      exact ⟨fun z x hx => by
        cases x with
        | true => rfl
        | false => exact absurd hx z, fun z hz => by cases z false hz⟩
section
variable {P : Program} {w : World} {K : PySem.W.Frag} {mg : Str → Option Value} {base : Heap} {W : Wd}

/-! ### _law_forces -/
abbrev sLO : Stmt := topS 44
abbrev pLO : List Str := ["_law_web_here", "_law_gone", "_law_many", "_law_is_first"]
abbrev nLO : List Str := ["_law_web_here", "_law_gone", "_law_many", "_law_is_first", "_law_some", "_law_one"]
theorem scLO : FnScope nLO pLO (defScope sLO) := ⟨rfl, rfl, rfl, by decide +kernel, rfl, by decide +kernel, by decide +kernel⟩
def FLO (m : Nat) : Rel := fun as r => ∃ (n : Nat) (ps : List (Int × Int)) (g : List Int) (b : Bool), WebOk n ps ∧ ps.length ≤ 25 ∧ LotOk n g ∧ as = [.d (webD n ps), .d (lstD g), .d (.int m), .d (.bool b)] ∧ r = .d (.bool (fw n ps m b g))
theorem ok_lo {f : Addr} {fd : FuncData} (F : Fun K "_law_forces" "_law_forces" sLO f fd) (hb : Binds K fd pLO []) (hw : mg "_law_forces" = some (.ref f)) (ml : mg "len" = none) (mr : mg "range" = none) (ms : mg "sorted" = none) (mt : mg "set" = none) (CF : Callee P w K mg base "_law_foes" 2 1 W FLF) :
    ∀ m : Nat, FnOk P w K mg base CX0 (m + 2) f fd pLO (avSp K W 4 (FLO m)) := by
  intro m
  induction m with
  | zero =>
    refine av_def (k := 1) F scLO fun cdv A outer s H hr as r hl hF => ?_
    obtain ⟨n, ps, g, b, ok, hps, hg, rfl, rfl⟩ := hF
    refine ⟨.rt (.d (.bool (decide (g.length = n)))), dss_rt (ds_if (b := true) (dt_is (dt_eqI (de_var 2 rfl) de_int) (by decide)) (fun _ => dss_rt (ds_ret (de_is (de_eqI (de_lenL (de_var 1 rfl) ml) (de_ixT 0 (de_var 0 rfl) de_int rfl rfl)) ?_))) fun z => by cases z), rfl⟩
    have e : decide ((((g.map PyData.int).length : Nat) : Int) = (n : Int)) = decide (g.length = n) := by
      rw [List.length_map, Bool.eq_iff_iff, decide_eq_true_eq, decide_eq_true_eq]
      omega
    rw [e]
  | succ m ih =>
    have CW : Callee P w K mg base "_law_forces" 4 (m + 2) W (FLO m) := callee_of hw F hb rfl ih
    refine av_def (k := m + 2) F scLO fun cdv A outer s H hr as r hl hF => ?_
    obtain ⟨n, ps, g, b, ok, hps, hg, rfl, rfl⟩ := hF
    have hn7 := ok.hi
    have hn1 := ok.lo
    have hgl := hg.len7
    let fs : Int → Bool := fun p => fw n ps m (!b) (goneI n ps g p)
    let ρ0 : Rho := [some (.d (webD n ps)), some (.d (lstD g)), some (.d (.int ((m + 1 : Nat) : Int))), some (.d (.bool b)), none, none]
    have ebl : ((ppl n).map fs).map PyData.bool = ((ppl n).filter fun _ => true).map fun p => .bool (fs p) := by rw [filter_tt, List.map_map]; rfl
    refine ⟨.rt (.d (.bool (fw n ps (m + 1) b g))), dss_cons (ds_no (dt_is (dt_eqI (de_var 2 rfl) de_int) (decide_eq_false (by omega)))) (dss_cons (ds_setLc (ρ := ρ0) 4 5 (ppl n) (fun k => .d (.int k)) (fun _ => true) (fun p => .bool (fs p))
      (di_is (di_range1 (n := n) (de_ixT 0 (de_var 0 rfl) de_int rfl rfl) mr (by omega) (by omega)) (range_ppl n)) (by rw [ppl_len]; exact big n (by omega)) (fun _ _ => by simp [noL]) scLO.nd (blkOk_by (N := nLO) (sc := defScope sLO) (by decide +kernel)) (sw_true rfl rfl rfl (by decide +kernel)) (fun s H C cl fp k _ => dts_nil)
      (fun s H C cl fp k hk _ => ?_)) (dss_rt (ds_ret ?_))), rfl⟩
    · have hfl := foldF_len k ps []
      have hlf : (lfoes ps k).length ≤ 50 := by
        unfold lfoes
        rw [isort_len]
        show (ps.foldl (stepF k) []).length ≤ 50
        simp only [List.length_nil] at hfl
        omega
      refine de_is (de_call CW (Sub.refl _) hr (da_cons (de_var 0 rfl) (da_cons (de_is (de_sortedSet (ns := g ++ [k] ++ lfoes ps k) (de_is (de_cat (ds := g.map .int ++ [.int k]) (cs := (lfoes ps k).map .int) (de_cat (ds := g.map .int) (cs := [.int k]) (de_var 1 rfl) (de_lst (ds := [.int k]) (da_cons (de_var 5 rfl) da_nil) (bigL 1 (by decide))) ?_) (de_call CF (Sub.refl _) (hr.mono (by omega)) (da_cons (de_var 0 rfl) (da_cons (de_var 5 rfl) da_nil)) ⟨n, ps, k, hps, rfl, rfl⟩) ?_) (by rw [List.map_append, List.map_append]; rfl)) ?_ ms mt) (by rw [gone_is ok])) (da_cons (de_sub (de_var 2 rfl) de_int) (da_cons (de_not (de_var 3 rfl)) da_nil))))
        (r := .d (.bool (fs k))) ⟨n, ps, goneI n ps g k, !b, ok, hps, gone_lot (by omega) hg hk, ?_, rfl⟩) rfl
      · rw [List.length_map, List.length_singleton]
        exact bigL _ (by omega)
      · rw [List.length_append, List.length_map, List.length_map, List.length_singleton]
        exact bigL _ (by omega)
      · rw [List.length_append, List.length_append, List.length_singleton]
        omega
      · have e1 : ((m + 1 : Nat) : Int) - 1 = (m : Int) := by omega
        rw [e1]
    · rw [← fw_next (b := b) hn1 (by omega) hg]
      refine de_if (x := b) (dt_val (de_var 3 rfl)) (fun e => de_is (de_inLB (bs := (ppl n).map fs) de_bl (de_is (de_var 4 rfl) (by rw [ebl]))) ?_) (fun e => de_is (de_ninLB (bs := (ppl n).map fs) de_bl (de_is (de_var 4 rfl) (by rw [ebl]))) ?_)
      · rw [if_pos e]
      · rw [if_neg (by rw [e]; decide)]

/-! ### _law_alike -/
abbrev sLA : Stmt := topS 32
abbrev pLA : List Str := ["_law_found", "_law_due"]
abbrev nLA : List Str := ["_law_found", "_law_due", "_law_k"]
theorem scLA : FnScope nLA pLA (defScope sLA) := ⟨rfl, rfl, rfl, by decide +kernel, rfl, by decide +kernel, by decide +kernel⟩
def FA1 : Rel := fun as r => ∃ d : PyData, ((∃ i, d = .int i) ∨ ∃ b, d = .bool b) ∧ as = [.d d, .d d] ∧ r = .d (.bool true)
def FA2 : Rel := fun as r => ∃ g : List Int, g.length < 60 ∧ as = [.d (tupD g), .d (tupD g)] ∧ r = .d (.bool true)
theorem kt1 : kitB "int" "tuple" = some false := by decide +kernel
theorem kt2 : kitB "int" "list" = some false := by decide +kernel
theorem kt3 : kitB "int" "str" = some false := by decide +kernel
theorem kt4 : kitB "bool" "tuple" = some false := by decide +kernel
theorem kt5 : kitB "bool" "list" = some false := by decide +kernel
theorem kt6 : kitB "bool" "str" = some false := by decide +kernel
theorem kt7 : kitB "bool" "int" = some true := by decide +kernel
theorem kt8 : kitB "bool" "bool" = some true := by decide +kernel
theorem kt9 : kitB "tuple" "list" = some false := by decide +kernel
theorem boot_listT : bootBuiltins "list" = some (.type "list") := by decide +kernel
theorem boot_strT : bootBuiltins "str" = some (.type "str") := by decide +kernel
theorem boot_tupT : bootBuiltins "tuple" = some (.type "tuple") := by decide +kernel
theorem ok_la1 {f : Addr} {fd : FuncData} (F : Fun K "_law_alike" "_law_alike" sLA f fd) (mi : mg "isinstance" = none) (mt : mg "tuple" = none) (ml : mg "list" = none) (ms : mg "str" = none) (mn : mg "int" = none) (mb : mg "bool" = none) : FnOk P w K mg base CX0 1 f fd pLA (avSp K W 2 FA1) := by
  refine av_def (k := 0) F scLA fun cdv A outer s H hr as r hl hF => ?_
  obtain ⟨d, hd, rfl, rfl⟩ := hF
  refine ⟨.rt (.d (.bool true)), ?_, rfl⟩
  rcases hd with ⟨i, rfl⟩ | ⟨b, rfl⟩
  · refine dss_cons (ds_no (dt_is (dt_val (de_isi2 (x := false) (y := false) (de_var 1 rfl) kt1 kt2 boot_tupT boot_listT mt ml mi)) rfl)) (dss_cons (ds_no (dt_w (dw_or (x := false) (y := false) (dt_isN (de_var 1 rfl) fun K H v h => by rw [dp_int h]; rfl) fun _ => dw_or1 (dt_val (de_isi (x := false) (de_var 1 rfl) kt3 boot_strT ms mi))))) (dss_rt (ds_ret ?_)))
    refine de_is (de_and (de_isi (x := true) (de_var 0 rfl) kb_ii PyProof.Rows.boot_int mn mi) fun _ => de_and (de_cmp op_eq (de_isi (x := false) (de_var 0 rfl) kb_ib boot_boolT mb mi) (de_isi (x := false) (de_var 1 rfl) kb_ib boot_boolT mb mi) rv_eqB (nomark _)) fun _ => de_one (de_eqI (de_var 0 rfl) (de_var 1 rfl))) ?_
    simp
  · refine dss_cons (ds_no (dt_is (dt_val (de_isi2 (x := false) (y := false) (de_var 1 rfl) kt4 kt5 boot_tupT boot_listT mt ml mi)) rfl)) (dss_cons (ds_no (dt_w (dw_or (x := false) (y := false) (dt_isN (de_var 1 rfl) fun K H v h => by rw [dp_bl h]; rfl) fun _ => dw_or1 (dt_val (de_isi (x := false) (de_var 1 rfl) kt6 boot_strT ms mi))))) (dss_rt (ds_ret ?_)))
    refine de_is (de_and (de_isi (x := true) (de_var 0 rfl) kt7 PyProof.Rows.boot_int mn mi) fun _ => de_and (de_cmp op_eq (de_isi (x := true) (de_var 0 rfl) kt8 boot_boolT mb mi) (de_isi (x := true) (de_var 1 rfl) kt8 boot_boolT mb mi) rv_eqB (nomark _)) fun _ => de_one (de_cmp op_eq (de_var 0 rfl) (de_var 1 rfl) rv_eqB (nomark _))) ?_
    simp
theorem ok_la2 {f : Addr} {fd : FuncData} (F : Fun K "_law_alike" "_law_alike" sLA f fd) (hb : Binds K fd pLA []) (hw : mg "_law_alike" = some (.ref f)) (mi : mg "isinstance" = none) (mt : mg "tuple" = none) (ml : mg "list" = none) (ms : mg "str" = none) (mn : mg "int" = none) (mb : mg "bool" = none) (mlen : mg "len" = none) (mr : mg "range" = none) : FnOk P w K mg base CX0 2 f fd pLA (avSp K W 2 FA2) := by
  have C1 : Callee P w K mg base "_law_alike" 2 1 W FA1 := callee_of hw F hb rfl (ok_la1 F mi mt ml ms mn mb)
  refine av_def (k := 1) F scLA fun cdv A outer s H hr as r hl hF => ?_
  obtain ⟨g, hg, rfl, rfl⟩ := hF
  let ρ0 : Rho := [some (.d (tupD g)), some (.d (tupD g)), none]
  have hun : (A.deeper (envOfC "_law_alike" (defScope sLA) s.heap.objs.size f cdv)).units + 64 < cLine := by
    have := hr.un
    omega
  have elen : ((g.map PyData.int).length : Int) = (g.length : Int) := by rw [List.length_map]
  refine ⟨.rt (.d (.bool true)), dss_rt (ds_if (b := true) (dt_is (dt_val (de_isi2 (x := true) (y := false) (d := tupD g) (de_var 1 rfl) kb_tt kt9 boot_tupT boot_listT mt ml mi)) rfl) (fun _ => ?_) fun z => by cases z), rfl⟩
  refine dss_cons (ds_no (dt_w (dw_or (x := false) (y := false) (dt_is (dt_not (dt_val (de_isi2 (x := true) (y := false) (d := tupD g) (de_var 0 rfl) kb_tt kt9 boot_tupT boot_listT mt ml mi))) rfl) fun _ => dw_or1 (dt_is (dt_cmp op_ne (de_isi (x := false) (d := tupD g) (de_var 0 rfl) kt9 boot_listT ml mi) (de_isi (x := false) (d := tupD g) (de_var 1 rfl) kt9 boot_listT ml mi) rv_neB (nomark _)) rfl)))) (dss_cons (ds_no (dt_is (dt_neI (de_lenT (de_var 0 rfl) mlen) (de_lenT (de_var 1 rfl) mlen)) (by simp))) (dss_rt (ds_ret (de_is (de_eqD (c := .list (((ppl g.length).filter fun _ => false).map .int)) (d := .list []) (de_lc (ρ := ρ0) 2 (ppl g.length) (fun k => .d (.int k)) (fun _ => false) (fun k => .int k)
    (di_is (di_range1 (n := g.length) (de_is (de_lenT (de_var 1 rfl) mlen) (by rw [elen])) mr (by omega) (by omega)) (range_ppl g.length)) (by rw [ppl_len]; exact big _ (by omega)) (fun _ _ => rfl) scLA.nd (blkOk_by (N := nLA) (sc := defScope sLA) (by decide +kernel))
    (fun s H C cl fp k hk => dts_one (dt_is (dt_not (dt_val (de_call C1 (Sub.refl _) hr (da_cons (de_ixT k.toNat (de_var 0 rfl) (de_var 2 rfl) (ppl_get hk).2 (t := .int (g.getD k.toNat 0)) ?_) (da_cons (de_ixT k.toNat (de_var 1 rfl) (de_var 2 rfl) (ppl_get hk).2 (t := .int (g.getD k.toNat 0)) ?_) da_nil)) ⟨_, .inl ⟨_, rfl⟩, rfl, rfl⟩))) rfl))
    (fun s H C cl fp k _ _ => de_var 2 rfl)) (de_lst (ds := []) da_nil (bigL 0 (by decide))) hun ?_ (by decide)) ?_))))
  · have hk' := mem_ppl.mp hk
    rw [List.getElem?_map, List.getElem?_eq_getElem (show k.toNat < g.length by omega), List.getD_eq_getElem?_getD, List.getElem?_eq_getElem (show k.toNat < g.length by omega)]
    rfl
  · have hk' := mem_ppl.mp hk
    rw [List.getElem?_map, List.getElem?_eq_getElem (show k.toNat < g.length by omega), List.getD_eq_getElem?_getD, List.getElem?_eq_getElem (show k.toNat < g.length by omega)]
    rfl
  · rw [List.filter_eq_nil_iff.mpr (by simp)]
    decide
  · rw [List.filter_eq_nil_iff.mpr (by simp)]
    simp [PyData.eqv, PyData.eqvAll]
end
end FK
set_option Elab.async false
set_option linter.all false
set_option maxRecDepth 100000
set_option maxHeartbeats 2000000
/-! Triples: what a state is before and after, where results are not told exactly. -/
namespace FK
open PySem PySem.Spec PyProof.Rows L2

abbrev SP0 := L2.St → Hp → Prop
section
variable (X : Cx)
def HE (P : SP0) (e : Expr) (Q : L2.St → V → Hp → Prop) : Prop := PE X e (fun σ H k => P σ H ∧ ∀ v H', Q σ v H' → k v H')
def HT (P : SP0) (e : Expr) (Q : L2.St → Bool → Hp → Prop) : Prop := PT X e (fun σ H k => P σ H ∧ ∀ v H', Q σ v H' → k v H')
def HW (P : SP0) (e : Expr) (Q : L2.St → Bool → Hp → Prop) : Prop := PW X e (fun σ H k => P σ H ∧ ∀ v H', Q σ v H' → k v H')
def HS (P : SP0) (st : Stmt) (P' : SP0) (R : V → Hp → Prop) : Prop := PS X st (fun D σ H => P σ H ∧ (∀ σ' H', P' σ' H' → D.nx σ' H') ∧ ∀ v H', R v H' → D.rt v H')
def HSs (P : SP0) (sts : List Stmt) (P' : SP0) (R : V → Hp → Prop) : Prop := PSs X sts (fun D σ H => P σ H ∧ (∀ σ' H', P' σ' H' → D.nx σ' H') ∧ ∀ v H', R v H' → D.rt v H')
/-- a value that is told, nothing changed -/
abbrev VE (P : SP0) (e : Expr) (v : V) : Prop := HE X P e (fun σ u H => u = v ∧ P σ H)
abbrev VT (P : SP0) (e : Expr) (b : Bool) : Prop := HT X P e (fun σ u H => u = b ∧ P σ H)
end
section
variable {X : Cx} {P P' P1 P2 : SP0} {R : V → Hp → Prop} {e e1 e2 : Expr} {st : Stmt} {sts rest sts1 sts2 body : List Stmt} {v : V} {i k : Int} {pos p : Pos} {b : Bool} {Q Q1 Q2 : L2.St → V → Hp → Prop} {T T1 T2 : L2.St → Bool → Hp → Prop}
theorem he_post (h : HE X P e Q) (f : ∀ σ v H, Q σ v H → Q1 σ v H) : HE X P e Q1 := pe_imp h fun σ H k ⟨p, q⟩ => ⟨p, fun v H' z => q v H' (f σ v H' z)⟩
theorem he_pre (h : HE X P e Q) (f : ∀ σ H, P' σ H → P σ H) : HE X P' e Q := pe_imp h fun σ H k ⟨p, q⟩ => ⟨f σ H p, q⟩
theorem ht_post (h : HT X P e T) (f : ∀ σ v H, T σ v H → T1 σ v H) : HT X P e T1 := pt_imp h fun σ H k ⟨p, q⟩ => ⟨p, fun v H' z => q v H' (f σ v H' z)⟩
theorem ht_pre (h : HT X P e T) (f : ∀ σ H, P' σ H → P σ H) : HT X P' e T := pt_imp h fun σ H k ⟨p, q⟩ => ⟨f σ H p, q⟩
theorem hss_pre (h : HSs X P sts P1 R) (f : ∀ σ H, P' σ H → P σ H) : HSs X P' sts P1 R := pss_imp h fun D σ H ⟨p, q⟩ => ⟨f σ H p, q⟩
theorem hs_pre (h : HS X P st P1 R) (f : ∀ σ H, P' σ H → P σ H) : HS X P' st P1 R := ps_imp h fun D σ H ⟨p, q⟩ => ⟨f σ H p, q⟩
/-- the pre-state may fix what it says -/
theorem hss_any {A : Type} {Pa : A → SP0} (h : ∀ a, HSs X (Pa a) sts P1 R) : HSs X (fun σ H => ∃ a, Pa a σ H) sts P1 R := ⟨fun pins s σ H D I ⟨⟨a, p⟩, q⟩ => (h a).run pins s σ H D I ⟨p, q⟩⟩
theorem ve_var (j : Nat) {n : Str} (h : ∀ σ H, P σ H → σ[j]? = some (some v)) (hN : X.N[j]? = some n := by rfl) (hv : Vis X.env.scope n := by first | exact Or.inl rfl | exact Or.inr (Or.inl rfl) | exact Or.inr (Or.inr rfl)) (hd : (n == ("__debug__" : Str)) = false := by decide) (hcd : (n == ("__classdict__" : Str)) = false := by decide) : VE X P (.Name n pos) v :=
  pe_imp (pe_var hN hv hd hcd) fun σ H q ⟨p, z⟩ => ⟨v, h σ H p, z v H ⟨rfl, p⟩⟩
theorem ve_int {j : Nat} : VE X P (.Constant (.int i) j pos) (.int i) := pe_imp pe_int fun σ H q ⟨p, z⟩ => z _ H ⟨rfl, p⟩
theorem he_op2 {op : Operator} {r : R2} (ho : OpR X (binaryOp op) r) (h1 : HE X P e1 Q1) (h2 : ∀ x, HE X (fun σ H => Q1 σ x H) e2 (fun σ y H => Q2 σ y H ∧ ∀ k : VK, (∀ v, Q σ v H → k v H) → r x y H k)) : HE X P (.BinOp e1 op e2 pos) Q := by
  refine ⟨fun pins s σ H kk I ⟨p, z⟩ => ?_⟩
  refine wpAny_BinOp (thn (h1.run pins s σ H (fun x H1 => Q1 σ x H1) I ⟨p, fun v H' q => q⟩) fun u s1 ⟨x, H1, I1, r1, q1⟩ => ?_)
  refine thn ((h2 x).run pins s1 σ H1 (fun y H2 => Q2 σ y H2 ∧ ∀ k : VK, (∀ v, Q σ v H2 → k v H2) → r x y H2 k) I1 ⟨q1, fun v H' q => q⟩) fun u2 s2 ⟨y, H2, I2, r2, _, q2⟩ => ?_
  exact ho pins s2 σ H2 x y u u2 kk I2 r1 r2 (q2 kk fun v q => z v H2 q)
theorem ve_op {op : Operator} {r : R2} {x y z : V} (ho : OpR X (binaryOp op) r) (h1 : VE X P e1 x) (h2 : VE X P e2 y) (hr : ∀ H (k : VK), k z H → r x y H k) : VE X P (.BinOp e1 op e2 pos) z := by
  refine ⟨fun pins s σ H kk I ⟨p, q⟩ => ?_⟩
  refine wpAny_BinOp (thn (h1.run pins s σ H (fun u H1 => u = x ∧ P σ H1) I ⟨p, fun v H' q => q⟩) fun u s1 ⟨x', H1, I1, r1, e1, q1⟩ => ?_)
  subst e1
  refine thn (h2.run pins s1 σ H1 (fun u H2 => u = y ∧ P σ H2) I1 ⟨q1, fun v H' q => q⟩) fun u2 s2 ⟨y', H2, I2, r2, e2, q2⟩ => ?_
  subst e2
  exact ho pins s2 σ H2 _ _ u u2 kk I2 r1 r2 (hr H2 kk (q z H2 ⟨rfl, q2⟩))
theorem ve_add (h1 : VE X P e1 (.int i)) (h2 : VE X P e2 (.int k)) : VE X P (.BinOp e1 .Add e2 pos) (.int (i + k)) := ve_op op_add h1 h2 fun H kk q => ⟨_, _, rfl, rfl, q⟩
theorem ve_sub (h1 : VE X P e1 (.int i)) (h2 : VE X P e2 (.int k)) : VE X P (.BinOp e1 .Sub e2 pos) (.int (i - k)) := ve_op op_sub h1 h2 fun H kk q => ⟨_, _, rfl, rfl, q⟩
theorem ve_mul (h1 : VE X P e1 (.int i)) (h2 : VE X P e2 (.int k)) (hk : -(2 ^ 64) < k ∧ k < 2 ^ 64) : VE X P (.BinOp e1 .Mult e2 pos) (.int (i * k)) := ve_op op_mul h1 h2 fun H kk q => ⟨_, _, rfl, rfl, .inr hk, q⟩
theorem ve_mod (h1 : VE X P e1 (.int i)) (h2 : VE X P e2 (.int k)) (hk : 0 < k) : VE X P (.BinOp e1 .Mod e2 pos) (.int (i % k)) := ve_op op_mod h1 h2 fun H kk q => ⟨_, _, rfl, rfl, hk, q⟩
theorem ve_fdiv (h1 : VE X P e1 (.int i)) (h2 : VE X P e2 (.int k)) (hk : 0 < k ∧ k < 1073741824) : VE X P (.BinOp e1 .FloorDiv e2 pos) (.int (i / k)) := ve_op op_fdiv h1 h2 fun H kk q => ⟨_, _, rfl, rfl, hk, q⟩
theorem ve_pow (h1 : VE X P e1 (.int i)) (h2 : VE X P e2 (.int k)) (hk : CPow i k) : VE X P (.BinOp e1 .Pow e2 pos) (.int (i ^ k.toNat)) := ve_op op_pow h1 h2 fun H kk q => ⟨_, _, rfl, rfl, hk, q⟩
theorem ve_ix {x : V} {l : Addr} (h1 : VE X P e1 (.ref l)) (h2 : VE X P e2 (.int i)) (hx : ∀ σ H, P σ H → ∃ xs, SqL X.K H l xs ∧ atI xs i = some x) (hs : PlainIx e2 := by exact fun _ _ => rfl) : VE X P (.Subscript e1 e2 pos) x := by
  refine pe_imp (pe_ix ix_list h1 h2 hs) fun σ H q ⟨p, z⟩ => ⟨p, fun v H1 ⟨e1, p1⟩ => ⟨p1, fun u H2 ⟨e2, p2⟩ => ?_⟩⟩
  obtain ⟨xs, a, b⟩ := hx σ H2 p2
  exact ⟨l, xs, i, x, e1, e2, a, b, z x H2 ⟨rfl, p2⟩⟩
theorem ve_len {l : Addr} {n : Nat} {p2 : Pos} (h1 : VE X P e (.ref l)) (hx : ∀ σ H, P σ H → ∃ xs, SqL X.K H l xs ∧ xs.length = n) (hm : X.mg "len" = none) (hg : Gl X "len" := by rfl) (he : starEach [e] X.env = (false, eval e X.env) :: starEach [] X.env := by rfl) : VE X P (.Call (.Name "len" p2) [e] [] pos) (.int n) := by
  refine pe_imp (pe_callB call_len_seq hg hm PySem.boot_len (pa_cons h1 pa_nil he) (by decide) (by decide) he) fun σ H q ⟨p, z⟩ => ⟨p, fun v H1 ⟨e1, p1⟩ => ?_⟩
  obtain ⟨xs, a, b⟩ := hx σ H1 p1
  exact ⟨l, xs, by rw [e1], .inl a, by rw [b]; exact z _ H1 ⟨rfl, p1⟩⟩
theorem ve_toint {p2 : Pos} (h1 : VE X P e (.int i)) (hm : X.mg "int" = none) (hg : Gl X "int" := by rfl) (he : starEach [e] X.env = (false, eval e X.env) :: starEach [] X.env := by rfl) : VE X P (.Call (.Name "int" p2) [e] [] pos) (.int i) := by
  refine pe_imp (pe_callTy call_int1 hg hm PyProof.Rows.boot_int (pa_cons h1 pa_nil he) (by decide) (by decide) he) fun σ H q ⟨p, z⟩ => ⟨p, fun v H1 ⟨e1, p1⟩ => .inl ⟨i, by rw [e1], z _ H1 ⟨rfl, p1⟩⟩⟩
theorem vt_cmp {op : CmpOp} {r : R2} {x y : V} (ho : OpR X (compareOp op) r) (h1 : VE X P e1 x) (h2 : VE X P e2 y) (hr : ∀ H (k : VK), k (.bl b) H → r x y H k) (hm : behindInMarks op e2 = false := by rfl) : VT X P (.Compare e1 [op] [e2] pos) b :=
  pt_imp (pt_cmpR ho h1 h2 hm) fun σ H q ⟨p, z⟩ => ⟨p, fun v H1 ⟨e1, p1⟩ => ⟨p1, fun u H2 ⟨e2, p2⟩ => by
    subst e1 e2
    exact hr H2 _ ⟨b, rfl, z b H2 ⟨rfl, p2⟩⟩⟩⟩
theorem vt_gt (h1 : VE X P e1 (.int i)) (h2 : VE X P e2 (.int k)) : VT X P (.Compare e1 [.Gt] [e2] pos) (decide (k < i)) := vt_cmp op_gt h1 h2 (fun H kk q => ⟨_, _, rfl, rfl, q⟩) (nomark _)
theorem vt_ge (h1 : VE X P e1 (.int i)) (h2 : VE X P e2 (.int k)) : VT X P (.Compare e1 [.GtE] [e2] pos) (decide (k ≤ i)) := vt_cmp op_ge h1 h2 (fun H kk q => ⟨_, _, rfl, rfl, q⟩) (nomark _)
theorem vt_lt (h1 : VE X P e1 (.int i)) (h2 : VE X P e2 (.int k)) : VT X P (.Compare e1 [.Lt] [e2] pos) (decide (i < k)) := vt_cmp op_lt h1 h2 (fun H kk q => ⟨_, _, rfl, rfl, q⟩) (nomark _)
/-! statements -/
theorem hss_nil (h : ∀ σ H, P σ H → P' σ H) : HSs X P [] P' R := pss_imp pss_nil fun D σ H ⟨p, q, _⟩ => q σ H (h σ H p)
theorem hss_cons (h1 : HS X P st P1 R) (h2 : HSs X P1 rest P' R) : HSs X P (st :: rest) P' R := pss_imp (pss_cons h1 h2) fun D σ H ⟨p, q, z⟩ => ⟨p, fun σ' H' p' => ⟨p', q, z⟩, z⟩
theorem hss_one (h1 : HS X P st P' R) : HSs X P [st] P' R := pss_imp (pss_one h1) fun D σ H q => q
theorem hs_if {ec : Expr} (h : HT X P ec T) (h1 : HSs X (fun σ H => T σ true H) sts1 P' R) (h2 : HSs X (fun σ H => T σ false H) sts2 P' R) : HS X P (.If ec sts1 sts2 pos) P' R :=
  ps_imp (ps_if h h1 h2) fun D σ H ⟨p, q, z⟩ => ⟨p, fun b H1 t => by
    cases b with
    | true => exact iteT ⟨t, q, z⟩
    | false => exact iteF ⟨t, q, z⟩⟩
theorem hs_ret (h : HE X P e (fun _ v H => R v H)) : HS X P (.Return (some e) pos) P' R := ps_imp (ps_ret h) fun D σ H ⟨p, _, z⟩ => ⟨p, z⟩
theorem hs_set (j : Nat) {n : Str} {p2 : Pos} (h : HE X P e (fun σ v H => P' (σ.set j (some v)) H)) (hN : X.N.Nodup) (hi : X.N[j]? = some n := by rfl) (hx : Loc X.env.scope n := by first | exact Or.inl rfl | exact Or.inr rfl) (hs : swapsWith e (some (.Name n p2)) pos.line X.env = pure false := by rfl)
    (hf : X.fn n = true ∨ X.env.scope.names.lookup n = some .local := by first | exact .inl rfl | exact .inr rfl) : HS X P (.Assign [.Name n p2] e pos) P' R :=
  ps_imp (ps_set hN hi hx h hs hf) fun D σ H ⟨p, q, _⟩ => ⟨p, fun v H1 z => q _ H1 z⟩
/-- l[i] = e -/
theorem hs_lset {o ix : Expr} {l : Addr} {vs : List V} {x : V} {pos2 : Pos} (j : Nat) (hv : VE X P e x) (ho : VE X P o (.ref l)) (hi : VE X P ix (.int i)) (hl : ∀ σ H, P σ H → H l = some (.lst vs)) (hj : ixN vs.length i = some j) (hp : ∀ σ H, P σ H → P' σ (upd H l (.lst (vs.set j x))))
    (ha : ∀ v, assign (.Subscript o ix pos2) X.env v = (do
      let ov ← holding [v] (eval o X.env)
      let iv ← holding [v, ov] (eval ix X.env)
      standAt pos2
      holding [v, ov, iv] (setItem ov iv v)
      release [v, ov, iv] []) := by intro _; rfl)
    (hs : swapsWithSole [.Subscript o ix pos2] e pos.line X.env = pure false := by rfl) (hw : swappedStores [.Subscript o ix pos2] e X.env = pure none := by rfl) (h1 : (assignEach [.Subscript o ix pos2] X.env).map (·.2) = [assign (.Subscript o ix pos2) X.env] := by rfl) :
    HS X P (.Assign [.Subscript o ix pos2] e pos) P' R :=
  ps_imp (ps_asg hv (pg_sub ho hi set_list ha) hs hw h1) fun D σ H ⟨p, q, _⟩ => ⟨p, fun v H1 ⟨e1, p1⟩ => ⟨p1, fun u H2 ⟨e2, p2⟩ => ⟨p2, fun w H3 ⟨e3, p3⟩ => ⟨l, vs, i, j, e2, e3, hl σ H3 p3, hj, by rw [e1]; exact q σ _ (hp σ H3 p3)⟩⟩⟩⟩
end

/-! ### the row -/
/-- a is not l, or a is one of the fixed objects -/
def Off (K : PySem.W.Frag) (a l : Addr) (xs : List V) : Prop := a ≠ l ∨ ∀ H : Hp, SqL K H a xs
/-- the row of draws at l: its script at a -/
def RowIs (K : PySem.W.Frag) (H : Hp) (l a : Addr) (ns : List Int) (i s c : Int) : Prop := H l = some (.lst [.ref a, .int i, .int s, .int c]) ∧ SqL K H a (ns.map V.int) ∧ Off K a l (ns.map V.int)
def RowAt (K : PySem.W.Frag) (H : Hp) (l a : Addr) (ns : List Int) : Prop := ∃ i s c, RowIs K H l a ns i s c ∧ 0 ≤ i
theorem off_of {K : PySem.W.Frag} {H : Hp} {a l : Addr} {xs : List V} (h : SqL K H a xs) (hn : H l = none) : Off K a l xs := by
  rcases h with (q | ⟨ob, q⟩) | q
  · exact .inl (ne_of_none q hn)
  · exact .inl (ne_of_none q hn)
  · exact .inr fun _ => .inr q
theorem sql_upd {K : PySem.W.Frag} {H : Hp} {a l : Addr} {xs : List V} {o : HO} (h : SqL K H a xs) (n : Off K a l xs) : SqL K (upd H l o) a xs := by
  rcases n with n | n
  case inr => exact n _
  rcases h with (h | ⟨ob, h⟩) | h
  · exact .inl (.inl (by rw [upd_ne n]; exact h))
  · exact .inl (.inr ⟨ob, by rw [upd_ne n]; exact h⟩)
  · exact .inr h
theorem sql_updF {K : PySem.W.Frag} {H H1 : Hp} {a l : Addr} {xs : List V} {o : HO} (h1 : SqL K H1 a xs) (hn : H1 l = none) (h : SqL K H a xs) : SqL K (upd H l o) a xs := by
  rcases h1 with (q | ⟨ob, q⟩) | q
  · exact sql_upd h (.inl (ne_of_none q hn))
  · exact sql_upd h (.inl (ne_of_none q hn))
  · exact .inr q
theorem sql_exB {K : PySem.W.Frag} {W : Wd} {H H' : Hp} {a l : Addr} {xs : List V} (h : SqL K H a xs) (n : a ≠ l) (e : ExB W l H H') : SqL K H' a xs := by
  rcases h with (h | ⟨ob, h⟩) | h
  · exact .inl (.inl (e _ _ n h (W.mlst _ _)))
  · exact .inl (.inr ⟨ob, e _ _ n h (W.mfrz _ _ _)⟩)
  · exact .inr h
/-- _law_taken: a number below many; the row stays a row -/
def spTk (K : PySem.W.Frag) (W : Wd) : Sp := fun vs H Q _ => ∃ (l : Addr) (m : Int) (a : Addr) (ns : List Int), vs = [.ref l, .int m] ∧ 1 ≤ m ∧ m < 1000000 ∧ W.J H ∧ RowAt K H l a ns ∧ ∀ k H', 0 ≤ k → k < m → ExB W l H H' → W.J H' → RowAt K H' l a ns → Q (.int k) H'
section
variable {P : Program} {w : World} {K : PySem.W.Frag} {mg : Str → Option Value} {base : Heap} {W : Wd}
abbrev sTk : Stmt := topS 30
abbrev nTk : List Str := ["_law_row_here", "_law_many", "_law_found", "_law_cell"]
theorem scTk : FnScope nTk ["_law_row_here", "_law_many"] (defScope sTk) := ⟨rfl, rfl, rfl, by decide +kernel, rfl, by decide +kernel, by decide +kernel⟩
/-- the state within _law_taken -/
def TkS (K : PySem.W.Frag) (W : Wd) (H0 : Hp) (l a : Addr) (ns : List Int) (m i s c : Int) (σ : L2.St) (H : Hp) : Prop :=
  W.J H ∧ ExB W l H0 H ∧ RowIs K H l a ns i s c ∧ σ[0]? = some (some (.ref l)) ∧ σ[1]? = some (some (.int m)) ∧ σ.length = 4
theorem tk_set {H0 : Hp} {l a : Addr} {ns : List Int} {m i s c : Int} {σ : L2.St} {H : Hp} {v : V} (j : Nat) (hj : 2 ≤ j) (h : TkS K W H0 l a ns m i s c σ H) : TkS K W H0 l a ns m i s c (σ.set j (some v)) H := by
  obtain ⟨h1, h2, h3, h4, h5, h6⟩ := h
  exact ⟨h1, h2, h3, by rw [List.getElem?_set_ne (by omega)]; exact h4, by rw [List.getElem?_set_ne (by omega)]; exact h5, by rw [List.length_set]; exact h6⟩
theorem tk_upd {H0 : Hp} {l a : Addr} {ns : List Int} {m i s c i' s' c' : Int} {σ : L2.St} {H : Hp} (h : TkS K W H0 l a ns m i s c σ H) : TkS K W H0 l a ns m i' s' c' σ (upd H l (.lst [.ref a, .int i', .int s', .int c'])) := by
  obtain ⟨h1, h2, ⟨h3, h4, h5⟩, h6⟩ := h
  exact ⟨W.jlst _ _ _ _ h3 h1, h2.trans ExB.upd, ⟨upd_same, sql_upd h4 h5, h5⟩, h6⟩
end
end FK
set_option Elab.async false
set_option linter.all false
set_option maxRecDepth 100000
set_option maxHeartbeats 2000000
/-! _law_taken -/
namespace FK
open PySem PySem.Spec PyProof.Rows L2
section
variable {X : Cx} {P P' : SP0} {R : V → Hp → Prop} {sts : List Stmt} {C : Prop}
theorem hss_when (h : C → HSs X P sts P' R) : HSs X (fun σ H => C ∧ P σ H) sts P' R := ⟨fun pins s σ H D I ⟨⟨c, p⟩, q⟩ => (h c).run pins s σ H D I ⟨p, q⟩⟩
end
section
variable {P : Program} {w : World} {K : PySem.W.Frag} {mg : Str → Option Value} {base : Heap} {W : Wd}
theorem ve_row {X : Cx} {W : Wd} {H0 : Hp} {l a : Addr} {ns : List Int} {m i s c : Int} {Pr : SP0} {x : V} {p1 p2 pos : Pos} {j0 : Nat} (j : Nat) (hP : ∀ σ H, Pr σ H → TkS X.K W H0 l a ns m i s c σ H) (hx : atI [V.ref a, .int i, .int s, .int c] (j : Int) = some x)
    (hN : X.N[0]? = some ("_law_row_here" : Str) := by rfl) (hv : Vis X.env.scope ("_law_row_here" : Str) := by first | exact Or.inl rfl | exact Or.inr (Or.inl rfl) | exact Or.inr (Or.inr rfl)) : VE X Pr (.Subscript (.Name "_law_row_here" p1) (.Constant (.int (j : Int)) j0 p2) pos) x :=
  ve_ix (ve_var (v := .ref l) 0 (fun σ H h => (hP σ H h).2.2.2.1) hN hv) ve_int fun σ H h => ⟨_, SqL.of (hP σ H h).2.2.1.1, hx⟩
theorem ok_taken {f : Addr} {fd : FuncData} (F : Fun K "_law_taken" "_law_taken" sTk f fd) (mi : mg "int" = none) (ml : mg "len" = none) : FnOk P w K mg base CX0 1 f fd ["_law_row_here", "_law_many"] (spTk K W) := by
  refine Fun.ok F scTk (fun vs H Q E ⟨l, m, a, ns, h, _⟩ => by rw [h]; rfl) (fun cdv A outer s0 H0 vs Q E hr h => ?_)
  obtain ⟨l, m, a, ns, rfl, hm1, hm2, hj, ⟨i, s, c, hrow, hi⟩, q⟩ := h
  let X := (cxOf CX0 P w K mg base nTk "_law_taken" (defScope sTk) f cdv A outer s0 H0 E).nox
  let R : V → Hp → Prop := fun v H => ∃ k, v = .int k ∧ 0 ≤ k ∧ k < m ∧ ExB W l H0 H ∧ W.J H ∧ RowAt K H l a ns
  let T := fun i s c => TkS K W H0 l a ns m i s c
  have hR : ∀ {i s c k : Int} {σ : L2.St} {H : Hp}, T i s c σ H → 0 ≤ i → 0 ≤ k → k < m → R (.int k) H := fun {i s c k σ H} t hi h1 h2 => ⟨k, rfl, h1, h2, t.2.1, t.1, i, s, c, t.2.2.1, hi⟩
  have many : ∀ {Pr : SP0} {i s c : Int} {pos : Pos}, (∀ σ H, Pr σ H → T i s c σ H) → VE X Pr (.Name "_law_many" pos) (.int m) := fun h => ve_var 1 fun σ H p => (h σ H p).2.2.2.2.1
  have rowV : ∀ {Pr : SP0} {i s c : Int} {pos : Pos}, (∀ σ H, Pr σ H → T i s c σ H) → VE X Pr (.Name "_law_row_here" pos) (.ref l) := fun h => ve_var 0 fun σ H p => (h σ H p).2.2.2.1
  have modm : ∀ z : Int, 0 ≤ z % m ∧ z % m < m := fun z => ⟨Int.emod_nonneg _ (by omega), Int.emod_lt_of_pos _ (by omega)⟩
  have hnsl : ∀ {i s c : Int} {σ : L2.St} {H : Hp}, T i s c σ H → SqL K H a (ns.map V.int) := fun t => t.2.2.1.2.1
  have main : HSs X (T i s c) (defBody sTk) (fun _ _ => False) R := by
    refine hss_cons (P1 := T i s c) (hs_if (vt_gt (ve_row 3 (fun _ _ h => h) rfl) ve_int) (hss_when fun hc => ?_) (hss_nil fun σ H h => h.2)) ?_
    · refine hss_cons (P1 := fun σ H => T i s c σ H ∧ σ[2]? = some (some (.int (c % m)))) (hs_set 2 (he_post (ve_mod (ve_toint (ve_row 3 (fun _ _ h => h) rfl) mi) (many fun _ _ h => h) (by omega)) fun σ v H ⟨e, t⟩ => ?_) scTk.nd) ?_
      · subst e
        exact ⟨tk_set 2 (by omega) t, List.getElem?_set_self (by rw [t.2.2.2.2.2]; decide)⟩
      refine hss_cons (P1 := fun σ H => T i s (c / m) σ H ∧ σ[2]? = some (some (.int (c % m)))) (hs_lset (l := l) (vs := [.ref a, .int i, .int s, .int c]) (i := 3) 3 (ve_fdiv (ve_row 3 (fun _ _ h => h.1) rfl) (many fun _ _ h => h.1) ⟨by omega, by omega⟩) (rowV fun _ _ h => h.1) ve_int (fun σ H h => h.1.2.2.1.1) rfl fun σ H h => ⟨tk_upd h.1, h.2⟩) ?_
      exact hss_one (hs_ret (he_post (ve_var (v := .int (c % m)) 2 fun σ H h => h.2) fun σ v H ⟨e, t⟩ => by
        subst e
        exact hR t.1 hi (modm c).1 (modm c).2))
    refine hss_cons (P1 := T (i + 1) s c) (hs_lset (l := l) (vs := [.ref a, .int i, .int s, .int c]) (i := 1) 1 (ve_add (ve_row 1 (fun _ _ h => h) rfl) ve_int) (rowV fun _ _ h => h) ve_int (fun σ H h => h.2.2.1.1) rfl fun σ H h => tk_upd h) ?_
    refine hss_cons (P1 := fun σ H => ¬ ((ns.length : Int) < i + 1) ∧ T (i + 1) s c σ H) (hs_if (vt_gt (ve_row 1 (fun _ _ h => h) rfl) (ve_len (n := ns.length) (ve_row 0 (fun _ _ h => h) rfl) (fun σ H h => ⟨_, hnsl h, by rw [List.length_map]⟩) ml)) (hss_when fun hc => ?_) (hss_nil fun σ H h => ⟨of_decide_eq_false h.1.symm, h.2⟩)) ?_
    · let s2 : Int := (s * 48271 + 11) % 2147483647
      refine hss_cons (P1 := T (i + 1) s2 c) (hs_lset (l := l) (vs := [.ref a, .int (i + 1), .int s, .int c]) (i := 2) 2 (ve_mod (ve_toint (ve_add (ve_mul (ve_row 2 (fun _ _ h => h) rfl) ve_int (by decide)) ve_int) mi) ve_int (by decide)) (rowV fun _ _ h => h) ve_int (fun σ H h => h.2.2.1.1) rfl fun σ H h => tk_upd h) ?_
      exact hss_one (hs_ret (he_post (ve_mod (ve_toint (ve_fdiv (ve_row 2 (fun _ _ h => h) rfl) ve_int (by decide)) mi) (many fun _ _ h => h) (by omega)) fun σ v H ⟨e, t⟩ => by
        subst e
        exact hR t (by omega) (modm _).1 (modm _).2))
    refine hss_when fun hlen => ?_
    have hin : i.toNat < ns.length := by omega
    have hiN : i = (i.toNat : Int) := by omega
    refine hss_cons (P1 := fun σ H => T (i + 1) s c σ H ∧ σ[3]? = some (some (.int (ns[i.toNat])))) (hs_set 3 (he_post (ve_ix (x := .int (ns[i.toNat])) (ve_row 0 (fun _ _ h => h) rfl) (ve_sub (ve_row 1 (fun _ _ h => h) rfl) ve_int) fun σ H h => ⟨_, hnsl h, ?ga⟩) fun σ v H ⟨e, t⟩ => ?gb) scTk.nd) ?gc
    case ga =>
      have e1 : i + 1 - 1 = (i.toNat : Int) := by omega
      rw [e1]
      exact atI_nat (by rw [List.getElem?_map, List.getElem?_eq_getElem hin]; rfl)
    case gb =>
      subst e
      exact ⟨tk_set 3 (by omega) t, List.getElem?_set_self (by rw [t.2.2.2.2.2]; decide)⟩
    let cell : Int := ns[i.toNat]
    let s3 : Int := (s * 48271 + cell + 11) % 2147483647
    have cellV : ∀ {Pr : SP0} {s c : Int} {pos : Pos}, (∀ σ H, Pr σ H → T (i + 1) s c σ H ∧ σ[3]? = some (some (.int cell))) → VE X Pr (.Name "_law_cell" pos) (.int cell) := fun h => ve_var 3 fun σ H p => (h σ H p).2
    refine hss_cons (P1 := fun σ H => T (i + 1) s3 c σ H ∧ σ[3]? = some (some (.int cell))) (hs_lset (l := l) (vs := [.ref a, .int (i + 1), .int s, .int c]) (i := 2) 2 (ve_mod (ve_toint (ve_add (ve_add (ve_mul (ve_row 2 (fun _ _ h => h.1) rfl) ve_int (by decide)) (cellV fun _ _ h => h)) ve_int) mi) ve_int (by decide)) (rowV fun _ _ h => h.1) ve_int (fun σ H h => h.1.2.2.1.1) rfl fun σ H h => ⟨tk_upd h.1, h.2⟩) ?_
    refine hss_cons (P1 := fun σ H => ∃ c2, T (i + 1) s3 c2 σ H ∧ σ[3]? = some (some (.int cell))) (hs_if (vt_ge (cellV fun _ _ h => h) (ve_pow ve_int ve_int ⟨by decide, by decide, by decide⟩)) (hss_one ?_) (hss_nil fun σ H h => ⟨c, h.2⟩)) ?_
    · exact hs_lset (l := l) (vs := [.ref a, .int (i + 1), .int s3, .int c]) (i := 3) 3 (ve_fdiv (cellV fun _ _ h => h.2) (many fun _ _ h => h.2.1) ⟨by omega, by omega⟩) (rowV fun _ _ h => h.2.1) ve_int (fun σ H h => h.2.1.2.2.1.1) rfl fun σ H h => ⟨_, tk_upd h.2.1, h.2.2⟩
    refine hss_any fun c2 => ?_
    exact hss_one (hs_ret (he_post (ve_mod (ve_toint (cellV fun _ _ h => h) mi) (many fun _ _ h => h.1) (by omega)) fun σ v H ⟨e, t⟩ => by
      subst e
      exact hR t.1 (by omega) (modm _).1 (modm _).2))
  refine ⟨_, main, ⟨hj, ExB.refl H0, hrow, rfl, rfl, rfl⟩, fun _ _ z => z.elim, fun v H' ⟨k, e, h1, h2, h3, h4, h5⟩ => ?_⟩
  subst e
  exact q k H' h1 h2 h3 h4 h5
end
end FK
set_option Elab.async false
set_option linter.all false
set_option maxRecDepth 100000
set_option maxHeartbeats 2000000
/-! _law_web -/
namespace FK
open PySem PySem.Spec PyProof.Rows L2
/-- slots that are known -/
def SlS (n : Nat) (sl : List (Nat × V)) (σ : L2.St) : Prop := σ.length = n ∧ ∀ q ∈ sl, σ[q.1]? = some (some q.2)
theorem SlS.set {n j : Nat} {sl : List (Nat × V)} {σ : L2.St} {v : V} (h : SlS n sl σ) (hj : j < n) (hn : ∀ q ∈ sl, q.1 ≠ j) : SlS n ((j, v) :: sl) (σ.set j (some v)) := by
  refine ⟨by rw [List.length_set]; exact h.1, fun q hq => ?_⟩
  rcases List.mem_cons.mp hq with e | hq
  · subst e
    exact List.getElem?_set_self (by rw [h.1]; exact hj)
  · rw [List.getElem?_set_ne (Ne.symm (hn q hq))]
    exact h.2 q hq
theorem SlS.sub {n : Nat} {sl sl' : List (Nat × V)} {σ : L2.St} (h : SlS n sl σ) (hs : ∀ q ∈ sl', q ∈ sl) : SlS n sl' σ := ⟨h.1, fun q hq => h.2 q (hs q hq)⟩
section
variable {X : Cx} {P P' P1 P2 : SP0} {R : V → Hp → Prop} {e e1 e2 : Expr} {st : Stmt} {sts rest es : List Stmt} {v : V} {i k : Int} {pos p : Pos} {b c : Bool} {W : Wd}
theorem he_de {ρ : Rho} {a : AV} (h : DE X W ρ e a) (hP : ∀ σ H, P σ H → W.J H ∧ SlOk X.K H σ ρ) : HE X P e (fun σ v H' => ∃ H, P σ H ∧ Ex W H H' ∧ W.J H' ∧ AvOk X.K H' v a) :=
  pe_imp h fun σ H q ⟨p, z⟩ => ⟨(hP σ H p).1, (hP σ H p).2, fun v H' x' j' r' => z v H' ⟨H, p, x', j', r'⟩⟩
theorem ve_eq (h1 : VE X P e1 (.int i)) (h2 : VE X P e2 (.int k)) (hm : behindInMarks .Eq e2 = false := by first | rfl | exact nomark _) : VE X P (.Compare e1 [.Eq] [e2] pos) (.bl (decide (i = k))) :=
  pe_imp (pe_cmpR op_eq h1 h2 hm) fun σ H q ⟨p, z⟩ => ⟨p, fun v H1 ⟨e1, p1⟩ => ⟨p1, fun u H2 ⟨e2, p2⟩ => by
    subst e1 e2
    refine ⟨rfl, ?_⟩
    have e : decide (V.int i = V.int k) = decide (i = k) := by rw [dec_int]; exact Bool.beq_eq_decide_eq _ _
    rw [e]
    exact z _ H2 ⟨rfl, p2⟩⟩⟩
theorem ve_and {es : List Expr} (h1 : VE X P e1 (.bl b)) (h2 : VE X P (.BoolOp .And (e2 :: es) pos) (.bl c)) : VE X P (.BoolOp .And (e1 :: e2 :: es) pos) (.bl (b && c)) :=
  pe_imp (pe_and h1 h2) fun σ H q ⟨p, z⟩ => ⟨p, fun v H1 ⟨e1, p1⟩ => ⟨b, e1, by
    cases b with
    | true => exact ⟨p1, fun v2 H2 ⟨e2, p2⟩ => z v2 H2 ⟨e2, p2⟩⟩
    | false => exact z _ H1 ⟨rfl, p1⟩⟩⟩
theorem ve_or {es : List Expr} (h1 : VE X P e1 (.bl b)) (h2 : VE X P (.BoolOp .Or (e2 :: es) pos) (.bl c)) : VE X P (.BoolOp .Or (e1 :: e2 :: es) pos) (.bl (b || c)) :=
  pe_imp (pe_or h1 h2) fun σ H q ⟨p, z⟩ => ⟨p, fun v H1 ⟨e1, p1⟩ => ⟨b, e1, by
    cases b with
    | false => exact ⟨p1, fun v2 H2 ⟨e2, p2⟩ => z v2 H2 ⟨e2, p2⟩⟩
    | true => exact z _ H1 ⟨rfl, p1⟩⟩⟩
theorem ve_one {op : BoolOp} (h1 : VE X P e1 v) : VE X P (.BoolOp op [e1] pos) v := pe_one h1
/-! tests whose answer is not told -/
abbrev HTa (X : Cx) (P : SP0) (e : Expr) : Prop := HT X P e (fun σ _ H => P σ H)
abbrev HWa (X : Cx) (P : SP0) (e : Expr) : Prop := HW X P e (fun σ _ H => P σ H)
theorem hta_v (h : VT X P e b) : HTa X P e := ht_post h fun σ v H z => z.2
theorem hta_val (h : VE X P e (.bl b)) (he : ∀ whole, isTrue e X.env whole = (do let v ← whole; standAt e.pos; holding [v] (truthy v)) := by intro _; rfl) : HTa X P e :=
  pt_imp (pt_val h he) fun σ H q ⟨p, z⟩ => ⟨p, fun v H1 ⟨e1, p1⟩ => ⟨b, e1, z _ H1 p1⟩⟩
theorem hta_w (h : HWa X P e) : HTa X P e := PW.pt h
theorem hwa_and1 (h : HTa X P e) : HWa X P (.BoolOp .And [e] pos) := pw_and1 h
theorem hwa_or1 (h : HTa X P e) : HWa X P (.BoolOp .Or [e] pos) := pw_or1 h
theorem hwa_and {es : List Expr} (h1 : HTa X P e1) (h2 : HWa X P (.BoolOp .And (e2 :: es) pos)) : HWa X P (.BoolOp .And (e1 :: e2 :: es) pos) :=
  pw_imp (pw_and h1 h2) fun σ H q ⟨p, z⟩ => ⟨p, fun b H1 p1 => by
    cases b with
    | true => exact ⟨p1, fun b2 H2 p2 => z b2 H2 p2⟩
    | false => exact z _ H1 p1⟩
theorem hwa_or {es : List Expr} (h1 : HTa X P e1) (h2 : HWa X P (.BoolOp .Or (e2 :: es) pos)) : HWa X P (.BoolOp .Or (e1 :: e2 :: es) pos) :=
  pw_imp (pw_or h1 h2) fun σ H q ⟨p, z⟩ => ⟨p, fun b H1 p1 => by
    cases b with
    | false => exact ⟨p1, fun b2 H2 p2 => z b2 H2 p2⟩
    | true => exact z _ H1 p1⟩
theorem hta_eq (h1 : HE X P e1 (fun σ v H => (∃ i, v = .int i) ∧ P σ H)) (h2 : VE X P e2 (.int k)) (hm : behindInMarks .Eq e2 = false := by first | rfl | exact nomark _) : HTa X P (.Compare e1 [.Eq] [e2] pos) :=
  pt_imp (pt_cmpR op_eq h1 h2 hm) fun σ H q ⟨p, z⟩ => ⟨p, fun v H1 ⟨⟨i, e1⟩, p1⟩ => ⟨p1, fun u H2 ⟨e2, p2⟩ => by
    subst e1 e2
    exact ⟨rfl, _, rfl, z _ H2 p2⟩⟩⟩
/-- _law_taken(row, m) -/
structure TakenC (P : Program) (w : World) (K : PySem.W.Frag) (mg : Str → Option Value) (base : Heap) (W : Wd) (f : Addr) (fd : FuncData) : Prop where
  glob : mg "_law_taken" = some (.ref f)
  kp : PySem.W.keepIn K (.ref f) = true
  bi : Binds K fd ["_law_row_here", "_law_many"] []
  ok : FnOk P w K mg base CX0 1 f fd ["_law_row_here", "_law_many"] (spTk K W)
theorem he_taken {f : Addr} {fd : FuncData} {l a0 : Addr} {ns0 : List Int} {m : Int} {n0 : Nat} {Q : L2.St → V → Hp → Prop} (T : TakenC X.prog X.w X.K X.mg X.base W f fd) (hr : Room n0 X.A) (hn0 : 1 ≤ n0) (h1 : VE X P e1 (.ref l)) (h2 : VE X P e2 (.int m)) (hm1 : 1 ≤ m) (hm2 : m < 1000000) (hP : ∀ σ H, P σ H → W.J H ∧ RowAt X.K H l a0 ns0)
    (hq : ∀ σ H k H', P σ H → 0 ≤ k → k < m → ExB W l H H' → W.J H' → RowAt X.K H' l a0 ns0 → Q σ (.int k) H') (hg : Gl X "_law_taken" := by rfl)
    (s1 : starEach [e1, e2] X.env = (false, eval e1 X.env) :: starEach [e2] X.env := by rfl) (s2 : starEach [e2] X.env = (false, eval e2 X.env) :: starEach [] X.env := by rfl) (hpl : (backTo pos (starEach [e2] X.env)).any (·.1) = false := by rfl) :
    HE X P (.Call (.Name "_law_taken" p) [e1, e2] [] pos) Q :=
  pe_imp (pe_call T.ok (hr.mono hn0) hg T.glob T.kp T.bi .nil pass0 (pa_cons h1 (pa_cons h2 pa_nil s2) s1) (by decide) s1 hpl) fun σ H q ⟨p, z⟩ => ⟨p, fun v H1 ⟨e1, p1⟩ => ⟨p1, fun u H2 ⟨e2, p2⟩ => by
    subst e1 e2
    exact ⟨l, m, a0, ns0, rfl, hm1, hm2, (hP σ H2 p2).1, (hP σ H2 p2).2, fun k H' a b c d e => z _ H' (hq σ H2 k H' p2 a b c d e)⟩⟩⟩
/-- y.append(e) -/
theorem hs_append {y : Str} {p1 p2 p3 : Pos} {a : Addr} {Q1 : L2.St → V → Hp → Prop} (hy : VE X P (.Name y p1) (.ref a)) (he : HE X P e Q1) (hP : ∀ σ H, P σ H → ∃ vs, H a = some (.lst vs)) (hq : ∀ σ u H, Q1 σ u H → ∃ vs, H a = some (.lst vs) ∧ vs.length < sizeLine ∧ P' σ (upd H a (.lst (vs ++ [u]))))
    (hbase : attributeBase (.Name y p1) "append" X.env (eval (.Name y p1) X.env) = eval (.Name y p1) X.env := by rfl)
    (hfew : ((backTo p3 (starEach [e] X.env)).all (fun x => !x.1) && (backToKw p3 (keywordEach [] X.env)).all (fun x => x.1.isSome) && decide (([e] : List Expr).length + ([] : List Keyword).length + (if ([] : List Keyword).isEmpty then 0 else 1) < 30)) = true := by rfl)
    (hline : (p2.endLine == p3.line) = true := by rfl) (hst : starEach [e] X.env = (false, eval e X.env) :: starEach [] X.env := by rfl)
    (hsw : swapsWith (.Call (.Attribute (.Name y p1) "append" p2) [e] [] p3) none pos.line X.env = pure false := by rfl) : HS X P (.Expr (.Call (.Attribute (.Name y p1) "append" p2) [e] [] p3) pos) P' R :=
  ps_imp (ps_expr (pe_bm PySem.F.plainAttrs_list PySem.F.slot_list_append PySem.F.type_list_append mt_append hy (pa_cons he pa_nil hst) hbase hfew hline hst (by rfl)) hsw) fun D σ H ⟨p, q, _⟩ => ⟨p, fun v H1 ⟨e1, p1⟩ => by
    subst e1
    obtain ⟨vs, hv⟩ := hP σ H1 p1
    refine ⟨.inl ⟨rfl, _, SqL.of hv⟩, p1, fun u H2 q1 => ?_⟩
    obtain ⟨vs2, h2, h3, h4⟩ := hq σ u H2 q1
    exact ⟨a, vs2, u, rfl, rfl, h2, h3, q σ _ h4⟩⟩
theorem small62 {n : Nat} (h : n ≤ 4) : -(2 ^ 62) ≤ (n : Int) ∧ (n : Int) < 2 ^ 62 := by omega
/-- for x in range(..) -/
theorem hs_forR {it : Expr} {n : Str} {p2 : Pos} {body : List Stmt} {lo : Int} {N : Nat} {wi : TI} (k : Nat) (Inv : Nat → SP0) (hi : PI X (.Name n p2) it wi) (hw : ∀ σ H R, P σ H → (∀ H', Inv 0 σ H' → R (Itr lo N) H') → wi σ H R) (hN : X.N.Nodup) (hp : PassesOwn (model X.prog X.w) X.A X.env X.xe)
    (hb : ∀ i, i < N → HSs X (fun σ H => ∃ σ0, Inv i σ0 H ∧ σ = σ0.set k (some (.int (lo + (i : Nat))))) body (Inv (i + 1)) (fun _ _ => False)) (hend : ∀ σ H, Inv N σ H → P' σ H)
    (hc : X.calm = true := by rfl) (hk : X.N[k]? = some n := by rfl) (hx : Loc X.env.scope n := by first | exact Or.inl rfl | exact Or.inr rfl) (hf : X.fn n = true ∨ X.env.scope.names.lookup n = some .local := by first | exact .inl rfl | exact .inr rfl)
    (hs : ∀ x, foldedSetIterable it X.env x = pure x := by intro _; rfl) : HS X P (.For (.Name n p2) it body [] pos) P' R := by
  refine ps_imp (ps_for hp hc hi (pg_name hN hk hx hf) (pss_all (A := Nat) (C := fun i => i < N) (t := fun i D σ H => (∃ σ0, Inv i σ0 H ∧ σ = σ0.set k (some (.int (lo + (i : Nat))))) ∧ (∀ σ' H', Inv (i + 1) σ' H' → D.nx σ' H') ∧ ∀ v H', False → D.rt v H') fun i hi => hb i hi) hs) fun D σ H ⟨p, q, _⟩ => ?_
  refine hw σ H _ p fun H1 i1 => ⟨fun i m σ' H' => m = N - i ∧ i ≤ N ∧ Inv i σ' H', ⟨N, by simp, Nat.zero_le _, i1⟩, ?_⟩
  rintro i m σ' H' ⟨rfl, hle, iv⟩
  by_cases hlt : i < N
  · refine .inr ⟨hlt, Inv (i + 1), fun σ3 H3 i3 => ⟨N - (i + 1), by omega, rfl, hlt, i3⟩, fun v H3 hy => ?_⟩
    obtain ⟨rfl, rfl⟩ := hy
    exact ⟨i, hlt, ⟨σ', iv, rfl⟩, fun σ5 H5 z => z, fun v H' z => z.elim⟩
  · have e : i = N := by omega
    subst e
    exact .inl ⟨Nat.le_refl _, q σ' H' (hend σ' H' iv)⟩
end

section
variable {P : Program} {w : World} {K : PySem.W.Frag} {mg : Str → Option Value} {base : Heap} {W : Wd}
/-- _law_web: some web -/
def spWeb (K : PySem.W.Frag) (W : Wd) : Sp := fun vs H Q _ => ∃ (l a : Addr) (ns : List Int), vs = [.ref l, .int 4] ∧ W.J H ∧ RowAt K H l a ns ∧ ∀ n ps v H', WebOk n ps → n ≤ 4 → ps.length ≤ 16 → ExB W l H H' → W.J H' → RowAt K H' l a ns → Dq K H' v (webD n ps) → Q v H'
def WbS (K : PySem.W.Frag) (W : Wd) (H0 H1 : Hp) (l p a : Addr) (ns : List Int) (ps : List (Int × Int)) (sl : List (Nat × V)) (σ : L2.St) (H : Hp) : Prop :=
  W.J H ∧ ExB W l H0 H1 ∧ H1 p = none ∧ SqL K H1 a (ns.map V.int) ∧ ExB W l H1 H ∧ RowAt K H l a ns ∧ p ≠ l ∧ (∃ vs, H p = some (.lst vs) ∧ DqAll K H vs (ps.map prD)) ∧ SlS 8 sl σ
section
variable {H0 H1 H H' : Hp} {l p a : Addr} {ns : List Int} {ps : List (Int × Int)} {sl sl' : List (Nat × V)} {σ σ' : L2.St}
theorem row_lst (h : RowAt K H l a ns) : ∃ vs, H l = some (.lst vs) := by
  obtain ⟨i, s, c, h, _⟩ := h
  exact ⟨_, h.1⟩
theorem row_ex (h : RowAt K H l a ns) (e : Ex W H H') : RowAt K H' l a ns := by
  obtain ⟨i, s, c, ⟨h1, h2, h3⟩, h4⟩ := h
  exact ⟨i, s, c, ⟨e _ _ h1 (W.mlst _ _), e.seqL h2, h3⟩, h4⟩
theorem wb_slots (h : WbS K W H0 H1 l p a ns ps sl σ H) (hs : SlS 8 sl' σ') : WbS K W H0 H1 l p a ns ps sl' σ' H := by
  obtain ⟨h1, h2, h3, h4, h5, h6, h7, h8, _⟩ := h
  exact ⟨h1, h2, h3, h4, h5, h6, h7, h8, hs⟩
theorem wb_taken (h : WbS K W H0 H1 l p a ns ps sl σ H) (e : ExB W l H H') (j : W.J H') (r : RowAt K H' l a ns) : WbS K W H0 H1 l p a ns ps sl σ H' := by
  obtain ⟨h1, h2, h3, h4, h5, h6, h7, ⟨vs, h8, h9⟩, h10⟩ := h
  obtain ⟨ws, hl⟩ := row_lst h6
  exact ⟨j, h2, h3, h4, h5.trans e, r, h7, ⟨vs, e _ _ h7 h8 (W.mlst _ _), dpAll_noL (e.tup hl (.inl ⟨_, rfl⟩)) _ _ (noL_prs ps) h9⟩, h10⟩
theorem wb_ex (h : WbS K W H0 H1 l p a ns ps sl σ H) (e : Ex W H H') (j : W.J H') : WbS K W H0 H1 l p a ns ps sl σ H' := by
  obtain ⟨h1, h2, h3, h4, h5, h6, h7, ⟨vs, h8, h9⟩, h10⟩ := h
  exact ⟨j, h2, h3, h4, h5.trans (ExB.of e), row_ex h6 e, h7, ⟨vs, e _ _ h8 (W.mlst _ _), dpAll_mono e _ _ h9⟩, h10⟩
theorem wb_app {u : V} {q : Int × Int} {vs : List V} (h : WbS K W H0 H1 l p a ns ps sl σ H) (hv : H p = some (.lst vs)) (hu : Dq K H u (prD q)) : WbS K W H0 H1 l p a ns (ps ++ [q]) sl σ (upd H p (.lst (vs ++ [u]))) := by
  obtain ⟨h1, h2, h3, h4, h5, ⟨i, s, c, ⟨r1, r2, r3⟩, r4⟩, h7, ⟨vs', h8, h9⟩, h10⟩ := h
  rw [hv] at h8
  cases h8
  have tx : TupEx H (upd H p (.lst (vs ++ [u]))) := TupEx.lst hv
  refine ⟨W.jlst _ _ _ _ hv h1, h2, h3, h4, fun b o nb e m => ?_, ⟨i, s, c, ⟨by rw [upd_ne (Ne.symm h7)]; exact r1, sql_updF h4 h3 r2, r3⟩, r4⟩, h7, ⟨_, upd_same, ?_⟩, h10⟩
  · rw [upd_ne (ne_of_none e h3)]
    exact h5 b o nb e m
  · rw [List.map_append]
    exact dpAll_append (dpAll_noL tx _ _ (noL_prs ps) h9) (.cons (dp_noL tx _ _ rfl hu) .nil)
end
/-- pairs that are found below (x, y) -/
structure PrsOk (n : Nat) (ps : List (Int × Int)) (x y : Int) (cnt : Nat) : Prop where
  pr : ∀ q ∈ ps, 0 ≤ q.1 ∧ q.1 < q.2 ∧ q.2 < n ∧ (q.1 < x ∨ q.1 = x ∧ q.2 < y)
  up : ps.Pairwise ltP
  len : ps.length ≤ cnt
theorem PrsOk.next {n : Nat} {ps : List (Int × Int)} {x y : Int} {cnt : Nat} (h : PrsOk n ps x y cnt) : PrsOk n ps x (y + 1) (cnt + 1) :=
  ⟨fun q hq => by have := h.pr q hq; omega, h.up, by have := h.len; omega⟩
theorem PrsOk.app {n : Nat} {ps : List (Int × Int)} {x y : Int} {cnt : Nat} (h : PrsOk n ps x y cnt) (h0 : 0 ≤ x) (h1 : x < y) (h2 : y < n) : PrsOk n (ps ++ [(x, y)]) x (y + 1) (cnt + 1) := by
  refine ⟨fun q hq => ?_, ?_, ?_⟩
  · rcases List.mem_append.mp hq with z | z
    · have := h.pr q z
      omega
    · rw [List.mem_singleton] at z
      subst z
      show 0 ≤ x ∧ x < y ∧ y < n ∧ (x < x ∨ x = x ∧ y < y + 1)
      omega
  · rw [List.pairwise_append]
    refine ⟨h.up, List.pairwise_singleton _ _, fun q hq r hr => ?_⟩
    rw [List.mem_singleton] at hr
    subst hr
    have := h.pr q hq
    show q.1 < x ∨ q.1 = x ∧ q.2 < y
    omega
  · rw [List.length_append, List.length_singleton]
    have := h.len
    omega
theorem PrsOk.row {n : Nat} {ps : List (Int × Int)} {x y y' : Int} {cnt : Nat} (h : PrsOk n ps x y cnt) : PrsOk n ps (x + 1) y' cnt :=
  ⟨fun q hq => by have := h.pr q hq; omega, h.up, h.len⟩
abbrev sWeb : Stmt := topS 33
abbrev nWeb : List Str := ["_law_row_here", "_law_most", "_law_size", "_law_pairs", "_law_way", "_law_one", "_law_other", "_law_near"]
theorem scWeb : FnScope nWeb ["_law_row_here", "_law_most"] (defScope sWeb) := ⟨rfl, rfl, rfl, by decide +kernel, rfl, by decide +kernel, by decide +kernel⟩
theorem he_addL {X : Cx} {P : SP0} {e2 : Expr} {i : Int} {j0 : Nat} {p1 pos : Pos} {Q Q2 : L2.St → V → Hp → Prop} (h : HE X P e2 Q2) (hq : ∀ σ v H, Q2 σ v H → ∃ k, v = .int k ∧ Q σ (.int (i + k)) H) : HE X P (.BinOp (.Constant (.int i) j0 p1) .Add e2 pos) Q :=
  pe_imp (pe_op op_add pe_int h) fun σ H k ⟨p, z⟩ => ⟨p, fun v H' q => by
    obtain ⟨n, rfl, q'⟩ := hq σ v H' q
    exact ⟨i, n, rfl, rfl, z _ H' q'⟩⟩
/-- x, y = e, [] -/
theorem hs_parL {X : Cx} {P P' : SP0} {R : V → Hp → Prop} {i j : Nat} {x y : Str} {e : Expr} {px py pt pl : Pos} {kt k2 : Nat} {pt2 pos : Pos} {Q : L2.St → V → Hp → Prop} (hN : X.N.Nodup) (hij : i ≠ j) (he : HE X P e Q) (hq : ∀ σ v H q, Q σ v H → H q = none → P' ((σ.set i (some v)).set j (some (.ref q))) (upd H q (.lst [])))
    (hi : X.N[i]? = some x := by rfl) (hj : X.N[j]? = some y := by rfl) (hc : X.calm = true := by rfl) (hx : X.env.scope.names.lookup x = some .local := by rfl) (hy : X.env.scope.names.lookup y = some .local := by rfl)
    (hst : starEach [e, .List [] pl] X.env = (false, eval e X.env) :: starEach [.List [] pl] X.env := by rfl)
    (hw : swappedStores [.Tuple [.Name x px, .Name y py] kt pt] (.Tuple [e, .List [] pl] k2 pt2) X.env = pure (some [x, y]) := by rfl) (hs : swapsWithSole [.Tuple [.Name x px, .Name y py] kt pt] (.Tuple [e, .List [] pl] k2 pt2) pos.line X.env = pure false := by rfl) :
    HS X P (.Assign [.Tuple [.Name x px, .Name y py] kt pt] (.Tuple [e, .List [] pl] k2 pt2) pos) P' R :=
  ps_imp (ps_par hc hN hi hj hij hx hy (pa_cons he (pa_cons (pe_lst pa_nil) pa_nil (by rfl)) hst) hw hs) fun D σ H ⟨p, q, _⟩ => ⟨p, fun v H1 q1 => ⟨Nat.zero_le _, fun a ha => ⟨v, .ref a, rfl, q _ _ (hq σ v H1 a q1 ha)⟩⟩⟩
theorem sls8 {σ : L2.St} {sl : List (Nat × V)} (h : SlS 8 sl σ) (i : Nat) (v : V) (hm : (i, v) ∈ sl) : σ[i]? = some (some v) := h.2 (i, v) hm
theorem slok_of {K : PySem.W.Frag} {H : Hp} {n : Nat} {sl : List (Nat × V)} {σ : L2.St} {ρ : Rho} (h : SlS n sl σ) (hl : ρ.length = n) (hq : ∀ j a, ρ[j]? = some (some a) → ∃ v, (j, v) ∈ sl ∧ AvOk K H v a) : SlOk K H σ ρ := ⟨by rw [h.1, hl], fun i a hi => by
  obtain ⟨v, hm, r⟩ := hq i a hi
  exact ⟨v, h.2 _ hm, r⟩⟩
theorem ok_web {f ft : Addr} {fd fdt : FuncData} (F : Fun K "_law_web" "_law_web" sWeb f fd) (TC : TakenC P w K mg base W ft fdt) (mr : mg "range" = none) (mt : mg "tuple" = none) : FnOk P w K mg base CX0 2 f fd ["_law_row_here", "_law_most"] (spWeb K W) := by
  refine Fun.ok F scWeb (fun vs H Q E ⟨l, a, ns, h, _⟩ => by rw [h]; rfl) (fun cdv A outer s0 H0 vs Q E hr h => ?_)
  obtain ⟨l, a, ns, rfl, hj, hrow, q⟩ := h
  let X := (cxOf CX0 P w K mg base nWeb "_law_web" (defScope sWeb) f cdv A outer s0 H0 E).nox
  let R : V → Hp → Prop := fun v H => ∃ (n : Nat) (ps : List (Int × Int)), WebOk n ps ∧ n ≤ 4 ∧ ps.length ≤ 16 ∧ ExB W l H0 H ∧ W.J H ∧ RowAt K H l a ns ∧ Dq K H v (webD n ps)
  let P0 : SP0 := fun σ H => W.J H ∧ ExB W l H0 H ∧ RowAt K H l a ns ∧ SlS 8 [(0, .ref l), (1, .int 4)] σ
  have main : HSs X P0 (defBody sWeb) (fun _ _ => False) R := by
    refine hss_cons (P1 := fun σ H => ∃ t : Nat × Hp × Addr, (1 ≤ t.1 ∧ t.1 ≤ 4) ∧ WbS K W H0 t.2.1 l t.2.2 a ns [] [(0, .ref l), (2, .int (t.1 : Nat)), (3, .ref t.2.2)] σ H) (hs_parL (i := 2) (j := 3) (Q := fun σ v H => ∃ k : Int, 0 ≤ k ∧ k < 4 ∧ v = .int (1 + k) ∧ P0 σ H) scWeb.nd (by decide) (he_addL (he_taken (Q := fun σ v H => ∃ k : Int, 0 ≤ k ∧ k < 4 ∧ v = .int k ∧ P0 σ H) TC hr (by decide) (ve_var 0 fun σ H h => h.2.2.2.2 _ List.mem_cons_self) (ve_var 1 fun σ H h => h.2.2.2.2 _ (List.mem_cons_of_mem _ List.mem_cons_self)) (by decide) (by decide) (fun σ H h => ⟨h.1, h.2.2.1⟩) fun σ H k H' h k1 k2 e j r => ⟨k, k1, k2, rfl, j, h.2.1.trans e, r, h.2.2.2⟩) fun σ v H ⟨k, k1, k2, e, h⟩ => ⟨k, e, k, k1, k2, rfl, h⟩) fun σ v H p ⟨k, k1, k2, e, h⟩ hp => ?_) ?_
    · subst e
      obtain ⟨h1, h2, h3, h4⟩ := h
      obtain ⟨ws, hl⟩ := row_lst h3
      have pl : p ≠ l := fun z => by
        rw [z, hl] at hp
        cases hp
      obtain ⟨i, s, c, ⟨r1, r2, r3⟩, r4⟩ := id h3
      refine ⟨((1 + k).toNat, H, p), ⟨by show 1 ≤ (1 + k).toNat; omega, by show (1 + k).toNat ≤ 4; omega⟩, W.jal _ _ _ hp h1, h2, hp, r2, ExB.of (Ex.new hp), row_ex (W := W) h3 (Ex.new hp), pl, ⟨[], upd_same, .nil⟩, ?_⟩
      have e1 : (((1 + k).toNat : Nat) : Int) = 1 + k := by omega
      rw [e1]
      refine ((h4.set (j := 2) (by decide) fun q hq => ?_).set (j := 3) (by decide) fun q hq => ?_).sub fun q hq => ?_
      · simp at hq
        rcases hq with rfl | rfl <;> simp
      · simp at hq
        rcases hq with rfl | rfl | rfl <;> simp
      · simp at hq ⊢
        rcases hq with rfl | rfl | rfl <;> simp
    refine hss_any fun ⟨n, H1, p⟩ => hss_when fun ⟨hn1, hn4⟩ => ?_
    refine hss_cons (P1 := fun σ H => ∃ way : Int, WbS K W H0 H1 l p a ns [] [(0, .ref l), (2, .int (n : Nat)), (3, .ref p), (4, .int way)] σ H) (hs_set 4 (he_taken (l := l) TC hr (by decide) (ve_var 0 fun σ H h => sls8 h.2.2.2.2.2.2.2.2 0 _ (by simp)) ve_int (by decide) (by decide) (fun σ H h => ⟨h.1, h.2.2.2.2.2.1⟩) fun σ H k H' h k1 k2 e j r => ⟨k, ?_⟩) scWeb.nd) ?_
    · refine wb_slots (wb_taken h e j r) (((h.2.2.2.2.2.2.2.2).set (j := 4) (v := .int k) (by decide) fun q hq => ?_).sub fun q hq => ?_)
      · simp at hq
        rcases hq with rfl | rfl | rfl <;> simp
      · simp at hq ⊢
        rcases hq with rfl | rfl | rfl | rfl <;> simp
    refine hss_any fun way => ?_
    let B : List (Nat × V) := [(0, .ref l), (2, .int (n : Nat)), (3, .ref p), (4, .int way)]
    let Wb := fun (ps : List (Int × Int)) (sl : List (Nat × V)) => WbS K W H0 H1 l p a ns ps sl
    have sl1 : ∀ {σ : L2.St} {H : Hp} {ps : List (Int × Int)} {sl : List (Nat × V)}, Wb ps sl σ H → SlS 8 sl σ := fun h => h.2.2.2.2.2.2.2.2
    have bnot : ∀ j : Nat, 5 ≤ j → ∀ q ∈ B, q.1 ≠ j := fun j hj q hq => by
      simp [B] at hq
      rcases hq with rfl | rfl | rfl | rfl <;> (show _ ≠ j; simp; omega)
    refine hss_cons (P1 := fun σ H => ∃ ps, PrsOk n ps (n : Nat) 0 (n * n) ∧ Wb ps B σ H) (hs_forR (X := X) (lo := 0) (N := n) 5 (fun i σ H => ∃ ps, PrsOk n ps (i : Nat) 0 (i * n) ∧ Wb ps B σ H) (pi_range1 rfl mr (pa_cons (ve_var (P := fun σ H => Wb [] B σ H) (v := .int (n : Nat)) 2 fun σ H h => sls8 (sl1 h) 2 _ (by simp [B])) pa_nil)) (fun σ H R h hR => ⟨h, fun v H2 ⟨e, h2⟩ => ⟨(n : Nat), by rw [e], by omega, by omega, by
        rw [Int.toNat_natCast]
        exact hR H2 ⟨[], ⟨fun q hq => (by cases hq), List.Pairwise.nil, Nat.zero_le _⟩, h2⟩⟩⟩) scWeb.nd owns (fun i hi => ?_) fun σ H h => h) ?_
    · refine hss_one ?_
      have hx : (0 : Int) + ((i : Nat) : Int) = (i : Nat) := by omega
      refine hs_pre (P := fun σ H => ∃ ps, PrsOk n ps (i : Nat) 0 (i * n) ∧ Wb ps ((5, .int (i : Nat)) :: B) σ H) ?_ fun σ H ⟨σ0, ⟨ps, hp, h⟩, e⟩ => ⟨ps, hp, by
        rw [e, hx]
        exact wb_slots h ((sl1 h).set (by decide) (bnot 5 (by decide)))⟩
      have b5 : ∀ j : Nat, 6 ≤ j → ∀ q ∈ ((5, V.int (i : Nat)) :: B), q.1 ≠ j := fun j hj q hq => by
        rcases List.mem_cons.mp hq with z | z
        · rw [z]
          show 5 ≠ j
          omega
        · exact bnot j (by omega) q z
      refine hs_forR (X := X) (lo := ((i : Nat) : Int) + 1) (N := n - (i + 1)) 6 (fun j σ H => ∃ ps, PrsOk n ps (i : Nat) (((i : Nat) : Int) + 1 + (j : Nat)) (i * n + j) ∧ Wb ps ((5, .int (i : Nat)) :: B) σ H)
        (pi_range2 rfl mr (pa_cons (ve_add (P := fun σ H => ∃ ps, PrsOk n ps (i : Nat) 0 (i * n) ∧ Wb ps ((5, .int (i : Nat)) :: B) σ H) (i := (i : Nat)) (k := 1) (ve_var 5 fun σ H ⟨ps, _, h⟩ => sls8 (sl1 h) 5 _ (by simp)) ve_int) (pa_cons (ve_var (v := .int (n : Nat)) 2 fun σ H ⟨ps, _, h⟩ => sls8 (sl1 h) 2 _ (by simp [B])) pa_nil)))
        (fun σ H R h hR => ⟨h, fun v H2 ⟨e, h2⟩ => ⟨h2, fun u H3 ⟨e3, ps, hp, h3⟩ => ⟨((i : Nat) : Int) + 1, (n : Nat), by rw [e, e3], by omega, by
          have eN : ((n : Int) - (((i : Nat) : Int) + 1)).toNat = n - (i + 1) := by omega
          rw [eN]
          exact hR H3 ⟨ps, ⟨fun q hq => by have := hp.pr q hq; omega, hp.up, hp.len⟩, h3⟩⟩⟩⟩) scWeb.nd owns (fun j hj => ?_) fun σ H ⟨ps, hp, h⟩ => ⟨ps, ?_, wb_slots h ((sl1 h).sub fun q hq => List.mem_cons_of_mem _ hq)⟩
      · let y : Int := ((i : Nat) : Int) + 1 + (j : Nat)
        let C : List (Nat × V) := (6, .int y) :: (5, .int (i : Nat)) :: B
        refine hss_pre (P := fun σ H => ∃ ps, PrsOk n ps (i : Nat) y (i * n + j) ∧ Wb ps C σ H) ?_ fun σ H ⟨σ0, ⟨ps, hp, h⟩, e⟩ => ⟨ps, hp, by
          rw [e]
          exact wb_slots h ((sl1 h).set (by decide) (b5 6 (by decide)))⟩
        refine hss_any fun ps => hss_when fun hp => ?_
        have c7 : ∀ q ∈ C, q.1 ≠ 7 := fun q hq => by
          rcases List.mem_cons.mp hq with z | z
          · rw [z]
            show (6 : Nat) ≠ 7
            decide
          · exact b5 7 (by decide) q z
        have v5 : ∀ {pos : Pos}, VE X (Wb ps C) (.Name "_law_one" pos) (.int (i : Nat)) := ve_var 5 fun σ H h => sls8 (sl1 h) 5 _ (by simp [C])
        have v6 : ∀ {pos : Pos}, VE X (Wb ps C) (.Name "_law_other" pos) (.int y) := ve_var 6 fun σ H h => sls8 (sl1 h) 6 _ (by simp [C])
        have v2 : ∀ {pos : Pos}, VE X (Wb ps C) (.Name "_law_size" pos) (.int (n : Nat)) := ve_var 2 fun σ H h => sls8 (sl1 h) 2 _ (by simp [C, B])
        have v4 : ∀ {pos : Pos}, VE X (Wb ps C) (.Name "_law_way" pos) (.int way) := ve_var 4 fun σ H h => sls8 (sl1 h) 4 _ (by simp [C, B])
        refine hss_cons (P1 := fun σ H => ∃ b : Bool, Wb ps ((7, .bl b) :: C) σ H) (hs_set 7 (he_post (ve_or (ve_eq v6 (ve_add v5 ve_int)) (ve_one (ve_and (ve_eq v5 ve_int) (ve_and (ve_eq v6 (ve_sub v2 ve_int)) (ve_one (ve_eq v4 ve_int)))))) fun σ v H ⟨e, h⟩ => ?gnear) scWeb.nd) ?grest
        case gnear =>
          subst e
          exact ⟨_, wb_slots h ((sl1 h).set (by decide) c7)⟩
        refine hss_any fun near => ?_
        let D : List (Nat × V) := (7, .bl near) :: C
        have w0 : ∀ {pos : Pos}, VE X (Wb ps D) (.Name "_law_row_here" pos) (.ref l) := ve_var 0 fun σ H h => sls8 (sl1 h) 0 _ (by simp [D, C, B])
        have w4 : ∀ {pos : Pos}, VE X (Wb ps D) (.Name "_law_way" pos) (.int way) := ve_var 4 fun σ H h => sls8 (sl1 h) 4 _ (by simp [D, C, B])
        have w7 : ∀ {pos : Pos}, VE X (Wb ps D) (.Name "_law_near" pos) (.bl near) := ve_var 7 fun σ H h => sls8 (sl1 h) 7 _ (by simp [D])
        have w3 : ∀ {pos : Pos}, VE X (Wb ps D) (.Name "_law_pairs" pos) (.ref p) := ve_var 3 fun σ H h => sls8 (sl1 h) 3 _ (by simp [D, C, B])
        have tk : ∀ {m : Int} {j0 : Nat} {p1 p2 p3 pos : Pos}, 1 ≤ m → m < 1000000 → HE X (Wb ps D) (.Call (.Name "_law_taken" p1) [.Name "_law_row_here" p2, .Constant (.int m) j0 p3] [] pos) (fun σ v H => (∃ i, v = .int i) ∧ Wb ps D σ H) := fun h1 h2 =>
          he_taken (l := l) TC hr (by decide) w0 ve_int h1 h2 (fun σ H h => ⟨h.1, h.2.2.2.2.2.1⟩) fun σ H k H' h k1 k2 e j r => ⟨⟨k, rfl⟩, wb_taken h e j r⟩
        refine hss_one (hs_if (T := fun σ _ H => Wb ps D σ H) (hta_w (hwa_or (hta_w (hwa_and (hta_eq (tk (by decide) (by decide)) ve_int) (hwa_and1 (hta_v (vt_gt w4 ve_int))))) (hwa_or (hta_w (hwa_and (hta_val w7) (hwa_and1 (hta_v (vt_lt w4 ve_int))))) (hwa_or1 (hta_w (hwa_and (hta_v (vt_cmp (b := decide (way = 3)) op_eq w4 ve_int ?_ (nomark _))) (hwa_and1 (hta_eq (tk (by decide) (by decide)) ve_int)))))))) (hss_one ?_) (hss_nil fun σ H h => ⟨ps, ?gp, ?gw⟩))
        · intro H k q
          refine ⟨rfl, ?_⟩
          have e : decide (V.int way = V.int 3) = decide (way = 3) := by rw [dec_int]; exact Bool.beq_eq_decide_eq _ _
          rw [e]
          exact q
        · let ρt : Rho := [none, none, none, none, none, some (.d (.int (i : Nat))), some (.d (.int y)), none]
          refine hs_append w3 (he_de (W := W) (ρ := ρt) (a := .d (prD (((i : Nat) : Int), y))) (de_tup (ds := [.int (i : Nat), .int y]) (da_cons (de_var 5 rfl) (da_cons (de_var 6 rfl) da_nil)) (bigL 2 (by decide))) fun σ H h => ⟨h.1, slok_of (sl1 h) rfl fun j' a' hj' => ?_⟩) (fun σ H h => let ⟨vs, hv, _⟩ := h.2.2.2.2.2.2.2.1; ⟨vs, hv⟩) fun σ u H' ⟨H, h, x', j', r'⟩ => ?_
          · match j', hj' with
            | 5, hj' =>
              cases hj'
              exact ⟨.int (i : Nat), by simp [D, C], .int _⟩
            | 6, hj' =>
              cases hj'
              exact ⟨.int y, by simp [D, C], .int _⟩
            | 0, hj' => cases hj'
            | 1, hj' => cases hj'
            | 2, hj' => cases hj'
            | 3, hj' => cases hj'
            | 4, hj' => cases hj'
            | 7, hj' => cases hj'
            | j' + 8, hj' => simp [ρt] at hj'
          · have h2 := wb_ex h x' j'
            obtain ⟨vs, hv, hd⟩ := h2.2.2.2.2.2.2.2.1
            have hlen := dpAll_len hd
            rw [List.length_map] at hlen
            have hpl := hp.len
            have hin : i * n ≤ 4 * 4 := Nat.mul_le_mul (by omega) hn4
            refine ⟨vs, hv, by rw [hlen]; exact big _ (by omega), ps ++ [(((i : Nat) : Int), y)], ?_, wb_slots (wb_app h2 hv r') ((sl1 h2).sub fun q hq => List.mem_cons_of_mem _ (List.mem_cons_of_mem _ hq))⟩
            have e1 : ((i : Nat) : Int) + 1 + ((j + 1 : Nat) : Int) = y + 1 := by
              show _ = ((i : Nat) : Int) + 1 + (j : Nat) + 1
              omega
            have z := hp.app (by omega) (by show ((i : Nat) : Int) < ((i : Nat) : Int) + 1 + (j : Nat); omega) (by show ((i : Nat) : Int) + 1 + (j : Nat) < n; omega)
            rw [e1]
            exact z
        case gp =>
          have e1 : ((i : Nat) : Int) + 1 + ((j + 1 : Nat) : Int) = y + 1 := by
            show _ = ((i : Nat) : Int) + 1 + (j : Nat) + 1
            omega
          have z := hp.next
          rw [e1]
          exact z
        case gw => exact wb_slots h ((sl1 h).sub fun q hq => List.mem_cons_of_mem _ (List.mem_cons_of_mem _ hq))
      · have z := hp.row (y' := 0)
        have e1 : ((i + 1 : Nat) : Int) = ((i : Nat) : Int) + 1 := by omega
        rw [e1]
        refine ⟨z.pr, z.up, Nat.le_trans z.len ?_⟩
        rw [Nat.add_mul, Nat.one_mul]
        omega
    refine hss_any fun ps => hss_when fun hp => ?_
    let ρt : Rho := [none, none, some (.d (.int (n : Nat))), some (.d (.list (ps.map prD))), none, none, none, none]
    refine hss_one (hs_ret (he_post (he_de (W := W) (ρ := ρt) (a := .d (webD n ps)) (de_tup (ds := [.int (n : Nat), .tuple (ps.map prD)]) (da_cons (de_var 2 rfl) (da_cons (de_tupleL (de_var 3 rfl) mt) da_nil)) (bigL 2 (by decide))) fun σ H h => ⟨h.1, slok_of (sl1 h) rfl fun j' a' hj' => ?_⟩) fun σ v H' ⟨H, h, x', j', r'⟩ => ?_))
    · match j', hj' with
      | 2, hj' =>
        cases hj'
        exact ⟨.int (n : Nat), by simp [B], .int _⟩
      | 3, hj' =>
        cases hj'
        obtain ⟨vs, hv, hd⟩ := h.2.2.2.2.2.2.2.1
        exact ⟨.ref p, by simp [B], .lst hv hd⟩
      | 0, hj' => cases hj'
      | 1, hj' => cases hj'
      | 4, hj' => cases hj'
      | 5, hj' => cases hj'
      | 6, hj' => cases hj'
      | 7, hj' => cases hj'
      | j' + 8, hj' => simp [ρt] at hj'
    · have hl := hp.len
      have hnn : n * n ≤ 4 * 4 := Nat.mul_le_mul hn4 hn4
      obtain ⟨h1, h2, h3, h4, h5, h6, h7, h8, h9⟩ := h
      exact ⟨n, ps, ⟨hn1, by omega, fun q hq => let z := hp.pr q hq; ⟨z.1, z.2.1, z.2.2.1⟩, hp.up, by omega⟩, hn4, by omega, (h2.trans h5).trans (ExB.of x'), j', row_ex h6 x', r'⟩
  refine ⟨_, main, ⟨hj, ExB.refl H0, hrow, rfl, fun q hq => ?_⟩, fun _ _ z => z.elim, fun v H' ⟨n, ps, h1, h2, h3, h4, h5, h6, h7⟩ => q n ps v H' h1 h2 h3 h4 h5 h6 h7⟩
  simp at hq
  rcases hq with rfl | rfl <;> rfl
end
end FK
set_option Elab.async false
set_option linter.all false
set_option maxRecDepth 100000
set_option maxHeartbeats 2000000
/-! sorted(a list of tuples of ints, the empty one first) -/
namespace FK
open PySem PySem.Spec PyProof.Rows L2 PySem.W
/-- v is a tuple of these numbers -/
def IsTp (h : Heap) (v : Value) (ns : List Int) : Prop := ∃ (a : Addr) (dd : Option Addr) (items : Array Value) (n : Nat) (sl : Array (Option Value)), v = .ref a ∧ h.get? a = some { cls := .type "tuple", dict := dd, data := .seq items n, slots := sl } ∧ IntsAre items.toList ns
theorem IsTp.keeps {h h' : Heap} {v : Value} {ns : List Int} (x : IsTp h v ns) (k : ∀ b o, v = .ref b → h.get? b = some o → o.cls = .type "tuple" → h'.get? b = some o) : IsTp h' v ns := by
  obtain ⟨a, dd, items, n, sl, e, g, i⟩ := x
  exact ⟨a, dd, items, n, sl, e, k _ _ e g rfl, i⟩
theorem IsTp.type {M : Model} {h : Heap} {v : Value} {ns : List Int} (x : IsTp h v ns) : Looks M h (typeOf v) (.type "tuple") := by
  obtain ⟨a, dd, items, n, sl, rfl, g, i⟩ := x
  exact (Looks.ld g).andThen .now
theorem istup_inst {M : Model} {h : Heap} {v : Value} (x : Looks M h (typeOf v) (.type "tuple")) : Looks M h (isInstance v (.type "tuple")) true := x.andThen (Looks.of_pure isSubtype_tuple_tuple)
section
variable {prog : Program} {w : World} {A : Around} {E : Value → Shared → Prop} {s : Shared}
theorem call_tp {a b : Addr} {dd dd2 : Option Addr} {items items2 : Array Value} {n n2 : Nat} {sl sl2 : Array (Option Value)} {ns ms : List Int} {Q : Value → Shared → Prop} (ga : s.heap.get? a = some { cls := .type "tuple", dict := dd, data := .seq items n, slots := sl })
    (gb : s.heap.get? b = some { cls := .type "tuple", dict := dd2, data := .seq items2 n2, slots := sl2 }) (ia : IntsAre items.toList ns) (ib : IntsAre items2.toList ms) (iv : Looks (model prog w) s.heap (isInstance (.ref a) (.type "tuple")) true)
    (iu : ∀ M : Model, Looks M s.heap (isInstance (.ref b) (.type "tuple")) true) (h : Q (.bool (HT.lexLt ns ms)) s) : wpAny (model prog w) A (call (.builtin "tuple.__lt__") [.ref a, .ref b]) Q E s := by
  refine wpAny_call (codeAny_call_builtin PySem.F.slot_tuple_lt.plain PySem.F.entry_tuple_lt (@check_slot (model prog w) _ _ _ "tuple.__lt__" "tuple" "__lt__" (.ref a) [.ref b] [] _ (by decide +kernel) (by decide +kernel) iv (PySem.F.args_tuple_lt_2 _ _) ?_))
  refine wpAny_mono (NtL.nt_lt_ints a b (.type "tuple") (.type "tuple") items items2 n n2 dd dd2 sl sl2 ns ms ia ib prog w _ (wants Q E) s ⟨ga, gb, iu, h⟩) (fun fin s' q => ?_) fun _ _ z => z
  cases fin with
  | done f => exact q
  | again c => exact q
theorem lt_tp {v u : Value} {ns ms : List Int} {Q : Bool → Shared → Prop} (hu : A.units < cLine) (hv : IsTp s.heap v ns) (hw : IsTp s.heap u ms) (h : Q (HT.lexLt ns ms) s) : wpAny (model prog w) A (keyLt' oneType' v u) Q E s := by
  have tv : Looks (model prog w) s.heap (typeOf v) (.type "tuple") := hv.type
  have iu : ∀ M : Model, Looks M s.heap (isInstance u (.type "tuple")) true := fun M => istup_inst hw.type
  obtain ⟨a, dd, items, n, sl, rfl, ga, ia⟩ := hv
  obtain ⟨b, dd2, items2, n2, sl2, rfl, gb, ib⟩ := hw
  rw [keyLt'_oneType, oneLt'_eq]
  simp only [if_true]
  refine wpAny_bind (wpAny_cRoomFor hu ?_)
  refine wpAny_bind (wpAny_callSpecialIfBound?_slot (T := "tuple") ⟨_, ga, rfl⟩ PySem.F.slot_tuple_lt (call_tp ga gb ia ib (istup_inst tv) iu ?_))
  exact wpAny_truthy_bool h
/-- what a tuple's first item is -/
def headsV (h : Heap) (v : Value) (f : Option Value) : Prop := ∃ (a : Addr) (dd : Option Addr) (items : Array Value) (n : Nat) (sl : Array (Option Value)), v = .ref a ∧ h.get? a = some { cls := .type "tuple", dict := dd, data := .seq items n, slots := sl } ∧ f = items[0]?
theorem first_tp {M : Model} {v : Value} {f : Option Value} {Q : Option Value → Shared → Prop} (hv : headsV s.heap v f) (h : Q f s) : wpAny M A (firstOfTuple' v) Q E s := by
  obtain ⟨a, dd, items, n, sl, rfl, ga, rfl⟩ := hv
  rw [kas_first_eq]
  have tv : Looks M s.heap (typeOf (.ref a)) (.type "tuple") := (Looks.ld ga).andThen .now
  refine wpAny_bind (tv.here ?_)
  rw [if_neg (by decide)]
  refine wpAny_bind (listItems_at ga rfl ?_)
  exact wpAny_pure h
theorem mapM_firsts {M : Model} : ∀ (l : List Value) (fs : List (Option Value)) {Q : List (Option Value) → Shared → Prop}, l.length = fs.length → (∀ p ∈ l.zip fs, headsV s.heap p.1 p.2) → Q fs s → wpAny M A (l.mapM firstOfTuple') Q E s
  | [], [], _, _, _, h => by rw [List.mapM_nil]; exact wpAny_pure h
  | x :: l, f :: fs, Q, hl, hf, h => by
    rw [List.mapM_cons]
    exact wpAny_bind (first_tp (hf (x, f) (by simp)) (wpAny_bind (mapM_firsts l fs (Q := fun bs s' => wpAny M A (pure (f :: bs)) Q E s') (by simpa using hl) (fun p hp => hf p (by rw [List.zip_cons_cons]; exact List.mem_cons_of_mem _ hp)) (wpAny_pure h))))
  | [], _ :: _, _, hl, _, _ => by simp at hl
  | _ :: _, [], _, hl, _, _ => by simp at hl
theorem heads_of : ∀ {vs : List Value}, (∀ v ∈ vs, ∃ ns, IsTp s.heap v ns) → ∃ fs : List (Option Value), vs.length = fs.length ∧ ∀ p ∈ vs.zip fs, headsV s.heap p.1 p.2
  | [], _ => ⟨[], rfl, fun p hp => by simp at hp⟩
  | v :: vs, h => by
    obtain ⟨fs, h1, h2⟩ := heads_of (vs := vs) fun u hu => h u (List.mem_cons_of_mem _ hu)
    obtain ⟨ns, a, dd, items, n, sl, e, g, i⟩ := h v List.mem_cons_self
    refine ⟨items[0]? :: fs, by simp [h1], fun p hp => ?_⟩
    rw [List.zip_cons_cons] at hp
    rcases List.mem_cons.mp hp with z | z
    · subst z
      exact ⟨a, dd, items, n, sl, e, g, rfl⟩
    · exact h2 p z
theorem kind_tp {M : Model} {v : Value} {vs : List Value} {Q : SortKind → Shared → Prop} (h0 : IsTp s.heap v []) (hv : ∀ u ∈ vs, ∃ ns, IsTp s.heap u ns) (h : Q oneType' s) : wpAny M A (keyKind' (v :: vs).toArray) Q E s := by
  obtain ⟨fs, h1, h2⟩ := heads_of hv
  have hh : headsV s.heap v none := by
    obtain ⟨a, dd, items, n, sl, e, g, i⟩ := h0
    refine ⟨a, dd, items, n, sl, e, g, ?_⟩
    have e0 : items.toList = [] := by
      generalize items.toList = l at i
      cases i
      rfl
    have e1 : items = #[] := by
      apply Array.toList_inj.mp
      rw [e0]
    rw [e1] <;> rfl
  have tys : ∀ u ∈ v :: vs, Looks M s.heap (typeOf u) (.type "tuple") := fun u hu => by
    rcases List.mem_cons.mp hu with z | z
    · rw [z]
      exact h0.type
    · obtain ⟨ns, x⟩ := hv u z
      exact x.type
  rw [keyKind'_eq, List.mapM_toArray, map_eq_pure_bind]
  refine wpAny_bind (wpAny_bind (mapM_firsts (v :: vs) (none :: fs) (by simp [h1]) (fun p hp => ?_) (wpAny_pure ?_)))
  · rw [List.zip_cons_cons] at hp
    rcases List.mem_cons.mp hp with z | z
    · rw [z]
      exact hh
    · exact h2 p z
  · rw [if_neg (by simp), if_neg (by simp)]
    rw [oneTypeOnly'_eq, List.mapM_toArray, map_eq_pure_bind]
    refine wpAny_bind (wpAny_bind (wpAny_bind (kas_mapM (r := Value.type "tuple") _ (fun u hu Q' hq => (tys u hu).here hq) (wpAny_pure ?_))))
    have hall : ((List.map (fun _ => Value.type "tuple") (v :: vs)).toArray.all fun x => x == Value.type "tuple") = true := by
      simp only [List.all_toArray, List.all_map, List.all_eq_true]
      intro _ _
      rfl
    have h0 : (List.map (fun _ => Value.type "tuple") (v :: vs)).toArray[0]? = some (Value.type "tuple") := by simp
    rw [h0]
    simp only [hall, if_true]
    exact wpAny_pure (wpAny_pure h)
theorem tp_sortable {a : Addr} {v : Value} {vs : List Value} {k : Value → List Int} (hu : A.units < cLine) (h0 : k v = []) (hv : ∀ u ∈ v :: vs, IsTp s.heap u (k u)) (ha : ∀ o, s.heap.get? a = some o → o.cls ≠ .type "tuple") : SrtO.SortableO prog w A s a (v :: vs) fun v u => HT.lexLt (k v) (k u) := by
  intro h' keep
  have hv' : ∀ u ∈ v :: vs, IsTp h' u (k u) := fun u hm => (hv u hm).keeps fun b o e g c => keep b o (fun z => ha o (by rw [← z]; exact g) c) g
  refine ⟨oneType', fun Q E hq => kind_tp (s := { s with heap := h' }) (h0 ▸ hv' v List.mem_cons_self) (fun u hm => ⟨_, hv' u (List.mem_cons_of_mem _ hm)⟩) hq, fun p q hp hq => ?_⟩
  exact lt_tp (s := { s with heap := h' }) (Q := fun r s' => s' = { s with heap := h' } ∧ r = HT.lexLt (k p.1) (k q.1)) (E := fun _ _ => False) hu (hv' p.1 hp) (hv' q.1 hq) ⟨rfl, rfl⟩
end
/-- sorted(xs), xs a list of tuples of ints, the first one empty: a new list of the same ones -/
def rSortedTp (K : PySem.W.Frag) : List V → Hp → VK → Prop := fun vs H Q => ∃ (a : Addr) (x : V) (xs : List V) (k : V → List Int), vs = [V.ref a] ∧ SqL K H a (x :: xs) ∧ (∀ y ∈ x :: xs, ∃ t, y = V.ref t ∧ SqT K H t ((k y).map V.int)) ∧ k x = [] ∧
  ∀ ys p, ys.Perm (x :: xs) → H p = none → Q (.ref p) (upd H p (.lst ys))
section
variable {X : Cx}
theorem cr_sortedTp (hu : X.A.units + 64 < cLine) : CallR X (.builtin "sorted") (rSortedTp X.K) := by
  intro pins s σ H vs us Q I r h
  obtain ⟨a, x, xs, k, rfl, hs, hx, hk, q⟩ := h
  obtain ⟨its, rv, hl, hz⟩ := I.list hs
  obtain ⟨u, rfl, ru⟩ := vals1 r
  obtain rfl : u = Value.ref a := ru
  obtain ⟨e1, e2⟩ := refs_back rv fun y m => by
    obtain ⟨t, e, _⟩ := hx y m
    exact ⟨t, e⟩
  have hT : ∀ v ∈ its, IsTp s.heap v (k (backV v)) := fun v hv => by
    obtain ⟨t, rfl⟩ := e2 v hv
    have hm : V.ref t ∈ x :: xs := by rw [e1]; exact List.mem_map.mpr ⟨_, hv, rfl⟩
    obtain ⟨t', e, ht⟩ := hx _ hm
    cases e
    obtain ⟨its2, r2, ⟨o, ho, hc, n, hd⟩, _⟩ := I.tuple ht
    obtain ⟨oc, od, oda, osl⟩ := o
    simp only at hc hd
    subst hc hd
    exact ⟨t, od, its2.toArray, n, osl, rfl, ho, r2.ints⟩
  match its, rv, hl, e1, e2, hT with
  | [], rv, _, _, _, _ => cases rv
  | v :: rest, rv, hl, e1, e2, hT =>
    have ex : x = backV v := by
      rw [List.map_cons] at e1
      exact (List.cons.inj e1).1
    refine SrtO.sorted_ord (NtL.swo_lexL fun u => k (backV u)) hl.isList (by rw [← rv.length]; exact hz) (fun h2 h₁ a' ha' kk => ?_) fun out h1 h2 => ?_
    · refine tp_sortable (s := { s with heap := h₁ }) (by show X.A.units + _ + _ < cLine; omega) (by rw [← ex]; exact hk) (fun u hm => (hT u hm).keeps fun b o e g _ => (kk b o g).2) fun o e => ?_
      have e' : some o = some (seqObj "list" (v :: rest).toArray 0) := e.symm.trans ha'
      cases e'
      intro c
      exact absurd (Value.type.inj c) (by decide)
    · have h3 : ∀ u ∈ out, ∃ a, u = Value.ref a := fun u hu => e2 u (h2.perm.mem_iff.mp hu)
      obtain ⟨ep, he'⟩ := PyProof.Rows.sortedAll_at s.heap (v :: rest) out.toArray
      have hp : (out.map backV).Perm (x :: xs) := by
        rw [e1]
        exact h2.perm.map backV
      refine ⟨.ref _, upd H (s.heap.objs.size + 1) (.lst (out.map backV)), I.laid (t' := s.toks) (fun _ _ => PyProof.Rows.sortedAll_old) (Nat.le_succ _) ⟨?_, out, ep, vals_back h3, he'⟩, rfl, q _ _ hp (I.hok.fresh (Nat.le_succ _))⟩
      rw [hp.length_eq]
      exact hz
end
end FK
set_option Elab.async false
set_option linter.all false
set_option maxRecDepth 100000
set_option maxHeartbeats 2000000
/-! _law_lots: all lots, in some order -/
namespace FK
open PySem PySem.Spec PyProof.Rows L2
/-! results that are told by a set of answers -/
section
variable (K : PySem.W.Frag) (W : Wd) (ρ : Rho) (A : AV → Prop)
def nE : TE := fun σ H Q => W.J H ∧ SlOk K H σ ρ ∧ ∀ a, A a → ∀ v H', Ex W H H' → W.J H' → AvOk K H' v a → Q v H'
def nS : TS := fun D σ H => W.J H ∧ SlOk K H σ ρ ∧ ∀ a, A a → ∀ v H', Ex W H H' → W.J H' → AvOk K H' v a → D.rt v H'
end
abbrev NE (X : Cx) (W : Wd) (ρ : Rho) (e : Expr) (A : AV → Prop) : Prop := PE X e (nE X.K W ρ A)
abbrev NSs (X : Cx) (W : Wd) (ρ : Rho) (sts : List Stmt) (A : AV → Prop) : Prop := PSs X sts (nS X.K W ρ A)
def nSp (K : PySem.W.Frag) (W : Wd) (n : Nat) (D : List AV → Prop) (F : Rel) : Sp := fun vs H Q _ => vs.length = n ∧ W.J H ∧ ∃ as, AvAll K H vs as ∧ D as ∧ ∀ r, F as r → ∀ v H', Ex W H H' → W.J H' → AvOk K H' v r → Q v H'
/-- the name x calls a def of n parameters: at arguments of D some answer of F -/
def NCallee (P : Program) (w : World) (K : PySem.W.Frag) (mg : Str → Option Value) (base : Heap) (x : Str) (n k : Nat) (W : Wd) (D : List AV → Prop) (F : Rel) : Prop :=
  ∃ (f : Addr) (fd : FuncData) (ps : List Str), mg x = some (.ref f) ∧ PySem.W.keepIn K (.ref f) = true ∧ Binds K fd ps [] ∧ ps.length = n ∧ FnOk P w K mg base CX0 k f fd ps (nSp K W ps.length D F)
section
variable {X : Cx} {W W' : Wd} {ρ ρ' : Rho} {e : Expr} {es : List Expr} {st : Stmt} {rest : List Stmt} {as : List AV} {A : AV → Prop} {x : Str} {n k : Nat} {D : List AV → Prop} {F : Rel} {p pos : Pos}
theorem nss_cons (h1 : DS X W ρ st (.nx ρ')) (h2 : NSs X W ρ' rest A) : NSs X W ρ (st :: rest) A :=
  pss_imp (pss_cons h1 h2) fun D σ H ⟨j, s, q⟩ => ⟨j, s, fun σ' H' x j' s' => ⟨j', s', fun a ha v H2 x2 j2 r => q a ha v H2 (x.trans x2) j2 r⟩⟩
theorem nss_ret (h : NE X W ρ e A) : NSs X W ρ [.Return (some e) pos] A :=
  pss_imp (pss_one (ps_ret h)) fun D σ H ⟨j, s, q⟩ => ⟨j, s, q⟩
theorem ne_call (C : NCallee X.prog X.w X.K X.mg X.base x n k W' D F) (sub : Sub W' W) (hr : Room k X.A) (ha : DA X W ρ (e :: es) as) (hF : D as) (hl : as.length = n := by rfl) (hg : Gl X x := by rfl) (hdb : (x == ("__debug__" : Str)) = false := by decide)
    (he : starEach (e :: es) X.env = (false, eval e X.env) :: starEach es X.env := by rfl) (hpl : (backTo pos (starEach es X.env)).any (·.1) = false := by rfl) : NE X W ρ (.Call (.Name x p) (e :: es) [] pos) (F as) := by
  obtain ⟨f, fd, ps, h1, h2, h3, h4, h5⟩ := C
  refine pe_imp (pe_call h5 hr hg h1 h2 h3 .nil pass0 ha hdb he hpl) fun σ H Q ⟨j, s, q⟩ => ⟨j, s, fun vs H1 x1 j1 r1 => ?_⟩
  show nSp X.K W' ps.length D F (vs ++ []) H1 Q E0
  rw [List.append_nil]
  exact ⟨by rw [avAll_len r1, hl, h4], sub.j _ j1, as, r1, hF, fun r hr v H2 x2 j2 r2 => q r hr v H2 (x1.trans (sub.ex x2)) (sub.st _ _ j1 x2 j2) r2⟩
end
section
variable {P : Program} {w : World} {K : PySem.W.Frag} {mg : Str → Option Value} {base : Heap}
theorem n_def {x qual : Str} {st : Stmt} {f : Addr} {fd : FuncData} {N ps : List Str} {k : Nat} {D : List AV → Prop} {F : Rel} {W : Wd} (Fn : Fun K x qual st f fd) (S : FnScope N ps (defScope st))
    (hbody : ∀ (cdv : Value) (A : Around) (outer : List Env) (s : Shared) (H : Hp), Room k (A.deeper (envOfC qual (defScope st) s.heap.objs.size f cdv)) → ∀ as, as.length = ps.length → D as →
      NSs (cxOf CX0 P w K mg base N qual (defScope st) f cdv A outer s H E0).nox W (startR N as) (defBody st) (F as)) : FnOk P w K mg base CX0 (k + 1) f fd ps (nSp K W ps.length D F) := by
  refine Fn.ok S (fun vs H Q E h => h.1) (fun cdv A outer s H vs Q E hr h => ?_)
  obtain ⟨hn, hj, as, ha, hD, q⟩ := h
  exact ⟨_, hbody cdv A outer s H hr as (by rw [← avAll_len ha, hn]) hD, hj, start_ok ha, fun a ha v H' x' j' r' => q a ha v H' x' j' r'⟩
theorem ncallee_of {x : Str} {st : Stmt} {f : Addr} {fd : FuncData} {ps : List Str} {n k : Nat} {D : List AV → Prop} {F : Rel} {W : Wd} (hm : mg x = some (.ref f)) (Fn : Fun K x x st f fd) (hb : Binds K fd ps []) (hn : ps.length = n) (h : FnOk P w K mg base CX0 k f fd ps (nSp K W ps.length D F)) : NCallee P w K mg base x n k W D F :=
  ⟨f, fd, ps, hm, Fn.kp, hb, hn, h⟩
end
/-! sorted -/
theorem dpAll_perm {K : PySem.W.Frag} {H : Hp} {ys xs : List V} (p : ys.Perm xs) : ∀ {gs : List (List Int)}, DqAll K H xs (gs.map tupD) → ∃ hs : List (List Int), hs.Perm gs ∧ DqAll K H ys (hs.map tupD) := by
  induction p with
  | nil => exact fun {gs} h => ⟨gs, List.Perm.refl _, h⟩
  | cons x _ ih =>
    intro gs h
    match gs, h with
    | g :: gs, .cons h1 h2 =>
      obtain ⟨hs, q, r⟩ := ih h2
      exact ⟨g :: hs, q.cons g, .cons h1 r⟩
  | swap x y l =>
    intro gs h
    match gs, h with
    | g :: g2 :: gs, .cons h1 (.cons h2 h3) => exact ⟨g2 :: g :: gs, List.Perm.swap _ _ _, .cons h2 (.cons h1 h3)⟩
  | trans _ _ ih1 ih2 =>
    intro gs h
    obtain ⟨hs, q, r⟩ := ih2 h
    obtain ⟨hs2, q2, r2⟩ := ih1 r
    exact ⟨hs2, q2.trans q, r2⟩
open Classical in
theorem keyOf_ex {K : PySem.W.Frag} {H : Hp} {x : V} {xs : List V} {gs : List (List Int)} (h : DqAll K H (x :: xs) (([] :: gs).map tupD)) : ∃ k : V → List Int, k x = [] ∧ ∀ y ∈ x :: xs, ∃ t, y = V.ref t ∧ SqT K H t ((k y).map V.int) := by
  have all : ∀ {ys : List V} {gs : List (List Int)}, DqAll K H ys (gs.map tupD) → ∀ y ∈ ys, ∃ ns : List Int, ∃ t, y = V.ref t ∧ SqT K H t (ns.map V.int) := by
    intro ys
    induction ys with
    | nil => intro gs _ y hy; cases hy
    | cons z zs ih =>
      intro gs h y hy
      match gs, h with
      | g :: gs, .cons h1 h2 =>
        rcases List.mem_cons.mp hy with e | hy
        · subst e
          obtain ⟨t, us, e, hs, ha⟩ := dp_tup h1
          rw [dpAll_ints ha] at hs
          exact ⟨g, t, e, hs⟩
        · exact ih h2 y hy
  have h0 : ∃ t, x = V.ref t ∧ SqT K H t (([] : List Int).map V.int) := by
    cases h with
    | cons h1 h2 =>
      obtain ⟨t, us, e, hs, ha⟩ := dp_tup h1
      have e2 := dpAll_ints (ns := []) ha
      rw [e2] at hs
      exact ⟨t, e, hs⟩
  refine ⟨fun y => if y = x then [] else if q : ∃ ns : List Int, ∃ t, y = V.ref t ∧ SqT K H t (ns.map V.int) then Classical.choose q else [], by simp, fun y hy => ?_⟩
  by_cases e : y = x
  · subst e
    simp only [if_true]
    exact h0
  · have q := all h y hy
    simp only [if_neg e, dif_pos q]
    exact Classical.choose_spec q
section
variable {X : Cx} {W : Wd} {ρ : Rho} {e : Expr} {p pos : Pos}
theorem ne_sortedTp {gs : List (List Int)} (hu : X.A.units + 64 < cLine) (h : DE X W ρ e (.d (.list (([] :: gs).map tupD)))) (hm : X.mg "sorted" = none) (hg : Gl X "sorted" := by rfl) (he : starEach [e] X.env = (false, eval e X.env) :: starEach [] X.env := by rfl) :
    NE X W ρ (.Call (.Name "sorted" p) [e] [] pos) (fun a => ∃ hs : List (List Int), hs.Perm ([] :: gs) ∧ a = .d (.list (hs.map tupD))) :=
  pe_imp (pe_callB (cr_sortedTp hu) hg hm boot_sorted (da_cons h da_nil he) (by decide) (by decide) he) fun σ H Q ⟨j, s, q⟩ => ⟨j, s, fun vs H1 x1 j1 r1 => by
    obtain ⟨v, rfl, r⟩ := av1 r1
    obtain ⟨a, xs, rfl, hs0, ha⟩ := dp_lst r
    match xs, hs0, ha with
    | x :: xs, hs0, ha =>
      obtain ⟨k, k0, k1⟩ := keyOf_ex ha
      refine ⟨a, x, xs, k, rfl, SqL.of hs0, k1, k0, fun ys pp hp hn => ?_⟩
      obtain ⟨hs, h1, h2⟩ := dpAll_perm hp ha
      exact q _ ⟨hs, h1, rfl⟩ _ _ (x1.trans (Ex.new hn)) (W.jal _ _ _ hn j1) (.lst upd_same (dpAll_mono (W := W) (Ex.new hn) _ _ h2))⟩
end
/-! _law_lots -/
def lotsOf (pre : List Int) : List (List Int) := pre.foldl (fun f p => f ++ f.map (· ++ [p])) [[]]
theorem lots_snoc (pre : List Int) (p : Int) : lotsOf (pre ++ [p]) = lotsOf pre ++ (lotsOf pre).map (· ++ [p]) := by
  unfold lotsOf
  rw [List.foldl_append]
  rfl
theorem list_snoc_ind {α : Type} {C : List α → Prop} (h0 : C []) (h1 : ∀ l a, C l → C (l ++ [a])) : ∀ l, C l := by
  intro l
  have : ∀ m : List α, C m.reverse := fun m => by
    induction m with
    | nil => exact h0
    | cons a m ih =>
      rw [List.reverse_cons]
      exact h1 _ _ ih
  rw [← List.reverse_reverse l]
  exact this _
theorem lots_len (pre : List Int) : (lotsOf pre).length = 2 ^ pre.length := by
  refine list_snoc_ind (C := fun pre => (lotsOf pre).length = 2 ^ pre.length) rfl (fun l a ih => ?_) pre
  rw [lots_snoc, List.length_append, List.length_map, ih, List.length_append, List.length_singleton, Nat.pow_succ]
  omega
theorem lots_head (pre : List Int) : ∃ r, lotsOf pre = [] :: r := by
  refine list_snoc_ind (C := fun pre => ∃ r, lotsOf pre = [] :: r) ⟨[], rfl⟩ (fun l a ⟨r, ih⟩ => ?_) pre
  rw [lots_snoc, ih]
  exact ⟨_, rfl⟩
theorem lots_sub (pre : List Int) : ∀ g ∈ lotsOf pre, g.Sublist pre := by
  refine list_snoc_ind (C := fun pre => ∀ g ∈ lotsOf pre, g.Sublist pre) (fun g hg => ?_) (fun l a ih g hg => ?_) pre
  · have : g = [] := by simpa [lotsOf] using hg
    rw [this]
    exact List.Sublist.refl _
  · rw [lots_snoc] at hg
    rcases List.mem_append.mp hg with z | z
    · exact (ih g z).trans (List.sublist_append_left _ _)
    · obtain ⟨g', hg', rfl⟩ := List.mem_map.mp z
      exact (ih g' hg').append (List.Sublist.refl _)
theorem filt_all {α : Type} (l : List α) : (l.filter fun _ => true) = l := List.filter_eq_self.mpr fun _ _ => rfl
theorem noL_tupD (g : List Int) : noL (tupD g) = true := by
  show noLs (g.map .int) = true
  exact noLs_ints g
abbrev sLots : Stmt := topS 37
abbrev nLots : List Str := ["_law_web_here", "_law_found", "_law_person", "_law_one"]
theorem scLots : FnScope nLots ["_law_web_here"] (defScope sLots) := ⟨rfl, rfl, rfl, by decide +kernel, rfl, by decide +kernel, by decide +kernel⟩
def DLots (as : List AV) : Prop := ∃ (n : Nat) (ps : List (Int × Int)), n ≤ 4 ∧ as = [.d (webD n ps)]
def FLots : Rel := fun as r => ∃ (n : Nat) (ps : List (Int × Int)) (gs : List (List Int)), as = [.d (webD n ps)] ∧ gs.Perm (lotsOf (ppl n)) ∧ r = .d (.list (gs.map tupD))
section
variable {P : Program} {w : World} {K : PySem.W.Frag} {mg : Str → Option Value} {base : Heap} {W : Wd}
theorem ok_lots {f : Addr} {fd : FuncData} (F : Fun K "_law_lots" "_law_lots" sLots f fd) (mr : mg "range" = none) (ms : mg "sorted" = none) : FnOk P w K mg base CX0 1 f fd ["_law_web_here"] (nSp K W 1 DLots FLots) := by
  refine n_def (k := 0) F scLots fun cdv A outer s H hr as hl hD => ?_
  obtain ⟨n, ps, hn, rfl⟩ := hD
  let ρs : List Int → Rho := fun pre => [some (.d (webD n ps)), some (.d (.list ((lotsOf pre).map tupD))), none, none]
  obtain ⟨r, hr2⟩ := lots_head (ppl n)
  have hun : (A.deeper (envOfC "_law_lots" (defScope sLots) s.heap.objs.size f cdv)).units + 64 < cLine := by
    have := hr.un
    omega
  refine nss_cons (ρ' := ρs []) (ds_set 1 (a := .d (.list [tupD []])) (de_lst (ds := [tupD []]) (da_cons (de_tup (ds := []) da_nil (bigL 0 (by decide))) da_nil) (bigL 1 (by decide))) scLots.nd) (nss_cons (ds_forN 2 (ppl n) (fun k => .d (.int k)) ρs scLots.nd owns ?_ (RLe.of_eq rfl) fun pre q post e => ?_) (nss_ret (pe_imp (ne_sortedTp (gs := r) hun (de_is (de_var 1 rfl) (by rw [hr2])) ms) fun σ H Q ⟨j, s, z⟩ => ⟨j, s, fun a ⟨hs, h1, h2⟩ => z a ⟨n, ps, hs, rfl, by rw [hr2]; exact h1, h2⟩⟩)))
  · refine di_is (di_range1 (n := (n : Int)) (de_ixT 0 (de_var 0 rfl) de_int rfl rfl) mr (by omega) (by omega)) (range_ppl n)
  · have hpre : pre.length ≤ 3 := by
      have := congrArg List.length e
      rw [List.length_append, List.length_cons, ppl_len] at this
      omega
    have h8 : (lotsOf pre).length ≤ 8 := by
      rw [lots_len]
      exact Nat.pow_le_pow_right (n := 2) (by decide) hpre
    have el : ∀ g ∈ lotsOf pre, g.length ≤ 3 := fun g hg => Nat.le_trans (lots_sub pre g hg).length_le hpre
    have e2 : (lotsOf (pre ++ [q])).map tupD = (lotsOf pre).map tupD ++ ((lotsOf pre).filter fun _ => true).map (fun g => tupD (g ++ [q])) := by
      rw [lots_snoc, List.map_append, List.map_map, filt_all]
      rfl
    let ρ2 : Rho := [some (.d (webD n ps)), some (.d (.list ((lotsOf pre).map tupD))), some (.d (.int q)), none]
    refine dss_to (ρ1 := [some (.d (webD n ps)), some (.d (.list ((lotsOf (pre ++ [q])).map tupD))), some (.d (.int q)), none]) (RLe.drop [some (.d (webD n ps)), some (.d (.list ((lotsOf (pre ++ [q])).map tupD))), some (.d (.int q)), none] 2) (dss_one (ds_set 1 (de_is (de_cat (ρ := ρ2) (ds := (lotsOf pre).map tupD) (cs := ((lotsOf pre).filter fun _ => true).map (fun g => tupD (g ++ [q]))) (de_var 1 rfl)
      (de_lc 3 (lotsOf pre) (fun g => .d (tupD g)) (fun _ => true) (fun g => tupD (g ++ [q])) (di_is (di_list (de_var 1 rfl)) (by rw [List.map_map]; rfl)) (big _ (by omega)) (fun g _ => noL_tupD _) scLots.nd (blkOk_by (N := nLots) (sc := defScope sLots) (by decide +kernel))
        (fun s H C cl fp g hg => dts_nil)
        (fun s H C cl fp g hg _ => de_is (de_catT (ds := g.map .int) (cs := [.int q]) (de_var 3 rfl) (de_tup (ds := [.int q]) (da_cons (de_var 2 rfl) da_nil) (bigL 1 (by decide))) ?_) ?_)) ?_) (by rw [e2])) scLots.nd))
    · have := el g hg
      rw [List.length_map, List.length_singleton]
      exact bigL _ (by omega)
    · show AV.d (.tuple (g.map .int ++ [.int q])) = AV.d (tupD (g ++ [q]))
      unfold tupD
      rw [List.map_append]
      rfl
    · rw [List.length_map, List.length_map, filt_all]
      exact bigL _ (by omega)
end
end FK
set_option Elab.async false
set_option linter.all false
set_option maxRecDepth 100000
set_option maxHeartbeats 2000000
/-! _law_gatherings: some gatherings, at least one -/
namespace FK
open PySem PySem.Spec PyProof.Rows L2
section
variable {X : Cx} {W : Wd} {ρ : Rho} {tg it elt : Expr} {ifs : List Expr} {scope : Scope} {pos : Pos} {α : Type}
def NI (X : Cx) (W : Wd) (ρ : Rho) (tg it : Expr) (Px : List α → Prop) (enc : α → AV) : Prop := ∃ wi, PI X tg it wi ∧ ∀ σ H R, W.J H → SlOk X.K H σ ρ → (∀ xs, Px xs → ∀ J H', Ex W H H' → W.J H' → ItOk X.K W J (xs.map enc) H' → R J H') → wi σ H R
theorem ni_list {Px : List α → Prop} {f : α → PyData} (h : NE X W ρ it (fun a => ∃ xs, Px xs ∧ a = .d (.list (xs.map f)))) : NI X W ρ tg it Px (fun x => .d (f x)) := by
  refine ⟨_, pi_list h, fun σ H R j s q => ⟨j, s, fun av ⟨zs, hp, e0⟩ v H1 x1 j1 r1 => ?_⟩⟩
  subst e0
  obtain ⟨a, xs, rfl, hs0, ha⟩ := dp_lst r1
  have hs : SqL X.K H1 a xs := SqL.of hs0
  refine ⟨a, rfl, ⟨xs, hs⟩, q zs hp _ H1 x1 j1 fun H2 x2 => ⟨fun i hi => ?_, fun i b x H3 hb hy => ?_, xs, x2.seqL hs, ?_⟩⟩
  · rw [List.length_map] at hi
    obtain ⟨x, e, r⟩ := dpAll_get ha (i := i) (d := f zs[i]) (by rw [List.getElem?_map, List.getElem?_eq_getElem hi]; rfl)
    exact ⟨xs, x, x2.seqL hs, e⟩
  · obtain ⟨z, hz, rfl⟩ := map_at hb
    obtain ⟨x', e, r⟩ := dpAll_get ha (i := i) (d := f z) (by rw [List.getElem?_map, hz]; rfl)
    obtain ⟨rfl, hy⟩ := hy
    have e2 := hy xs (x2.seqL hs)
    rw [e] at e2
    cases e2
    exact ⟨rfl, dp_mono x2 _ _ r⟩
  · rw [dpAll_len ha, List.length_map, List.length_map]
    exact Nat.le_refl _
theorem lc_readN {K : PySem.W.Frag} {wi : TI} {ρ : Rho} (Px : List α → Prop) (enc : α → AV) (p : α → Bool) (f : α → PyData) (k : Nat) (hl : ∀ xs, Px xs → xs.length < sizeLine) (hn : ∀ x, noL (f x) = true)
    (hw : ∀ σ H R, W.J H → SlOk K H σ ρ → (∀ xs, Px xs → ∀ J H', Ex W H H' → W.J H' → ItOk K W J (xs.map enc) H' → R J H') → wi σ H R) :
    ∀ σ H Q, nE K W ρ (fun a => ∃ xs, Px xs ∧ a = .d (.list ((xs.filter p).map f))) σ H Q →
      tLc wi (gName k) (fun σ H Q => ∃ x, True ∧ tT K W (ρ.set k (some (enc x))) (p x) σ H Q) (fun σ H Q => ∃ x, p x = true ∧ tE K W (ρ.set k (some (enc x))) (.d (f x)) σ H Q) [k] σ H Q := by
  rintro σ H Q ⟨j, s, q⟩
  refine hw σ H _ j s fun xs hP J H1 x1 j1 ok D hD => ?_
  have hlx := hl xs hP
  have sw : SlOk K H1 (wipe σ [k]) (ρ.set k none) := (s.mono x1).wipe k
  refine ⟨fun i m H' => m = xs.length - i ∧ i ≤ xs.length ∧ Ex W H1 H' ∧ W.J H' ∧ ∃ acc, H' D = some (.lst acc) ∧ DqAll K H' acc (((xs.take i).filter p).map f), ⟨xs.length, by simp, Nat.zero_le _, Ex.new hD, W.jal _ _ _ hD j1, [], upd_same, .nil⟩, ?_⟩
  rintro i m H' ⟨rfl, hle, x2, j2, acc, hacc, da⟩
  obtain ⟨ok1, ok2, ok3⟩ := ok H' x2
  rw [List.length_map] at ok1 ok3
  by_cases hlt : i < xs.length
  · obtain ⟨et, ex⟩ := take_next hlt
    refine .inr ⟨ok1 i hlt, fun H3 => Ex W H1 H3 ∧ W.J H3 ∧ ∃ acc, H3 D = some (.lst acc) ∧ DqAll K H3 acc (((xs.take (i + 1)).filter p).map f), fun H3 ⟨x3, j3, a3⟩ => ⟨xs.length - (i + 1), by omega, rfl, hlt, x3, j3, a3⟩, fun v H3 hy => ?_⟩
    obtain ⟨rfl, r⟩ := ok2 i (enc xs[i]) v H3 (by rw [List.getElem?_map, List.getElem?_eq_getElem hlt]; rfl) hy
    have hset : ∀ v : Option V, wipe ((wipe σ [k]).set k v) [k] = wipe σ [k] := fun v => by
      show ((σ.set k none).set k v).set k none = σ.set k none
      rw [List.set_set, List.set_set]
    have s3 : SlOk K H3 ((wipe σ [k]).set k (some v)) (ρ.set k (some (enc xs[i]))) := by
      have z := (sw.mono x2).set k r
      rw [List.set_set] at z
      exact z
    refine ⟨hset _, xs[i], trivial, j2, s3, fun H4 x4 j4 => ?_⟩
    have hD4 : H4 D = some (.lst acc) := x4 D _ hacc (W.mlst _ _)
    have da4 := dpAll_mono x4 _ _ da
    have dn : noLs (((xs.take i).filter p).map f) = true := noLs_of fun x hx => hn x
    have e1 : ((xs.take (i + 1)).filter p).map f = ((xs.take i).filter p).map f ++ (([xs[i]] : List α).filter p).map f := by rw [et, List.filter_append, List.map_append]
    cases hpx : p xs[i] with
    | true =>
      refine iteT ?_
      refine ⟨xs[i], hpx, j4, s3.mono x4, fun y H5 x5 j5 r5 => ?_⟩
      have hD5 : H5 D = some (.lst acc) := x5 D _ hD4 (W.mlst _ _)
      have da5 := dpAll_mono x5 _ _ da4
      have hal : acc.length ≤ xs.length := by
        rw [dpAll_len da, List.length_map]
        exact Nat.le_trans (List.length_filter_le _ _) (by rw [List.length_take]; omega)
      refine ⟨acc, hD5, by omega, (Ex.mut ((x2.trans x4).trans x5) hD), W.jlst _ _ _ _ hD5 j5, acc ++ [y], upd_same, ?_⟩
      rw [e1]
      have e2 : (([xs[i]] : List α).filter p).map f = [f xs[i]] := by simp [hpx]
      rw [e2]
      exact dpAll_append (dpAll_noL (TupEx.lst hD5) _ _ dn da5) (.cons (dp_noL (TupEx.lst hD5) _ _ (hn _) r5) .nil)
    | false =>
      refine iteF ?_
      refine ⟨x2.trans x4, j4, acc, hD4, ?_⟩
      rw [e1]
      have e2 : (([xs[i]] : List α).filter p).map f = [] := by simp [hpx]
      rw [e2, List.append_nil]
      exact da4
  · have e : i = xs.length := by omega
    subst e
    rw [List.take_length] at da
    exact .inl ⟨ok3, q _ ⟨xs, hP, rfl⟩ (.ref D) H' (x1.trans x2) j2 (.lst hacc da)⟩
variable {n : Str} {pn : Pos}
theorem ne_lc (k : Nat) (Px : List α → Prop) (enc : α → AV) (p : α → Bool) (f : α → PyData) (hi : NI X W ρ (.Name n pn) it Px enc) (hl : ∀ xs, Px xs → xs.length < sizeLine) (hn : ∀ x, noL (f x) = true) (hN : X.N.Nodup) (ok : BlkOk X.N X.env.scope scope [(n, k)])
    (ht : ∀ s H C cl fp x, PTs (Blk X s H scope C cl fp) ifs (tT X.K W (ρ.set k (some (enc x))) (p x)))
    (he : ∀ s H C cl fp x, p x = true → DE (Blk X s H scope C cl fp) W (ρ.set k (some (enc x))) elt (.d (f x)))
    (hk : X.N[k]? = some n := by rfl) (hx : ∀ cl C, Loc (compEnvC scope cl C X.env).scope n := by intro _ _; first | exact Or.inl rfl | exact Or.inr rfl) (hf : ∀ cl C, (scope.names.lookup n == some NameKind.cell) = true ∨ (compEnvC scope cl C X.env).scope.names.lookup n = some .local := by intro _ _; first | exact .inl rfl | exact .inr rfl)
    (hc : X.calm = true := by rfl) (hs : ∀ x, foldedSetIterable it X.env x = pure x := by intro _; rfl) : NE X W ρ (.ListComp elt [⟨.Name n pn, it, ifs, 0⟩] scope pos) (fun a => ∃ xs, Px xs ∧ a = .d (.list ((xs.filter p).map f))) := by
  obtain ⟨wi, pi, hw⟩ := hi
  exact pe_imp (pe_lc (own := [(n, k)]) (g := gName k) hc hN pi ok (fun s H C cl fp => pg_name (X := Blk X s H scope C cl fp) (i := k) hN hk (hx cl C) (hf cl C)) (fun s H C cl fp => pts_all (A := α) (C := fun _ => True) (t := fun x => tT X.K W (ρ.set k (some (enc x))) (p x)) fun x _ => ht s H C cl fp x) (fun s H C cl fp => pe_all (A := α) (C := fun x => p x = true) (t := fun x => tE X.K W (ρ.set k (some (enc x))) (.d (f x))) fun x m => he s H C cl fp x m) hs)
    fun σ H Q h => lc_readN Px enc p f k hl hn hw σ H Q h
end

abbrev sGaths : Stmt := topS 39
abbrev nGaths : List Str := ["_law_web_here", "_law_lot"]
theorem scGaths : FnScope nGaths ["_law_web_here"] (defScope sGaths) := ⟨rfl, rfl, rfl, by decide +kernel, rfl, by decide +kernel, by decide +kernel⟩
def FGaths : Rel := fun as r => ∃ (n : Nat) (ps : List (Int × Int)) (gs : List (List Int)), as = [.d (webD n ps)] ∧ (∀ g ∈ gs, GathOk n ps g) ∧ 1 ≤ gs.length ∧ gs.length ≤ 16 ∧ r = .d (.list (gs.map tupD))
theorem gathB_iff {ps : List (Int × Int)} {g : List Int} : gathB ps g = true ↔ ∀ p ∈ ps, ¬ (p.1 ∈ g ∧ p.2 ∈ g) := by
  unfold gathB
  rw [List.isEmpty_iff, List.filter_eq_nil_iff]
  constructor
  · intro h p hp z
    refine h p hp ?_
    unfold badP
    rw [decide_eq_true z.1, decide_eq_true z.2]
    rfl
  · intro h p hp z
    unfold badP at z
    rw [Bool.and_eq_true, decide_eq_true_eq, decide_eq_true_eq] at z
    exact h p hp z
theorem gaths_ok {n : Nat} {ps : List (Int × Int)} {gs : List (List Int)} (hn : n ≤ 4) (h : gs.Perm (lotsOf (ppl n))) : (∀ g ∈ gs.filter (gathB ps), GathOk n ps g) ∧ 1 ≤ (gs.filter (gathB ps)).length ∧ (gs.filter (gathB ps)).length ≤ 16 := by
  refine ⟨fun g hg => ?_, ?_, ?_⟩
  · obtain ⟨h1, h2⟩ := List.mem_filter.mp hg
    have sub := lots_sub (ppl n) g (h.mem_iff.mp h1)
    refine ⟨⟨fun x hx => mem_ppl.mp (sub.subset hx), (ppl_up n).sublist sub, ?_⟩, gathB_iff.mp h2⟩
    have := sub.length_le
    rw [ppl_len] at this
    omega
  · obtain ⟨r, hr⟩ := lots_head (ppl n)
    have m : [] ∈ gs.filter (gathB ps) := List.mem_filter.mpr ⟨h.mem_iff.mpr (by rw [hr]; exact List.mem_cons_self), gathB_iff.mpr fun p _ z => by cases z.1⟩
    exact List.length_pos_of_mem m
  · refine Nat.le_trans (List.length_filter_le _ _) ?_
    rw [h.length_eq, lots_len, ppl_len]
    exact Nat.pow_le_pow_right (n := 2) (by decide) hn
def DGaths (as : List AV) : Prop := ∃ (n : Nat) (ps : List (Int × Int)), n ≤ 4 ∧ ps.length ≤ 25 ∧ as = [.d (webD n ps)]
section
variable {P : Program} {w : World} {K : PySem.W.Frag} {mg : Str → Option Value} {base : Heap} {W : Wd}
theorem ok_gaths {f : Addr} {fd : FuncData} (F : Fun K "_law_gatherings" "_law_gatherings" sGaths f fd) (CL : NCallee P w K mg base "_law_lots" 1 1 W DLots FLots) (CG : Callee P w K mg base "_law_is_gathering" 2 1 W FLG) : FnOk P w K mg base CX0 2 f fd ["_law_web_here"] (nSp K W 1 DGaths FGaths) := by
  refine n_def (k := 1) F scGaths fun cdv A outer s H hr as hl hD => ?_
  obtain ⟨n, ps, hn, hps, rfl⟩ := hD
  let ρ0 : Rho := [some (.d (webD n ps)), none]
  refine nss_ret (pe_imp (ne_lc (ρ := ρ0) (α := List Int) 1 (fun gs => gs.Perm (lotsOf (ppl n))) (fun g => .d (tupD g)) (gathB ps) tupD (ni_list (pe_imp (ne_call CL (Sub.refl _) (hr.mono (by decide)) (da_cons (de_var 0 rfl) da_nil) ⟨n, ps, hn, rfl⟩) fun σ H Q ⟨j, s, z⟩ => ⟨j, s, fun a ha => ?_⟩)) (fun gs h => ?_) noL_tupD scGaths.nd (blkOk_by (N := nGaths) (sc := defScope sGaths) (by decide +kernel))
    (fun s H C cl fp g => dts_one (dt_val (de_call CG (Sub.refl _) (hr.mono (by decide)) (da_cons (de_var 0 rfl) (da_cons (de_var 1 rfl) da_nil)) ⟨n, ps, g, hps, rfl, rfl⟩)))
    (fun s H C cl fp g _ => de_var 1 rfl)) fun σ H Q ⟨j, s, z⟩ => ⟨j, s, fun a ⟨gs, h1, h2⟩ => z a ?_⟩)
  · obtain ⟨n2, ps2, gs, h1, h2, h3⟩ := ha
    refine z a ⟨gs, ?_, h3⟩
    have e : n = n2 := by
      have e1 : webD n ps = webD n2 ps2 := by
        have := (List.cons.inj h1).1
        exact AV.d.inj this
      unfold webD at e1
      have e2 := (List.cons.inj (PyData.tuple.inj e1)).1
      exact Int.ofNat.inj (PyData.int.inj e2)
    rw [e]
    exact h2
  · have : gs.length ≤ 16 := by
      rw [h.length_eq, lots_len, ppl_len]
      exact Nat.pow_le_pow_right (n := 2) (by decide) hn
    exact big _ (by omega)
  · obtain ⟨k1, k2, k3⟩ := gaths_ok (ps := ps) hn h1
    exact ⟨n, ps, gs.filter (gathB ps), rfl, k1, k2, k3, h2⟩
end
end FK
set_option Elab.async false
set_option linter.all false
set_option maxRecDepth 100000
set_option maxHeartbeats 2000000
/-! _law_pick: one of some things -/
namespace FK
open PySem PySem.Spec PyProof.Rows L2
abbrev sPick : Stmt := topS 31
abbrev nPick : List Str := ["_law_row_here", "_law_things"]
theorem scPick : FnScope nPick ["_law_row_here", "_law_things"] (defScope sPick) := ⟨rfl, rfl, rfl, by decide +kernel, rfl, by decide +kernel, by decide +kernel⟩
def spPick (K : PySem.W.Frag) (W : Wd) : Sp := fun vs H Q _ => ∃ (l t a : Addr) (ns : List Int) (xs : List V), vs = [.ref l, .ref t] ∧ t ≠ l ∧ H t = some (.lst xs) ∧ 1 ≤ xs.length ∧ xs.length < 10000 ∧ W.J H ∧ RowAt K H l a ns ∧ ∀ x H', x ∈ xs → ExB W l H H' → W.J H' → RowAt K H' l a ns → Q x H'
section
variable {P : Program} {w : World} {K : PySem.W.Frag} {mg : Str → Option Value} {base : Heap} {W : Wd}
theorem ok_pick {f ft : Addr} {fd fdt : FuncData} (F : Fun K "_law_pick" "_law_pick" sPick f fd) (TC : TakenC P w K mg base W ft fdt) (ml : mg "len" = none) : FnOk P w K mg base CX0 2 f fd ["_law_row_here", "_law_things"] (spPick K W) := by
  refine Fun.ok F scPick (fun vs H Q E ⟨l, t, a, ns, xs, h, _⟩ => by rw [h]; rfl) (fun cdv A outer s0 H0 vs Q E hr h => ?_)
  obtain ⟨l, t, a, ns, xs, rfl, htl, ht, hx1, hx2, hj, hrow, q⟩ := h
  let X := (cxOf CX0 P w K mg base nPick "_law_pick" (defScope sPick) f cdv A outer s0 H0 E).nox
  let R : V → Hp → Prop := fun v H => v ∈ xs ∧ ExB W l H0 H ∧ W.J H ∧ RowAt K H l a ns
  let P0 : SP0 := fun σ H => W.J H ∧ ExB W l H0 H ∧ RowAt K H l a ns ∧ H t = some (.lst xs) ∧ σ[0]? = some (some (.ref l)) ∧ σ[1]? = some (some (.ref t))
  have v0 : ∀ {pos : Pos}, VE X P0 (.Name "_law_row_here" pos) (.ref l) := ve_var 0 fun σ H h => h.2.2.2.2.1
  have v1 : ∀ {pos : Pos}, VE X P0 (.Name "_law_things" pos) (.ref t) := ve_var 1 fun σ H h => h.2.2.2.2.2
  have main : HSs X P0 (defBody sPick) (fun _ _ => False) R := by
    refine hss_one (hs_ret (pe_imp (pe_ix ix_list v1 (he_taken (l := l) (m := (xs.length : Nat)) (Q := fun σ v H' => ∃ k : Int, v = .int k ∧ 0 ≤ k ∧ k < (xs.length : Nat) ∧ P0 σ H') TC hr (by decide) v0 (ve_len v1 (fun σ H h => ⟨xs, SqL.of h.2.2.2.1, rfl⟩) ml) (by omega) (by omega) (fun σ H h => ⟨h.1, h.2.2.1⟩) fun σ H k H' h k1 k2 e j r => ⟨k, rfl, k1, k2, j, h.2.1.trans e, r, e _ _ htl h.2.2.2.1 (W.mlst _ _), h.2.2.2.2⟩) (fun _ _ => rfl)) fun σ H Q ⟨p, z⟩ => ⟨p, fun v H1 ⟨e1, p1⟩ => ⟨p1, fun u H2 ⟨k, e2, k1, k2, p2⟩ => ?_⟩⟩))
    have hk : k.toNat < xs.length := by omega
    have ek : k = (k.toNat : Int) := by omega
    refine ⟨t, xs, k, xs[k.toNat], e1, e2, SqL.of p2.2.2.2.1, ?_, z _ H2 ⟨List.getElem_mem hk, p2.2.1, p2.1, p2.2.2.1⟩⟩
    have z : atI xs (k.toNat : Int) = some xs[k.toNat] := atI_nat (List.getElem?_eq_getElem hk)
    exact Eq.trans (congrArg (atI xs) ek) z
  exact ⟨_, main, ⟨hj, ExB.refl H0, hrow, ht, rfl, rfl⟩, fun _ _ z => z.elim, fun v H' ⟨h1, h2, h3, h4⟩ => q v H' h1 h2 h3 h4⟩
end
end FK
set_option Elab.async false
set_option linter.all false
set_option maxRecDepth 100000
set_option maxHeartbeats 4000000
/-! law -/
namespace FK
open PySem PySem.Spec PyProof.Rows L2
abbrev sLaw : Stmt := topS 45
abbrev nLaw : List Str := ["_law_script", "_law_row_here", "_law_web_here", "_law_start", "_law_many", "_law_person", "_law_some", "_law_one"]
theorem scLaw : FnScope nLaw ["_law_script"] (defScope sLaw) := ⟨rfl, rfl, rfl, by decide +kernel, rfl, by decide +kernel, by decide +kernel⟩
/-- the name x calls a def that keeps sp -/
def SpC (P : Program) (w : World) (K : PySem.W.Frag) (mg : Str → Option Value) (base : Heap) (x : Str) (ps : List Str) (k : Nat) (sp : Sp) : Prop :=
  ∃ (f : Addr) (fd : FuncData), mg x = some (.ref f) ∧ PySem.W.keepIn K (.ref f) = true ∧ Binds K fd ps [] ∧ FnOk P w K mg base CX0 k f fd ps sp
structure LawC (P : Program) (w : World) (K : PySem.W.Frag) (mg : Str → Option Value) (base : Heap) (W : Wd) : Prop where
  most : Callee P w K mg base "most_there" 3 12 W FMost
  hold : Callee P w K mg base "can_hold" 4 12 W FHold
  force : Callee P w K mg base "can_force" 2 13 W FCanF
  best : Callee P w K mg base "best_calls" 3 12 W FBest
  worth : ∀ m, Callee P w K mg base "_law_worth" 5 (m + 3) W (FLW m)
  forces : ∀ m, Callee P w K mg base "_law_forces" 4 (m + 2) W (FLO m)
  come : Callee P w K mg base "_law_come" 3 2 W FLC
  like1 : Callee P w K mg base "_law_alike" 2 1 W FA1
  like2 : Callee P w K mg base "_law_alike" 2 2 W FA2
  taken : ∃ ft fdt, TakenC P w K mg base W ft fdt
  web : SpC P w K mg base "_law_web" ["_law_row_here", "_law_most"] 2 (spWeb K W)
  pick : SpC P w K mg base "_law_pick" ["_law_row_here", "_law_things"] 2 (spPick K W)
  gaths : NCallee P w K mg base "_law_gatherings" 1 2 W DGaths FGaths
  bmax : mg "max" = none
  brange : mg "range" = none
  btuple : mg "tuple" = none
section
variable {X : Cx} {P P' : SP0} {R : V → Hp → Prop} {sts : List Stmt} {W : Wd} {ρ : Rho} {a : AV}
theorem hss_d (h : DSs X W ρ sts (.rt a)) (hP : ∀ σ H, P σ H → W.J H ∧ SlOk X.K H σ ρ) (hR : ∀ v H', AvOk X.K H' v a → R v H') : HSs X P sts P' R :=
  pss_imp h fun D σ H ⟨p, q, z⟩ => ⟨(hP σ H p).1, (hP σ H p).2, fun v H' x j r => z v H' (hR v H' r)⟩
end
section
variable {P : Program} {w : World} {K : PySem.W.Frag} {mg : Str → Option Value} {base : Heap} {W : Wd}
theorem law_tail {f : Addr} {cdv : Value} {A : Around} {outer : List Env} {s : Shared} {H0 : Hp} {E : XK} (C : LawC P w K mg base W) {n : Nat} {ps : List (Int × Int)} {g : List Int} {m : Nat} {p : Int} (hr : Room 13 (A.deeper (envOfC "law" (defScope sLaw) s.heap.objs.size f cdv))) (okw : WebOk n ps) (hps : ps.length ≤ 25) (okg : GathOk n ps g) (hm : m ≤ 4) (hp : p ∈ ppl n) :
    DSs (cxOf CX0 P w K mg base nLaw "law" (defScope sLaw) f cdv A outer s H0 E).nox W [none, none, some (.d (webD n ps)), some (.d (tupD g)), some (.d (.int m)), some (.d (.int p)), none, none] ((defBody sLaw).drop 3) (.rt (.d (.bool true))) := by
  have hn7 := okw.hi
  have hn1 := okw.lo
  let M : Nat := m - 1
  have hM : M + 1 ≤ 4 := by
    show m - 1 + 1 ≤ 4
    omega
  let fs : Int → Int := firstV n ps M g
  let ρ1 : Rho := [none, none, some (.d (webD n ps)), some (.d (tupD g)), some (.d (.int (M + 1 : Nat))), some (.d (.int p)), none, none]
  let ρ2 : Rho := [none, none, some (.d (webD n ps)), some (.d (tupD g)), some (.d (.int (M + 1 : Nat))), some (.d (.int p)), some (.d (lstD ((ppl n).map fs))), none]
  have eint : (.list (((ppl n).filter fun _ => true).map fun k => PyData.int (fs k)) : PyData) = lstD ((ppl n).map fs) := by
    rw [filt_all]
    show _ = PyData.list (((ppl n).map fs).map PyData.int)
    rw [List.map_map]
    rfl
  refine dss_cons (ds_no (dt_is (dt_not (dt_val (de_call C.like1 (Sub.refl _) (hr.mono (by decide)) (da_cons (de_call C.most (Sub.refl _) (hr.mono (by decide)) (da_cons (de_var 2 rfl) (da_cons (de_var 3 rfl) (da_cons (de_var 4 rfl) da_nil))) ⟨n, ps, g, m, okw, okg, by omega, rfl, rfl⟩)
    (da_cons (de_call (C.worth m) (Sub.refl _) (hr.mono (by omega)) (da_cons (de_var 2 rfl) (da_cons (de_var 3 rfl) (da_cons (de_var 4 rfl) (da_cons de_bl (da_cons de_non da_nil))))) ⟨n, ps, g, true, .none, lenS, okw, hps, okg.lot, .inl ⟨rfl, rfl⟩, rfl, rfl⟩) da_nil)) ⟨_, .inl ⟨_, rfl⟩, rfl, rfl⟩))) rfl)) ?_
  refine dss_cons (ds_no (dt_is (dt_not (dt_val (de_call C.like1 (Sub.refl _) (hr.mono (by decide)) (da_cons (de_call C.hold (Sub.refl _) (hr.mono (by decide)) (da_cons (de_var 2 rfl) (da_cons (de_var 3 rfl) (da_cons (de_var 5 rfl) (da_cons (de_var 4 rfl) da_nil)))) ⟨n, ps, g, p, m, okw, okg, hp, by omega, rfl, rfl⟩)
    (da_cons (de_eqI (de_call (C.worth m) (Sub.refl _) (hr.mono (by omega)) (da_cons (de_var 2 rfl) (da_cons (de_var 3 rfl) (da_cons (de_var 4 rfl) (da_cons de_bl (da_cons (de_var 5 rfl) da_nil))))) ⟨n, ps, g, true, .int p, inS p, okw, hps, okg.lot, .inr ⟨p, rfl, rfl⟩, rfl, rfl⟩) de_int) da_nil)) ⟨_, .inr ⟨_, rfl⟩, rfl, rfl⟩))) rfl)) ?_
  refine dss_cons (ds_no (dt_is (dt_not (dt_val (de_call C.like1 (Sub.refl _) (hr.mono (by decide)) (da_cons (de_call C.force (Sub.refl _) (hr.mono (by decide)) (da_cons (de_var 2 rfl) (da_cons (de_var 4 rfl) da_nil)) ⟨n, ps, m, okw, by omega, rfl, rfl⟩)
    (da_cons (de_call (C.forces m) (Sub.refl _) (hr.mono (by omega)) (da_cons (de_var 2 rfl) (da_cons (de_lst (ds := []) da_nil (bigL 0 (by decide))) (da_cons (de_var 4 rfl) (da_cons de_bl da_nil)))) ⟨n, ps, [], true, okw, hps, lot_nil n, rfl, rfl⟩) da_nil)) ⟨_, .inr ⟨_, rfl⟩, rfl, rfl⟩))) rfl)) ?_
  refine dss_cons (ds_set 4 (a := .d (.int (M + 1 : Nat))) (de_is (de_max2 de_int (de_var 4 rfl) C.bmax) ?_) scLaw.nd) ?_
  · have e : (if (m : Int) > 1 then (m : Int) else 1) = ((M + 1 : Nat) : Int) := by
      by_cases h : (m : Int) > 1
      · rw [if_pos h]
        omega
      · rw [if_neg h]
        omega
    rw [e]
  refine dss_cons (ds_set (ρ := ρ1) 6 (a := .d (lstD ((ppl n).map fs))) (de_is (de_lc (ρ := ρ1) 7 (ppl n) (fun k => .d (.int k)) (fun _ => true) (fun k => .int (fs k)) (di_is (di_range1 (n := n) (de_ixT 0 (de_var 2 rfl) de_int rfl rfl) C.brange (by omega) (by omega)) (range_ppl n)) (by rw [ppl_len]; exact big n (by omega)) (fun _ _ => by simp [noL]) scLaw.nd (blkOk_by (N := nLaw) (sc := defScope sLaw) (by decide +kernel)) (fun s H C cl fp k _ => dts_nil)
    (fun s H C2 cl fp k hk _ => ?_)) (by rw [eint])) scLaw.nd) ?_
  · refine de_is (de_call (C.worth M) (Sub.refl _) (hr.mono (by omega)) (da_cons (de_var 2 rfl) (da_cons (de_call C.come (Sub.refl _) (hr.mono (by decide)) (da_cons (de_var 2 rfl) (da_cons (de_var 3 rfl) (da_cons (de_var 7 rfl) da_nil))) ⟨n, ps, g, k, okw, hps, okg.lot.len, rfl, rfl⟩) (da_cons (de_sub (de_var 4 rfl) de_int) (da_cons de_bl (da_cons de_non da_nil)))))
      (r := .d (.int (fs k))) ⟨n, ps, cameI ps g k, false, .none, lenS, okw, hps, came_lot (by omega) okg.lot hk, .inl ⟨rfl, rfl⟩, ?_, rfl⟩) rfl
    have e1 : ((M + 1 : Nat) : Int) - 1 = (M : Int) := by omega
    rw [e1]
  refine dss_rt (ds_ret (de_call C.like2 (Sub.refl _) (hr.mono (by decide)) (da_cons (de_call C.best (Sub.refl _) (hr.mono (by decide)) (da_cons (de_var 2 rfl) (da_cons (de_var 3 rfl) (da_cons (de_var 4 rfl) da_nil))) ⟨n, ps, g, M, okw, okg, by omega, rfl, rfl⟩)
    (da_cons (de_is (de_tupleL (de_lc (ρ := ρ2) 7 (ppl n) (fun k => .d (.int k)) (fun p => decide (fs p = maxI ((ppl n).map fs))) (fun k => .int k)
      (di_is (di_range1 (n := n) (de_ixT 0 (de_var 2 rfl) de_int rfl rfl) C.brange (by omega) (by omega)) (range_ppl n)) (by rw [ppl_len]; exact big n (by omega)) (fun _ _ => by simp [noL]) scLaw.nd (blkOk_by (N := nLaw) (sc := defScope sLaw) (by decide +kernel))
      (fun s H C2 cl fp k hk => dts_one (dt_eqI (de_ixL k.toNat (de_var 6 rfl) (de_var 7 rfl) (ppl_get hk).2 ?_) (de_maxL (ns := (ppl n).map fs) (de_var 6 rfl) (by rw [List.length_map, ppl_len]; omega) C.bmax)))
      (fun s H C cl fp k _ _ => de_var 7 rfl)) C.btuple) (rfl : _ = AV.d (tupD (bestI n ps M g)))) da_nil)) ⟨bestI n ps M g, ?_, rfl, rfl⟩))
  · rw [List.getElem?_map, List.getElem?_map, (ppl_get hk).1]
    rfl
  · have : (bestI n ps M g).length ≤ (ppl n).length := List.length_filter_le _ _
    rw [ppl_len] at this
    omega
end
end FK
set_option Elab.async false
set_option linter.all false
set_option maxRecDepth 100000
set_option maxHeartbeats 4000000
/-! law, whole -/
namespace FK
open PySem PySem.Spec PyProof.Rows L2
theorem webD_inj {n n2 : Nat} {ps ps2 : List (Int × Int)} (h : webD n ps = webD n2 ps2) : n = n2 ∧ ps = ps2 := by
  unfold webD at h
  have h1 := PyData.tuple.inj h
  have e1 := (List.cons.inj h1).1
  have e2 := PyData.tuple.inj (List.cons.inj (List.cons.inj h1).2).1
  refine ⟨Int.ofNat.inj (PyData.int.inj e1), ?_⟩
  clear h h1 e1
  induction ps generalizing ps2 with
  | nil => cases ps2 with
    | nil => rfl
    | cons q r => cases e2
  | cons p r ih => cases ps2 with
    | nil => cases e2
    | cons q r2 =>
      rw [List.map_cons, List.map_cons] at e2
      obtain ⟨a, b⟩ := List.cons.inj e2
      have a2 := PyData.tuple.inj a
      have a3 := PyData.int.inj (List.cons.inj a2).1
      have a4 := PyData.int.inj (List.cons.inj (List.cons.inj a2).2).1
      rw [ih b, show p = q from Prod.ext a3 a4]
theorem dpAll_mem {K : PySem.W.Frag} {H : Hp} : ∀ {xs : List V} {gs : List (List Int)} {x : V}, DqAll K H xs (gs.map tupD) → x ∈ xs → ∃ g ∈ gs, Dq K H x (tupD g)
  | y :: ys, g :: gs, x, .cons h1 h2, hx => by
    rcases List.mem_cons.mp hx with e | hx
    · subst e
      exact ⟨g, List.mem_cons_self, h1⟩
    · obtain ⟨g', m, r⟩ := dpAll_mem h2 hx
      exact ⟨g', List.mem_cons_of_mem _ m, r⟩
  | [], _, _, _, hx => by cases hx
  | _ :: _, [], _, h, _ => by cases h
section
variable {P : Program} {w : World} {K : PySem.W.Frag} {mg : Str → Option Value} {base : Heap} {W : Wd}
def spLaw (K : PySem.W.Frag) (W : Wd) : Sp := fun vs H Q _ => ∃ (a : Addr) (ns : List Int), vs = [.ref a] ∧ W.J H ∧ SqL K H a (ns.map V.int) ∧ ∀ H', Q (.bl true) H'
def LwS (K : PySem.W.Frag) (W : Wd) (l a : Addr) (ns : List Int) (n : Nat) (ps : List (Int × Int)) (v : V) (σ : L2.St) (H : Hp) : Prop := W.J H ∧ RowAt K H l a ns ∧ Dq K H v (webD n ps) ∧ SlS 8 [(1, .ref l), (2, v)] σ
theorem lw_ex {l a : Addr} {ns : List Int} {n : Nat} {ps : List (Int × Int)} {v : V} {σ : L2.St} {H H' : Hp} (h : LwS K W l a ns n ps v σ H) (x : Ex W H H') (j : W.J H') : LwS K W l a ns n ps v σ H' := ⟨j, row_ex h.2.1 x, dp_mono x _ _ h.2.2.1, h.2.2.2⟩
theorem lw_exB {l a : Addr} {ns : List Int} {n : Nat} {ps : List (Int × Int)} {v : V} {σ : L2.St} {H H' : Hp} (h : LwS K W l a ns n ps v σ H) (x : ExB W l H H') (j : W.J H') (r : RowAt K H' l a ns) : LwS K W l a ns n ps v σ H' := by
  obtain ⟨ws, hl⟩ := row_lst h.2.1
  exact ⟨j, r, dp_noL (x.tup hl (.inl ⟨_, rfl⟩)) _ _ (noL_web n ps) h.2.2.1, h.2.2.2⟩
theorem dq_exB {l a : Addr} {ns : List Int} {g : List Int} {u : V} {H H' : Hp} (h : RowAt K H l a ns) (x : ExB W l H H') (d : Dq K H u (tupD g)) : Dq K H' u (tupD g) := by
  obtain ⟨ws, hl⟩ := row_lst h
  exact dp_noL (x.tup hl (.inl ⟨_, rfl⟩)) _ _ (noL_tupD g) d
theorem he_ne {X : Cx} {P0 : SP0} {ρ : Rho} {e : Expr} {A : AV → Prop} (h : NE X W ρ e A) (hP : ∀ σ H, P0 σ H → W.J H ∧ SlOk X.K H σ ρ) : HE X P0 e (fun σ v H' => ∃ H a, P0 σ H ∧ A a ∧ Ex W H H' ∧ W.J H' ∧ AvOk X.K H' v a) :=
  pe_imp h fun σ H q ⟨p, z⟩ => ⟨(hP σ H p).1, (hP σ H p).2, fun a ha v H' x' j' r' => z v H' ⟨H, a, p, ha, x', j', r'⟩⟩
theorem ok_law {f : Addr} {fd : FuncData} (F : Fun K "law" "law" sLaw f fd) (C : LawC P w K mg base W) : FnOk P w K mg base CX0 14 f fd ["_law_script"] (spLaw K W) := by
  refine Fun.ok (k := 13) F scLaw (fun vs H Q E ⟨a, ns, h, _⟩ => by rw [h]; rfl) (fun cdv A outer s0 H0 vs Q E hr h => ?_)
  obtain ⟨a, ns, rfl, hj, hs, q⟩ := h
  let X := (cxOf CX0 P w K mg base nLaw "law" (defScope sLaw) f cdv A outer s0 H0 E).nox
  let R : V → Hp → Prop := fun v _ => v = .bl true
  obtain ⟨ft, fdt, TC⟩ := C.taken
  obtain ⟨fb, fdb, gb, kb, bb, ob⟩ := C.web
  obtain ⟨fp, fdp, gp, kp, bp, op⟩ := C.pick
  let P0 : SP0 := fun σ H => W.J H ∧ SqL K H a (ns.map V.int) ∧ SlS 8 [(0, .ref a)] σ
  have main : HSs X P0 (defBody sLaw) (fun _ _ => False) R := by
    refine hss_cons (P1 := fun σ H => ∃ l, W.J H ∧ RowAt K H l a ns ∧ SlS 8 [(1, .ref l)] σ) (hs_set 1 (pe_imp (pe_lst (pa_cons (ve_var (P := P0) (v := .ref a) 0 fun σ H h => h.2.2.2 _ List.mem_cons_self) (pa_cons (ve_int (P := P0)) (pa_cons (ve_int (P := P0)) (pa_cons (ve_int (P := P0)) pa_nil))))) fun σ H k ⟨p, z⟩ => ⟨p, fun v1 H1 ⟨e1, p1⟩ => ⟨p1, fun v2 H2 ⟨e2, p2⟩ => ⟨p2, fun v3 H3 ⟨e3, p3⟩ => ⟨p3, fun v4 H4 ⟨e4, p4⟩ => ?g0⟩⟩⟩⟩) scLaw.nd) ?r0
    case g0 =>
      subst e1 e2 e3 e4
      refine ⟨bigL 4 (by decide), fun l hl => z _ _ ⟨l, W.jal _ _ _ hl p4.1, ⟨0, 13516, 0, ⟨upd_same, sql_upd p4.2.1 (off_of p4.2.1 hl), off_of p4.2.1 hl⟩, by decide⟩, (p4.2.2.set (j := 1) (by decide) fun q hq => ?_).sub fun q hq => ?_⟩⟩
      · simp at hq
        subst hq
        simp
      · simp at hq ⊢
        exact .inl hq
    refine hss_any fun l => ?_
    refine hss_cons (P1 := fun σ H => ∃ t : Nat × List (Int × Int) × V, (WebOk t.1 t.2.1 ∧ t.1 ≤ 4 ∧ t.2.1.length ≤ 16) ∧ LwS K W l a ns t.1 t.2.1 t.2.2 σ H) (hs_set 2 (pe_imp (pe_call ob (hr.mono (by decide)) rfl gb kb bb .nil pass0 (pa_cons (ve_var (P := fun σ H => W.J H ∧ RowAt K H l a ns ∧ SlS 8 [(1, .ref l)] σ) (v := .ref l) 1 fun σ H h => h.2.2.2 _ List.mem_cons_self) (pa_cons (ve_int (P := fun σ H => W.J H ∧ RowAt K H l a ns ∧ SlS 8 [(1, .ref l)] σ)) pa_nil)) (by decide) rfl rfl) fun σ H k ⟨p, z⟩ => ⟨p, fun v1 H1 ⟨e1, p1⟩ => ⟨p1, fun v2 H2 ⟨e2, p2⟩ => ?g1⟩⟩) scLaw.nd) ?r1
    case g1 =>
      subst e1 e2
      refine ⟨l, a, ns, rfl, p2.1, p2.2.1, fun n ps v H' h1 h2 h3 h4 h5 h6 h7 => z v H' ⟨(n, ps, v), ⟨h1, h2, h3⟩, h5, h6, h7, (p2.2.2.set (j := 2) (by decide) fun q hq => ?_).sub fun q hq => ?_⟩⟩
      · simp at hq
        subst hq
        simp
      · simp at hq ⊢
        rcases hq with rfl | rfl <;> simp
    refine hss_any fun ⟨n, ps, wv0⟩ => hss_when fun ⟨okw, hn4, hp16⟩ => ?_
    let Pw : SP0 := LwS K W l a ns n ps wv0
    let Pg : List Int × V → SP0 := fun i σ H => Pw σ H ∧ Dq K H i.2 (tupD i.1)
    let ρw : Rho := [none, none, some (.d (webD n ps)), none, none, none, none, none]
    have slw : ∀ σ H, Pw σ H → W.J H ∧ SlOk X.K H σ ρw := fun σ H h => ⟨h.1, slok_of h.2.2.2 rfl fun j a' hj' => by
      match j, hj' with
      | 2, hj' =>
        cases hj'
        exact ⟨wv0, by simp, h.2.2.1⟩
      | 0, hj' => cases hj'
      | 1, hj' => cases hj'
      | 3, hj' => cases hj'
      | 4, hj' => cases hj'
      | 5, hj' => cases hj'
      | 6, hj' => cases hj'
      | 7, hj' => cases hj'
      | j + 8, hj' => simp [ρw] at hj'⟩
    have vrow : ∀ {Pr : SP0} {pos : Pos}, (∀ σ H, Pr σ H → Pw σ H) → VE X Pr (.Name "_law_row_here" pos) (.ref l) := fun h => ve_var 1 fun σ H p => (h σ H p).2.2.2.2 _ List.mem_cons_self
    have n1 := okw.lo
    have n7 := okw.hi
    let Q1 : L2.St → V → Hp → Prop := fun σ u H => ∃ g, GathOk n ps g ∧ Pg (g, u) σ H
    have h1 : ∀ {p1 p2 p3 p4 p5 pos : Pos}, HE X Pw (.Call (.Name "_law_pick" p1) [.Name "_law_row_here" p2, .Call (.Name "_law_gatherings" p3) [.Name "_law_web_here" p4] [] p5] [] pos) Q1 := by
      intro p1 p2 p3 p4 p5 pos
      refine pe_imp (pe_call op (hr.mono (by decide)) rfl gp kp bp .nil pass0 (pa_cons (vrow (Pr := Pw) fun _ _ h => h) (pa_cons (he_ne (P0 := Pw) (ne_call (ρ := ρw) C.gaths (Sub.refl _) (hr.mono (by decide)) (da_cons (de_var 2 rfl) da_nil) ⟨n, ps, hn4, Nat.le_trans hp16 (by decide), rfl⟩) slw) pa_nil)) (by decide) rfl rfl) fun σ H k ⟨p, z⟩ => ⟨p, fun v1 H1 ⟨e1, p1⟩ => ⟨p1, fun v2 H2 ⟨Hm, av, p2, ha, x, j, r⟩ => ?_⟩⟩
      subst e1
      have p3 := lw_ex p2 x j
      obtain ⟨n2, ps2, gs, ew, hg, hl1, hl2, rfl⟩ := ha
      obtain ⟨en, ep⟩ := webD_inj (AV.d.inj (List.cons.inj ew).1)
      subst en ep
      obtain ⟨t, xs, rfl, ht, hd⟩ := dp_lst r
      have hlen := dpAll_len hd
      rw [List.length_map] at hlen
      have htl : t ≠ l := fun e => by
        obtain ⟨i, s, c, ⟨hrow, _, _⟩, _⟩ := p3.2.1
        rw [e, hrow] at ht
        cases ht
        match gs, hd with
        | g1 :: g2 :: gs, .cons _ (.cons hh _) => cases hh
      refine ⟨l, t, a, ns, xs, rfl, htl, ht, by omega, by omega, j, p3.2.1, fun u H' hu e' j' r' => z u H' ?_⟩
      obtain ⟨g, hgm, hq⟩ := dpAll_mem hd hu
      exact ⟨g, hg g hgm, lw_exB p3 e' j' r', dq_exB p3.2.1 e' hq⟩
    have h2 : ∀ {p1 p2 p3 pos : Pos} {j0 : Nat}, PE X (.Call (.Name "_law_taken" p1) [.Name "_law_row_here" p2, .Constant (.int 5) j0 p3] [] pos) (fun σ H k => ∃ i : List Int × V, True ∧ (Pg i σ H ∧ ∀ v H', (∃ k : Int, v = .int k ∧ 0 ≤ k ∧ k < 5 ∧ Pg i σ H') → k v H')) := fun {p1 p2 p3 pos j0} => pe_all fun i _ =>
      he_taken (l := l) TC hr (by decide) (vrow fun _ _ h => h.1) ve_int (by decide) (by decide) (fun σ H h => ⟨h.1.1, h.1.2.1⟩) fun σ H k H' h k1 k2 e j r => ⟨k, rfl, k1, k2, lw_exB h.1 e j r, dq_exB h.1.2.1 e h.2⟩
    have vn : ∀ (i : List Int × V) {p1 p2 pos : Pos} {j0 : Nat}, VE X (Pg i) (.Subscript (.Name "_law_web_here" p1) (.Constant (.int 0) j0 p2) pos) (.int (n : Nat)) := fun i {p1 p2 pos j0} => he_post (he_de (W := W) (ρ := ρw) (a := .d (.int (n : Nat))) (de_ixT 0 (de_var 2 rfl) de_int rfl rfl) fun σ H h => slw σ H h.1) fun σ v H' ⟨H, h, x, j, r⟩ => ⟨dp_int r, lw_ex h.1 x j, dp_mono x _ _ h.2⟩
    have h3 : ∀ {p1 p2 p3 p4 p5 pos : Pos} {j0 : Nat}, PE X (.Call (.Name "_law_taken" p1) [.Name "_law_row_here" p2, .Subscript (.Name "_law_web_here" p3) (.Constant (.int 0) j0 p4) p5] [] pos) (fun σ H k => ∃ i : List Int × V, True ∧ (Pg i σ H ∧ ∀ v H', (∃ k : Int, v = .int k ∧ 0 ≤ k ∧ k < (n : Nat) ∧ Pg i σ H') → k v H')) := fun {p1 p2 p3 p4 p5 pos j0} => pe_all fun i _ =>
      he_taken (l := l) TC hr (by decide) (vrow fun _ _ h => h.1) (vn i) (by omega) (by omega) (fun σ H h => ⟨h.1.1, h.1.2.1⟩) fun σ H k H' h k1 k2 e j r => ⟨k, rfl, k1, k2, lw_exB h.1 e j r, dq_exB h.1.2.1 e h.2⟩
    let ρt : List Int × Nat × Int → Rho := fun t => [none, none, some (.d (webD n ps)), some (.d (tupD t.1)), some (.d (.int (t.2.1 : Nat))), some (.d (.int t.2.2)), none, none]
    refine hss_cons (P1 := fun σ H => ∃ t : List Int × Nat × Int, (GathOk n ps t.1 ∧ t.2.1 ≤ 4 ∧ t.2.2 ∈ ppl n) ∧ W.J H ∧ SlOk K H σ (ρt t)) (ps_imp (ps_asg (pe_tup (pa_cons h1 (pa_cons h2 (pa_cons h3 pa_nil)))) (pg_tup rfl (pgs_cons (pg_name (i := 3) scLaw.nd rfl (Or.inr rfl)) (pgs_cons (pg_name (i := 4) scLaw.nd rfl (Or.inr rfl)) (pgs_cons (pg_name (i := 5) scLaw.nd rfl (Or.inl rfl)) pgs_nil))))) fun D σ H ⟨p, q, _⟩ => ⟨p, fun u H1 ⟨g, okg, p1⟩ => ⟨(g, u), trivial, p1, fun v2 H2 ⟨k2, e2, a2, b2, p2⟩ => ⟨(g, u), trivial, p2, fun v3 H3 ⟨k3, e3, a3, b3, p3⟩ => ?g3⟩⟩⟩) ?r3
    case g3 =>
      subst e2 e3
      refine ⟨bigL 3 (by decide), fun pp hp => ⟨pp, _, rfl, SqT.of upd_same, rfl, _, _, rfl, _, _, rfl, _, _, rfl, rfl, q _ _ ⟨(g, k2.toNat, k3), ⟨okg, by show k2.toNat ≤ 4; omega, mem_ppl.mpr ⟨a3, b3⟩⟩, W.jal _ _ _ hp p3.1.1, ?_⟩⟩⟩
      have x : Ex W H3 (upd H3 pp (.tup [u, .int k2, .int k3])) := Ex.new hp
      have p4 := lw_ex p3.1 x (W.jal _ _ _ hp p3.1.1)
      have e2 : ((k2.toNat : Nat) : Int) = k2 := by omega
      have sl := ((((slw σ _ p4).2.set 3 (show AvOk K _ u (.d (tupD g)) from dp_mono x _ _ p3.2)).set 4 (show AvOk K _ (.int k2) (.d (.int (k2.toNat : Nat))) from by rw [e2]; exact .int k2)).set 5 (show AvOk K _ (.int k3) (.d (.int k3)) from .int k3))
      exact sl
    refine hss_any fun ⟨g, m, p⟩ => hss_when fun ⟨okg, hm, hp⟩ => ?_
    exact hss_d (law_tail (s := s0) C hr okw (Nat.le_trans hp16 (by decide)) okg hm hp) (fun σ H h => h) fun v H' r => dp_bl r
  exact ⟨_, main, ⟨hj, hs, rfl, fun q hq => by simp at hq; subst hq; rfl⟩, fun _ _ z => z.elim, fun v H' h => by rw [h]; exact q H'⟩
end
end FK
set_option Elab.async false
set_option linter.all false
set_option maxRecDepth 100000
set_option maxHeartbeats 4000000
/-! The end: what the program's top leaves, and the law's walk. -/
namespace FK
open PySem PySem.Spec PyProof.Rows L2
/-- a def of the top -/
def DAt (K : PySem.W.Frag) (x : Str) (st : Stmt) : Prop := ∃ (f : Addr) (fd : FuncData), PySem.W.nsIn K mainGlobals x = some (some (.ref f)) ∧ Fun K x x st f fd
theorem dat_mk {K : PySem.W.Frag} {x : Str} {st : Stmt} {f : Addr} {oc : Value} {od an : Option Addr} {osl : Array (Option Value)} {kV doc pm cdv ct : Value} (a : PySem.W.nsIn K mainGlobals x = some (some (.ref f))) (l : K.lookup f = some ⟨oc, od, .func (PySem.W.fnOf x x (defArgs st) (defBody st) (defScope st) .none kV doc pm an cdv ct), osl⟩)
    (c : PySem.W.codeIn K cdv x = true) (k : PySem.W.keepIn K (.ref f) = true) : DAt K x st := ⟨f, _, a, fun_mk l c k⟩
/-- a def whose code object stands at c, with a table at P -/
def CAt (K : PySem.W.Frag) (x : Str) (st : Stmt) (c P : Addr) : Prop := ∃ (f : Addr) (fd : FuncData) (o : Obj) (e : Value) (dd : Option Addr) (vs : Array Value) (sl : Array (Option Value)), PySem.W.nsIn K mainGlobals x = some (some (.ref f)) ∧ FunC K x st f fd c ∧
  PySem.W.codeHdIn K c P = true ∧ K.lookup P = none ∧ K.lookup f = some o ∧ o.data = .func fd ∧ fd.code = .ref c ∧ K.lookup c = some ⟨e, dd, .fields vs, sl⟩ ∧ vs[11]? = some (.ref P)
theorem cat_mk {K : PySem.W.Frag} {x : Str} {st : Stmt} {f c P : Addr} {oc e : Value} {od an dd : Option Addr} {osl sl : Array (Option Value)} {vs : Array Value} {kV doc pm ct : Value} (a : PySem.W.nsIn K mainGlobals x = some (some (.ref f))) (l : K.lookup f = some ⟨oc, od, .func (PySem.W.fnOf x x (defArgs st) (defBody st) (defScope st) .none kV doc pm an (.ref c) ct), osl⟩)
    (h : PySem.W.codeIn K (.ref c) x = true) (k : PySem.W.keepIn K (.ref f) = true) (g : K.lookup c = some ⟨e, dd, .fields vs, sl⟩) (v : vs[11]? = some (.ref P)) (hd : PySem.W.codeHdIn K c P = true) (n : K.lookup P = none) : CAt K x st c P :=
  ⟨f, _, _, e, dd, vs, sl, a, funC_mk l h k, hd, n, l, rfl, rfl, g, v⟩
theorem walk_ofGen {l : PySem.W.OpenLaw} {n k : Nat} {q : Program} {loose : List Str} {XP : (Str → Option Value) → Heap → Prop} {YP : World → Heap → Prop} {d : DefRec} {K : Params → PySem.W.Frag} {CX : World → CXT} {x : Str}
    (hn : l.most = some n) (hn2 : n ≤ sizeLine) (hdf : d.params.defaults = []) (hr : Room k callerA) (hY : ∀ (w : World) (h : Heap), YP w h → (K w.params).In h)
    (F : ∀ (w : World) (mg : Str → Option Value) (fa : Addr) (h : Heap), YP w h → (K w.params).In h → h.Ns mainGlobals mg → mg d.name = some (.ref fa) → (∀ (y : Str) (f : Addr), ((recsOf q).any fun e => e.name == y) = true → mg y = some (.ref f) → LamX.OwnTab (K w.params) f h) → LamX.LawAtS l w (K w.params) (CX w) k n x mg fa h)
    (hCX : ∀ (w : World) (H : Hp) (s : Shared) (e : Value) (s' : Shared), CX w [] H s (fun _ _ _ => False) e s' → False) :
    PySem.W.WalkO q loose XP YP l.row.toRowW d [] (fun f vs => PySem.call f vs) := by
  refine Att.attach_callB hn hdf fun w s₀ s₁ mg mb fa o pm cd doc a vs ns G Y ho hd hcd hmg hobj hints hlen hbits hg => ?_
  have KX := hY w _ Y
  have own : ∀ (y : Str) (f : Addr), ((recsOf q).any fun e => e.name == y) = true → mg y = some (.ref f) → LamX.OwnTab (K w.params) f s₁.heap := fun y f hrec hy c P o1 fd1 e dd vs1 sl k1 k2 k3 k4 k5 => by
    obtain ⟨dL, hm, hn1⟩ := List.any_eq_true.mp hrec
    have en : dL.name = y := beq_iff_eq.mp hn1
    obtain ⟨a', o', fd', c', P', h1, h2, h3, h4, h5, h6⟩ := G.T.tab dL hm
    rw [en, hy] at h1
    cases h1
    have g1 := KX _ _ k1
    rw [g1] at h2
    cases h2
    rw [k2] at h3
    cases h3
    rw [k3] at h4
    cases h4
    obtain ⟨⟨oc, vc, e1, _, e3, e4⟩, hP⟩ := h6
    have g2 := KX _ _ k4
    rw [g2] at e1
    cases e1
    cases e3
    rw [k5] at e4
    cases e4
    exact hP
  obtain ⟨fd, cs, sp, hT, nT, C, hb, hsp, hF⟩ := F w mg fa _ Y KX G.T.g hmg own
  exact LamX.law_callTs KX G.T.g G.T.b G.T.builtins G.T.nolimit hg hT nT C G.T.bmain hobj hints (Nat.le_trans hlen hn2) hr hF hb (fun H hH hS => hsp H a ns hlen hbits hH hS) fun H e s' => hCX w H s₁ e s'

theorem law_end {l : PySem.W.OpenLaw} {w : World} {K : PySem.W.Frag} {h : Heap} {mg : Str → Option Value} {fa : Addr} {q : Program} (X : K.In h) (G : h.Ns mainGlobals mg) (hfa : mg "law" = some (.ref fa)) (own : ∀ (y : Str) (f : Addr), ((recsOf q).any fun e => e.name == y) = true → mg y = some (.ref f) → LamX.OwnTab K f h)
    {c0 P0 c1 P1 c2 P2 c3 P3 c4 P4 c5 P5 : Addr} {tk_MOST_PEOPLE tk_MOST_CALLS_hands tk_MOST_CALLS_wishing : Tok}
    (d_is_in : DAt K "is_in" sIsIn)
    (d_are_foes : DAt K "are_foes" sAreFoes)
    (d_foes : DAt K "foes" sFoes)
    (d_need_gathering : DAt K "need_gathering" sNeedGath)
    (d_came : DAt K "came" sCame)
    (d_need_calls : DAt K "need_calls" sNeedCalls)
    (d_worth : DAt K "worth" sWorth)
    (d_with_foes : DAt K "with_foes" sWith)
    (d_forces : DAt K "forces" sForces)
    (d_can_force : DAt K "can_force" sCanF)
    (d_l_taken : DAt K "_law_taken" sTk)
    (d_l_pick : DAt K "_law_pick" sPick)
    (d_l_alike : DAt K "_law_alike" sLA)
    (d_l_web : DAt K "_law_web" sWeb)
    (d_l_foes : DAt K "_law_foes" sLF)
    (d_l_come : DAt K "_law_come" sLC)
    (d_l_lots : DAt K "_law_lots" sLots)
    (d_l_is_gathering : DAt K "_law_is_gathering" sLG)
    (d_l_gatherings : DAt K "_law_gatherings" sGaths)
    (d_l_worth : DAt K "_law_worth" sLW)
    (d_l_forces : DAt K "_law_forces" sLO)
    (d_law : DAt K "law" sLaw)
    (k_need_web : CAt K "need_web" sNeedWeb c0 P0)
    (k_is_lot : CAt K "is_lot" sIsLot c1 P1)
    (k_is_gathering : CAt K "is_gathering" sIsGath c2 P2)
    (k_most_there : CAt K "most_there" sMost c3 P3)
    (k_best_calls : CAt K "best_calls" sBest c4 P4)
    (k_can_hold : CAt K "can_hold" sHold c5 P5)
    (r0 : ((recsOf q).any fun e => e.name == ("need_web" : Str)) = true)
    (r1 : ((recsOf q).any fun e => e.name == ("is_lot" : Str)) = true)
    (r2 : ((recsOf q).any fun e => e.name == ("is_gathering" : Str)) = true)
    (t3 : h.get? P3 = some { cls := .none, data := .fields #[] })
    (t4 : h.get? P4 = some { cls := .none, data := .fields #[] })
    (t5 : h.get? P5 = some { cls := .none, data := .fields #[] })
    (hnd : [P0, P1, P2, P3, P4, P5].Nodup)
    (b_isinstance : PySem.W.nsIn K mainGlobals "isinstance" = some none)
    (b_tuple : PySem.W.nsIn K mainGlobals "tuple" = some none)
    (b_len : PySem.W.nsIn K mainGlobals "len" = some none)
    (b_any : PySem.W.nsIn K mainGlobals "any" = some none)
    (b_all : PySem.W.nsIn K mainGlobals "all" = some none)
    (b_range : PySem.W.nsIn K mainGlobals "range" = some none)
    (b_int : PySem.W.nsIn K mainGlobals "int" = some none)
    (b_bool : PySem.W.nsIn K mainGlobals "bool" = some none)
    (b_sorted : PySem.W.nsIn K mainGlobals "sorted" = some none)
    (b_max : PySem.W.nsIn K mainGlobals "max" = some none)
    (b_min : PySem.W.nsIn K mainGlobals "min" = some none)
    (b_set : PySem.W.nsIn K mainGlobals "set" = some none)
    (b_list : PySem.W.nsIn K mainGlobals "list" = some none)
    (b_str : PySem.W.nsIn K mainGlobals "str" = some none)
    (m_MOST_PEOPLE : PySem.W.nsIn K mainGlobals "MOST_PEOPLE" = some (some (.int 7 tk_MOST_PEOPLE)))
    (m_MOST_CALLS_hands : PySem.W.nsIn K mainGlobals "MOST_CALLS_hands" = some (some (.int 8 tk_MOST_CALLS_hands)))
    (m_MOST_CALLS_wishing : PySem.W.nsIn K mainGlobals "MOST_CALLS_wishing" = some (some (.int 8 tk_MOST_CALLS_wishing)))
    : LamX.LawAtS l w K CX0 14 63 "_law_script" mg fa h := by
  obtain ⟨f_is_in, fd_is_in, a_is_in, F_is_in⟩ := d_is_in
  obtain ⟨f_are_foes, fd_are_foes, a_are_foes, F_are_foes⟩ := d_are_foes
  obtain ⟨f_foes, fd_foes, a_foes, F_foes⟩ := d_foes
  obtain ⟨f_need_gathering, fd_need_gathering, a_need_gathering, F_need_gathering⟩ := d_need_gathering
  obtain ⟨f_came, fd_came, a_came, F_came⟩ := d_came
  obtain ⟨f_need_calls, fd_need_calls, a_need_calls, F_need_calls⟩ := d_need_calls
  obtain ⟨f_worth, fd_worth, a_worth, F_worth⟩ := d_worth
  obtain ⟨f_with_foes, fd_with_foes, a_with_foes, F_with_foes⟩ := d_with_foes
  obtain ⟨f_forces, fd_forces, a_forces, F_forces⟩ := d_forces
  obtain ⟨f_can_force, fd_can_force, a_can_force, F_can_force⟩ := d_can_force
  obtain ⟨f_l_taken, fd_l_taken, a_l_taken, F_l_taken⟩ := d_l_taken
  obtain ⟨f_l_pick, fd_l_pick, a_l_pick, F_l_pick⟩ := d_l_pick
  obtain ⟨f_l_alike, fd_l_alike, a_l_alike, F_l_alike⟩ := d_l_alike
  obtain ⟨f_l_web, fd_l_web, a_l_web, F_l_web⟩ := d_l_web
  obtain ⟨f_l_foes, fd_l_foes, a_l_foes, F_l_foes⟩ := d_l_foes
  obtain ⟨f_l_come, fd_l_come, a_l_come, F_l_come⟩ := d_l_come
  obtain ⟨f_l_lots, fd_l_lots, a_l_lots, F_l_lots⟩ := d_l_lots
  obtain ⟨f_l_is_gathering, fd_l_is_gathering, a_l_is_gathering, F_l_is_gathering⟩ := d_l_is_gathering
  obtain ⟨f_l_gatherings, fd_l_gatherings, a_l_gatherings, F_l_gatherings⟩ := d_l_gatherings
  obtain ⟨f_l_worth, fd_l_worth, a_l_worth, F_l_worth⟩ := d_l_worth
  obtain ⟨f_l_forces, fd_l_forces, a_l_forces, F_l_forces⟩ := d_l_forces
  obtain ⟨f_law, fd_law, a_law, F_law⟩ := d_law
  obtain ⟨f_need_web, fd_need_web, o_need_web, e0, dd0, vs0, sl0, a_need_web, F_need_web, hd0, n0, l0, lf0, lc0, lk0, lv0⟩ := k_need_web
  obtain ⟨f_is_lot, fd_is_lot, o_is_lot, e1, dd1, vs1, sl1, a_is_lot, F_is_lot, hd1, n1, l1, lf1, lc1, lk1, lv1⟩ := k_is_lot
  obtain ⟨f_is_gathering, fd_is_gathering, o_is_gathering, e2, dd2, vs2, sl2, a_is_gathering, F_is_gathering, hd2, n2, l2, lf2, lc2, lk2, lv2⟩ := k_is_gathering
  obtain ⟨f_most_there, fd_most_there, o_most_there, e3, dd3, vs3, sl3, a_most_there, F_most_there, hd3, n3, l3, lf3, lc3, lk3, lv3⟩ := k_most_there
  obtain ⟨f_best_calls, fd_best_calls, o_best_calls, e4, dd4, vs4, sl4, a_best_calls, F_best_calls, hd4, n4, l4, lf4, lc4, lk4, lv4⟩ := k_best_calls
  obtain ⟨f_can_hold, fd_can_hold, o_can_hold, e5, dd5, vs5, sl5, a_can_hold, F_can_hold, hd5, n5, l5, lf5, lc5, lk5, lv5⟩ := k_can_hold
  have g_is_in := PySem.W.mg_of X G a_is_in
  have g_are_foes := PySem.W.mg_of X G a_are_foes
  have g_foes := PySem.W.mg_of X G a_foes
  have g_need_gathering := PySem.W.mg_of X G a_need_gathering
  have g_came := PySem.W.mg_of X G a_came
  have g_need_calls := PySem.W.mg_of X G a_need_calls
  have g_worth := PySem.W.mg_of X G a_worth
  have g_with_foes := PySem.W.mg_of X G a_with_foes
  have g_forces := PySem.W.mg_of X G a_forces
  have g_can_force := PySem.W.mg_of X G a_can_force
  have g_l_taken := PySem.W.mg_of X G a_l_taken
  have g_l_pick := PySem.W.mg_of X G a_l_pick
  have g_l_alike := PySem.W.mg_of X G a_l_alike
  have g_l_web := PySem.W.mg_of X G a_l_web
  have g_l_foes := PySem.W.mg_of X G a_l_foes
  have g_l_come := PySem.W.mg_of X G a_l_come
  have g_l_lots := PySem.W.mg_of X G a_l_lots
  have g_l_is_gathering := PySem.W.mg_of X G a_l_is_gathering
  have g_l_gatherings := PySem.W.mg_of X G a_l_gatherings
  have g_l_worth := PySem.W.mg_of X G a_l_worth
  have g_l_forces := PySem.W.mg_of X G a_l_forces
  have g_need_web := PySem.W.mg_of X G a_need_web
  have g_is_lot := PySem.W.mg_of X G a_is_lot
  have g_is_gathering := PySem.W.mg_of X G a_is_gathering
  have g_most_there := PySem.W.mg_of X G a_most_there
  have g_best_calls := PySem.W.mg_of X G a_best_calls
  have g_can_hold := PySem.W.mg_of X G a_can_hold
  have bi_is_in : Binds K fd_is_in ["value", "least", "most"] [] := F_is_in.binds fun _ _ _ _ _ _ us hl => match us, hl with | [_, _, _], _ => rfl
  have bi_are_foes : Binds K fd_are_foes ["web", "one", "other"] [] := F_are_foes.binds fun _ _ _ _ _ _ us hl => match us, hl with | [_, _, _], _ => rfl
  have bi_foes : Binds K fd_foes ["web", "person"] [] := F_foes.binds fun _ _ _ _ _ _ us hl => match us, hl with | [_, _], _ => rfl
  have bi_need_gathering : Binds K fd_need_gathering ["web", "gathering"] [] := F_need_gathering.binds fun _ _ _ _ _ _ us hl => match us, hl with | [_, _], _ => rfl
  have bi_came : Binds K fd_came ["web", "gathering", "person"] [] := F_came.binds fun _ _ _ _ _ _ us hl => match us, hl with | [_, _, _], _ => rfl
  have bi_need_calls : Binds K fd_need_calls ["web", "start", "least", "many"] [] := F_need_calls.binds fun _ _ _ _ _ _ us hl => match us, hl with | [_, _, _, _], _ => rfl
  have bi_worth : Binds K fd_worth pWorth [] := F_worth.binds fun _ _ _ _ _ _ us hl => match us, hl with | [_, _, _, _, _, _], _ => rfl
  have bi_with_foes : Binds K fd_with_foes ["web", "people"] [] := F_with_foes.binds fun _ _ _ _ _ _ us hl => match us, hl with | [_, _], _ => rfl
  have bi_forces : Binds K fd_forces pForces [] := F_forces.binds fun _ _ _ _ _ _ us hl => match us, hl with | [_, _, _, _, _], _ => rfl
  have bi_can_force : Binds K fd_can_force ["web", "many"] [] := F_can_force.binds fun _ _ _ _ _ _ us hl => match us, hl with | [_, _], _ => rfl
  have bi_l_taken : Binds K fd_l_taken ["_law_row_here", "_law_many"] [] := F_l_taken.binds fun _ _ _ _ _ _ us hl => match us, hl with | [_, _], _ => rfl
  have bi_l_pick : Binds K fd_l_pick ["_law_row_here", "_law_things"] [] := F_l_pick.binds fun _ _ _ _ _ _ us hl => match us, hl with | [_, _], _ => rfl
  have bi_l_alike : Binds K fd_l_alike pLA [] := F_l_alike.binds fun _ _ _ _ _ _ us hl => match us, hl with | [_, _], _ => rfl
  have bi_l_web : Binds K fd_l_web ["_law_row_here", "_law_most"] [] := F_l_web.binds fun _ _ _ _ _ _ us hl => match us, hl with | [_, _], _ => rfl
  have bi_l_foes : Binds K fd_l_foes ["_law_web_here", "_law_person"] [] := F_l_foes.binds fun _ _ _ _ _ _ us hl => match us, hl with | [_, _], _ => rfl
  have bi_l_come : Binds K fd_l_come ["_law_web_here", "_law_gathering", "_law_person"] [] := F_l_come.binds fun _ _ _ _ _ _ us hl => match us, hl with | [_, _, _], _ => rfl
  have bi_l_lots : Binds K fd_l_lots ["_law_web_here"] [] := F_l_lots.binds fun _ _ _ _ _ _ us hl => match us, hl with | [_], _ => rfl
  have bi_l_is_gathering : Binds K fd_l_is_gathering ["_law_web_here", "_law_lot"] [] := F_l_is_gathering.binds fun _ _ _ _ _ _ us hl => match us, hl with | [_, _], _ => rfl
  have bi_l_gatherings : Binds K fd_l_gatherings ["_law_web_here"] [] := F_l_gatherings.binds fun _ _ _ _ _ _ us hl => match us, hl with | [_], _ => rfl
  have bi_l_worth : Binds K fd_l_worth pLW [] := F_l_worth.binds fun _ _ _ _ _ _ us hl => match us, hl with | [_, _, _, _, _], _ => rfl
  have bi_l_forces : Binds K fd_l_forces pLO [] := F_l_forces.binds fun _ _ _ _ _ _ us hl => match us, hl with | [_, _, _, _], _ => rfl
  have bi_need_web : Binds K fd_need_web ["web"] [] := (F_need_web.toFun).binds fun _ _ _ _ _ _ us hl => match us, hl with | [_], _ => rfl
  have bi_is_lot : Binds K fd_is_lot ["web", "value"] [] := (F_is_lot.toFun).binds fun _ _ _ _ _ _ us hl => match us, hl with | [_, _], _ => rfl
  have bi_is_gathering : Binds K fd_is_gathering ["web", "value"] [] := (F_is_gathering.toFun).binds fun _ _ _ _ _ _ us hl => match us, hl with | [_, _], _ => rfl
  have bi_most_there : Binds K fd_most_there ["web", "start", "many"] [] := (F_most_there.toFun).binds fun _ _ _ _ _ _ us hl => match us, hl with | [_, _, _], _ => rfl
  have bi_best_calls : Binds K fd_best_calls ["web", "start", "many"] [] := (F_best_calls.toFun).binds fun _ _ _ _ _ _ us hl => match us, hl with | [_, _, _], _ => rfl
  have bi_can_hold : Binds K fd_can_hold ["web", "start", "person", "many"] [] := (F_can_hold.toFun).binds fun _ _ _ _ _ _ us hl => match us, hl with | [_, _, _, _], _ => rfl
  have b_isinstance := PySem.W.mg_none_of X G b_isinstance
  have b_tuple := PySem.W.mg_none_of X G b_tuple
  have b_len := PySem.W.mg_none_of X G b_len
  have b_any := PySem.W.mg_none_of X G b_any
  have b_all := PySem.W.mg_none_of X G b_all
  have b_range := PySem.W.mg_none_of X G b_range
  have b_int := PySem.W.mg_none_of X G b_int
  have b_bool := PySem.W.mg_none_of X G b_bool
  have b_sorted := PySem.W.mg_none_of X G b_sorted
  have b_max := PySem.W.mg_none_of X G b_max
  have b_min := PySem.W.mg_none_of X G b_min
  have b_set := PySem.W.mg_none_of X G b_set
  have b_list := PySem.W.mg_none_of X G b_list
  have b_str := PySem.W.mg_none_of X G b_str
  have m_MOST_PEOPLE : ∃ t, mg "MOST_PEOPLE" = some (.int 7 t) := ⟨_, PySem.W.mg_of X G m_MOST_PEOPLE⟩
  have m_MOST_CALLS_hands : ∃ t, mg "MOST_CALLS_hands" = some (.int 8 t) := ⟨_, PySem.W.mg_of X G m_MOST_CALLS_hands⟩
  have m_MOST_CALLS_wishing : ∃ t, mg "MOST_CALLS_wishing" = some (.int 8 t) := ⟨_, PySem.W.mg_of X G m_MOST_CALLS_wishing⟩
  have e := hfa.symm.trans (PySem.W.mg_of X G a_law)
  cases e
  simp only [List.nodup_cons, List.mem_cons, List.not_mem_nil, or_false, not_or, List.nodup_nil, and_true, not_false_eq_true] at hnd
  obtain ⟨⟨h01, h02, h03, h04, h05⟩, ⟨h12, h13, h14, h15⟩, ⟨h23, h24, h25⟩, ⟨h34, h35⟩, h45⟩ := hnd
  let TG : List Addr := [P0, P1, P2]
  let TL : List (Addr × Str) := [(P3, lamQ "most_there"), (P4, lamQ "best_calls"), (P5, lamQ "can_hold")]
  let cs : List (Addr × Addr) := [(c0, P0), (c1, P1), (c2, P2), (c3, P3), (c4, P4), (c5, P5)]
  have all : ∀ {C : Addr × Addr → Prop}, C (c0, P0) → C (c1, P1) → C (c2, P2) → C (c3, P3) → C (c4, P4) → C (c5, P5) → ∀ p ∈ cs, C p := fun {C} z0 z1 z2 z3 z4 z5 p hp => by
    simp only [cs, List.mem_cons, List.not_mem_nil, or_false] at hp
    rcases hp with rfl | rfl | rfl | rfl | rfl | rfl
    · exact z0
    · exact z1
    · exact z2
    · exact z3
    · exact z4
    · exact z5
  refine ⟨fd_law, cs, spLaw K (W0 TG TL), all (own _ _ r0 g_need_web _ _ _ _ _ _ _ _ l0 lf0 lc0 lk0 lv0) (own _ _ r1 g_is_lot _ _ _ _ _ _ _ _ l1 lf1 lc1 lk1 lv1) (own _ _ r2 g_is_gathering _ _ _ _ _ _ _ _ l2 lf2 lc2 lk2 lv2) t3 t4 t5, all n0 n1 n2 n3 n4 n5,
    all (PySem.W.codeHd_of_K X hd0) (PySem.W.codeHd_of_K X hd1) (PySem.W.codeHd_of_K X hd2) (PySem.W.codeHd_of_K X hd3) (PySem.W.codeHd_of_K X hd4) (PySem.W.codeHd_of_K X hd5), ?hb, fun H a ns _ _ hT hS => ⟨a, ns, rfl, ⟨fun P hP => ?hg, fun p hp => ?hl⟩, hS, fun _ => rfl⟩, fun base KB GB TB => ?hF⟩
  case hb =>
    obtain ⟨oc, od, kV, doc, pm, an, cdv, ct, osl, rfl, lk, hcd⟩ := F_law.ex
    exact fun s u => .of_eq rfl
  case hg =>
    simp only [TG, List.mem_cons, List.not_mem_nil, or_false] at hP
    rcases hP with rfl | rfl | rfl
    · exact ⟨#[], hT (c0, _) (by simp [cs]), True.intro⟩
    · exact ⟨#[], hT (c1, _) (by simp [cs]), True.intro⟩
    · exact ⟨#[], hT (c2, _) (by simp [cs]), True.intro⟩
  case hl =>
    simp only [TL, List.mem_cons, List.not_mem_nil, or_false] at hp
    rcases hp with rfl | rfl | rfl
    · exact LamX.TabS.nil (hT (c3, _) (by simp [cs]))
    · exact LamX.TabS.nil (hT (c4, _) (by simp [cs]))
    · exact LamX.TabS.nil (hT (c5, _) (by simp [cs]))
  case hF =>
    have tb : ∀ {c P : Addr}, (c, P) ∈ cs → GxR.TabB base mg c P := fun hm => let t := TB _ hm; ⟨t.code, t.bm, t.gP⟩
    have nTL : ∀ {R : Addr}, R ≠ P3 → R ≠ P4 → R ≠ P5 → ∀ p ∈ TL, p.1 ≠ R := fun x3 x4 x5 p hp => by
      simp only [TL, List.mem_cons, List.not_mem_nil, or_false] at hp
      rcases hp with rfl | rfl | rfl
      · exact Ne.symm x3
      · exact Ne.symm x4
      · exact Ne.symm x5
    have L3 : LamT base mg TG TL "most_there" c3 P3 := ⟨tb (by simp [cs]), by simp [TL], fun p hp e => by
      simp only [TL, List.mem_cons, List.not_mem_nil, or_false] at hp
      rcases hp with rfl | rfl | rfl
      · rfl
      · exact absurd e.symm h34
      · exact absurd e.symm h35, fun R hR => by
      simp only [TG, List.mem_cons, List.not_mem_nil, or_false] at hR
      rcases hR with rfl | rfl | rfl
      · exact h03
      · exact h13
      · exact h23⟩
    have L4 : LamT base mg TG TL "best_calls" c4 P4 := ⟨tb (by simp [cs]), by simp [TL], fun p hp e => by
      simp only [TL, List.mem_cons, List.not_mem_nil, or_false] at hp
      rcases hp with rfl | rfl | rfl
      · exact absurd e h34
      · rfl
      · exact absurd e.symm h45, fun R hR => by
      simp only [TG, List.mem_cons, List.not_mem_nil, or_false] at hR
      rcases hR with rfl | rfl | rfl
      · exact h04
      · exact h14
      · exact h24⟩
    have L5 : LamT base mg TG TL "can_hold" c5 P5 := ⟨tb (by simp [cs]), by simp [TL], fun p hp e => by
      simp only [TL, List.mem_cons, List.not_mem_nil, or_false] at hp
      rcases hp with rfl | rfl | rfl
      · exact absurd e h35
      · exact absurd e h45
      · rfl, fun R hR => by
      simp only [TG, List.mem_cons, List.not_mem_nil, or_false] at hR
      rcases hR with rfl | rfl | rfl
      · exact h05
      · exact h15
      · exact h25⟩
    let W : Wd := W0 TG TL
    have W_0 : TabW W P0 := tabW0 (by simp [TG]) (nTL h03 h04 h05)
    have W_1 : TabW W P1 := tabW0 (by simp [TG]) (nTL h13 h14 h15)
    have W_2 : TabW W P2 := tabW0 (by simp [TG]) (nTL h23 h24 h25)
    have C_is_in : Callee l.prog w K mg base "is_in" 3 1 W FIsIn := callee_of g_is_in F_is_in bi_is_in rfl (ok_is_in F_is_in b_isinstance b_int b_bool)
    have C_are : Callee l.prog w K mg base "are_foes" 3 1 W FAreFoes := callee_of g_are_foes F_are_foes bi_are_foes rfl (ok_are_foes F_are_foes b_min b_max)
    have C_foes : Callee l.prog w K mg base "foes" 2 2 W FFoes := callee_of g_foes F_foes bi_foes rfl (ok_foes F_foes b_range C_are)
    have C_came : Callee l.prog w K mg base "came" 3 2 W FCame := callee_of g_came F_came bi_came rfl (ok_came F_came b_sorted b_tuple C_are)
    have C_nw : Callee l.prog w K mg base "need_web" 1 2 W FNeedWeb := callee_of g_need_web F_need_web.toFun bi_need_web rfl (ok_need_web (fi := f_is_in) (fdi := fd_is_in) F_need_web (tb (by simp [cs])) W_0 b_isinstance b_tuple b_len b_any b_range m_MOST_PEOPLE C_is_in)
    have C_il : Callee l.prog w K mg base "is_lot" 2 2 W FIsLot := callee_of g_is_lot F_is_lot.toFun bi_is_lot rfl (ok_is_lot F_is_lot (tb (by simp [cs])) W_1 b_isinstance b_tuple b_len b_all b_range b_int b_bool F_is_in g_is_in)
    have C_ig : Callee l.prog w K mg base "is_gathering" 2 3 W FIsGath := callee_of g_is_gathering F_is_gathering.toFun bi_is_gathering rfl (ok_is_gath F_is_gathering (tb (by simp [cs])) W_2 b_any C_il)
    have C_ng : Callee l.prog w K mg base "need_gathering" 2 4 W FNeedGath := callee_of g_need_gathering F_need_gathering bi_need_gathering rfl (ok_need_gath F_need_gathering C_nw C_ig)
    have C_nc : Callee l.prog w K mg base "need_calls" 4 5 W FNeedCalls := callee_of g_need_calls F_need_calls bi_need_calls rfl (ok_need_calls F_need_calls m_MOST_CALLS_hands C_ng C_is_in)
    have WC : WorthC l.prog w K mg base TG TL f_worth fd_worth := worthC F_worth bi_worth g_worth b_range b_max b_min C_came
    have C_most : Callee l.prog w K mg base "most_there" 3 12 W FMost := callee_of g_most_there F_most_there.toFun bi_most_there rfl (ok_most F_most_there L3 b_len C_nc WC)
    have C_best : Callee l.prog w K mg base "best_calls" 3 12 W FBest := callee_of g_best_calls F_best_calls.toFun bi_best_calls rfl (ok_best F_best_calls L4 b_len b_range b_tuple b_max C_nc C_came WC)
    have C_hold : Callee l.prog w K mg base "can_hold" 4 12 W FHold := callee_of g_can_hold F_can_hold.toFun bi_can_hold rfl (ok_hold F_can_hold L5 C_ng C_is_in C_nc WC)
    have C_with : Callee l.prog w K mg base "with_foes" 2 3 W FWith := callee_of g_with_foes F_with_foes bi_with_foes rfl (ok_with F_with_foes b_tuple b_sorted C_foes)
    have C_force : Callee l.prog w K mg base "can_force" 2 13 W FCanF := callee_of g_can_force F_can_force bi_can_force rfl (ok_can_force F_can_force m_MOST_CALLS_wishing C_ng C_is_in F_forces bi_forces g_forces b_len b_range b_tuple b_sorted b_any b_all C_with)
    have C_lf : Callee l.prog w K mg base "_law_foes" 2 1 W FLF := callee_of g_l_foes F_l_foes bi_l_foes rfl (ok_lf F_l_foes b_int b_sorted)
    have C_lc : Callee l.prog w K mg base "_law_come" 3 2 W FLC := callee_of g_l_come F_l_come bi_l_come rfl (ok_lc F_l_come b_tuple b_sorted C_lf)
    have C_lg : Callee l.prog w K mg base "_law_is_gathering" 2 1 W FLG := callee_of g_l_is_gathering F_l_is_gathering bi_l_is_gathering rfl (ok_lg F_l_is_gathering)
    have C_ll : NCallee l.prog w K mg base "_law_lots" 1 1 W DLots FLots := ncallee_of g_l_lots F_l_lots bi_l_lots rfl (ok_lots F_l_lots b_range b_sorted)
    have TC : TakenC l.prog w K mg base W f_l_taken fd_l_taken := ⟨g_l_taken, F_l_taken.kp, bi_l_taken, ok_taken F_l_taken b_int b_len⟩
    exact ok_law F_law ⟨C_most, C_hold, C_force, C_best, fun m => callee_of g_l_worth F_l_worth bi_l_worth rfl (ok_lw F_l_worth bi_l_worth g_l_worth b_len b_int b_range b_max b_min C_lc m),
      fun m => callee_of g_l_forces F_l_forces bi_l_forces rfl (ok_lo F_l_forces bi_l_forces g_l_forces b_len b_range b_sorted b_set C_lf m), C_lc, callee_of g_l_alike F_l_alike bi_l_alike rfl (ok_la1 F_l_alike b_isinstance b_tuple b_list b_str b_int b_bool),
      callee_of g_l_alike F_l_alike bi_l_alike rfl (ok_la2 F_l_alike bi_l_alike g_l_alike b_isinstance b_tuple b_list b_str b_int b_bool b_len b_range), ⟨_, _, TC⟩, ⟨_, _, g_l_web, F_l_web.kp, bi_l_web, ok_web F_l_web TC b_range b_tuple⟩,
      ⟨_, _, g_l_pick, F_l_pick.kp, bi_l_pick, ok_pick F_l_pick TC b_len⟩, ncallee_of g_l_gatherings F_l_gatherings bi_l_gatherings rfl (ok_gaths F_l_gatherings C_ll C_lg), b_max, b_range, b_tuple⟩
end FK
set_option Elab.async false
set_option linter.all false
open PySem PySem.W PyProof.Rows
set_option maxRecDepth 100000 in
set_option maxHeartbeats 0 in
theorem PySem.Challenge.cw_foescome_k16_whole_hands_holds : PySem.Challenge.rw_foescome_k16_whole_hands.Holds := by
  w_on; o_law; k_head; (case hw => w_witness2)
  k_fill
  refine FK.walk_ofGen (l := PySem.Challenge.rw_foescome_k16_whole_hands) (n := 63) (k := 14) (x := "_law_script") (CX := fun _ => L2.CX0) rfl (by decide) rfl ⟨rfl, by decide, by decide⟩ (fun w h Y => PySem.W.km_in_of Y) ?F (fun _ _ _ _ _ h => h)
  case F =>
    intro w mg fa h Y KX G hmg own
    refine' FK.law_end KX G hmg own ?d_is_in ?d_are_foes ?d_foes ?d_need_gathering ?d_came ?d_need_calls ?d_worth ?d_with_foes ?d_forces ?d_can_force ?d_l_taken ?d_l_pick ?d_l_alike ?d_l_web ?d_l_foes ?d_l_come ?d_l_lots ?d_l_is_gathering ?d_l_gatherings ?d_l_worth ?d_l_forces ?d_law ?k_need_web ?k_is_lot ?k_is_gathering ?k_most_there ?k_best_calls ?k_can_hold ?r0 ?r1 ?r2 ?t3 ?t4 ?t5 ?hnd ?b_isinstance ?b_tuple ?b_len ?b_any ?b_all ?b_range ?b_int ?b_bool ?b_sorted ?b_max ?b_min ?b_set ?b_list ?b_str ?m_MOST_PEOPLE ?m_MOST_CALLS_hands ?m_MOST_CALLS_wishing
    (case d_is_in => refine' FK.dat_mk ?a ?l ?c ?k; (case a => k_is); (case l => k_is); (case c => k_is); (case k => k_is))
    (case d_are_foes => refine' FK.dat_mk ?a ?l ?c ?k; (case a => k_is); (case l => k_is); (case c => k_is); (case k => k_is))
    (case d_foes => refine' FK.dat_mk ?a ?l ?c ?k; (case a => k_is); (case l => k_is); (case c => k_is); (case k => k_is))
    (case d_need_gathering => refine' FK.dat_mk ?a ?l ?c ?k; (case a => k_is); (case l => k_is); (case c => k_is); (case k => k_is))
    (case d_came => refine' FK.dat_mk ?a ?l ?c ?k; (case a => k_is); (case l => k_is); (case c => k_is); (case k => k_is))
    (case d_need_calls => refine' FK.dat_mk ?a ?l ?c ?k; (case a => k_is); (case l => k_is); (case c => k_is); (case k => k_is))
    (case d_worth => refine' FK.dat_mk ?a ?l ?c ?k; (case a => k_is); (case l => k_is); (case c => k_is); (case k => k_is))
    (case d_with_foes => refine' FK.dat_mk ?a ?l ?c ?k; (case a => k_is); (case l => k_is); (case c => k_is); (case k => k_is))
    (case d_forces => refine' FK.dat_mk ?a ?l ?c ?k; (case a => k_is); (case l => k_is); (case c => k_is); (case k => k_is))
    (case d_can_force => refine' FK.dat_mk ?a ?l ?c ?k; (case a => k_is); (case l => k_is); (case c => k_is); (case k => k_is))
    (case d_l_taken => refine' FK.dat_mk ?a ?l ?c ?k; (case a => k_is); (case l => k_is); (case c => k_is); (case k => k_is))
    (case d_l_pick => refine' FK.dat_mk ?a ?l ?c ?k; (case a => k_is); (case l => k_is); (case c => k_is); (case k => k_is))
    (case d_l_alike => refine' FK.dat_mk ?a ?l ?c ?k; (case a => k_is); (case l => k_is); (case c => k_is); (case k => k_is))
    (case d_l_web => refine' FK.dat_mk ?a ?l ?c ?k; (case a => k_is); (case l => k_is); (case c => k_is); (case k => k_is))
    (case d_l_foes => refine' FK.dat_mk ?a ?l ?c ?k; (case a => k_is); (case l => k_is); (case c => k_is); (case k => k_is))
    (case d_l_come => refine' FK.dat_mk ?a ?l ?c ?k; (case a => k_is); (case l => k_is); (case c => k_is); (case k => k_is))
    (case d_l_lots => refine' FK.dat_mk ?a ?l ?c ?k; (case a => k_is); (case l => k_is); (case c => k_is); (case k => k_is))
    (case d_l_is_gathering => refine' FK.dat_mk ?a ?l ?c ?k; (case a => k_is); (case l => k_is); (case c => k_is); (case k => k_is))
    (case d_l_gatherings => refine' FK.dat_mk ?a ?l ?c ?k; (case a => k_is); (case l => k_is); (case c => k_is); (case k => k_is))
    (case d_l_worth => refine' FK.dat_mk ?a ?l ?c ?k; (case a => k_is); (case l => k_is); (case c => k_is); (case k => k_is))
    (case d_l_forces => refine' FK.dat_mk ?a ?l ?c ?k; (case a => k_is); (case l => k_is); (case c => k_is); (case k => k_is))
    (case d_law => refine' FK.dat_mk ?a ?l ?c ?k; (case a => k_is); (case l => k_is); (case c => k_is); (case k => k_is))
    (case k_need_web => refine' FK.cat_mk ?a ?l ?h ?k ?g ?v ?hd ?n; (case a => k_is); (case l => k_is); (case h => k_is); (case k => k_is); (case g => k_is); (case v => first | rfl | k_is); (case hd => first | kernel_rfl | rfl); (case n => first | kernel_rfl | rfl))
    (case k_is_lot => refine' FK.cat_mk ?a ?l ?h ?k ?g ?v ?hd ?n; (case a => k_is); (case l => k_is); (case h => k_is); (case k => k_is); (case g => k_is); (case v => first | rfl | k_is); (case hd => first | kernel_rfl | rfl); (case n => first | kernel_rfl | rfl))
    (case k_is_gathering => refine' FK.cat_mk ?a ?l ?h ?k ?g ?v ?hd ?n; (case a => k_is); (case l => k_is); (case h => k_is); (case k => k_is); (case g => k_is); (case v => first | rfl | k_is); (case hd => first | kernel_rfl | rfl); (case n => first | kernel_rfl | rfl))
    (case k_most_there => refine' FK.cat_mk ?a ?l ?h ?k ?g ?v ?hd ?n; (case a => k_is); (case l => k_is); (case h => k_is); (case k => k_is); (case g => k_is); (case v => first | rfl | k_is); (case hd => first | kernel_rfl | rfl); (case n => first | kernel_rfl | rfl))
    (case k_best_calls => refine' FK.cat_mk ?a ?l ?h ?k ?g ?v ?hd ?n; (case a => k_is); (case l => k_is); (case h => k_is); (case k => k_is); (case g => k_is); (case v => first | rfl | k_is); (case hd => first | kernel_rfl | rfl); (case n => first | kernel_rfl | rfl))
    (case k_can_hold => refine' FK.cat_mk ?a ?l ?h ?k ?g ?v ?hd ?n; (case a => k_is); (case l => k_is); (case h => k_is); (case k => k_is); (case g => k_is); (case v => first | rfl | k_is); (case hd => first | kernel_rfl | rfl); (case n => first | kernel_rfl | rfl))
    (case r0 => first | kernel_rfl | rfl | decide)
    (case r1 => first | kernel_rfl | rfl | decide)
    (case r2 => first | kernel_rfl | rfl | decide)
    (case t3 => exact PySem.W.km_tabs_of Y _ (by decide))
    (case t4 => exact PySem.W.km_tabs_of Y _ (by decide))
    (case t5 => exact PySem.W.km_tabs_of Y _ (by decide))
    (case hnd => decide)
    (case b_isinstance => k_is)
    (case b_tuple => k_is)
    (case b_len => k_is)
    (case b_any => k_is)
    (case b_all => k_is)
    (case b_range => k_is)
    (case b_int => k_is)
    (case b_bool => k_is)
    (case b_sorted => k_is)
    (case b_max => k_is)
    (case b_min => k_is)
    (case b_set => k_is)
    (case b_list => k_is)
    (case b_str => k_is)
    (case m_MOST_PEOPLE => k_is)
    (case m_MOST_CALLS_hands => k_is)
    (case m_MOST_CALLS_wishing => k_is)
