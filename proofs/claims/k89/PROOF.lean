import PyProof.Rows.All
import Wide.All
import OpenK.AllK
import Wide.FinOn
import HandS.ForMost
import HandS.ForExc
import HandS.Wide
import HandS.IsInst
import HandS.ExcIs
import HandS.TryOnly
import HandS.EndBits
import KE.KeyNested
import HandS.Style
import HandS.Zip
import HandS.TupLe
import HandS.Sort
import HandS.Deep
import HandS.TupAny
import KE.DataCmp
import HandS.CallSlots
import PyProof.P3In
import HandS.More
import HandS.Dict
import HandS.Defaults
import HandS.TupMul
import KE.KDictKeyed
import KE.KDictDisplayH
import KE.SortData
import HandS.TupLen
import HandS.Conv
import HandS.Iter
import KE.DatumOrd
import HandS.SortKw
import KE.KExcIs
import HandS.ExcInit
import HandS.ExcField
import HandS.WordsExc
import HandS.Text
import KE.IntTextLaws
import PyProof.StrOps2
import HandS.RaiseMore
import HandS.TryMany
import KE.GoesMore
import HandS.HotCalls
import PySem.Challenge.RW_arcmill_k89_papers_nearly_right
set_option Elab.async false
set_option linter.all false
set_option maxRecDepth 100000
set_option maxHeartbeats 4000000
/-! Mi: judgements about plain data over the hand layer. -/
namespace Mi
open PySem PySem.Spec PyProof.Rows L2

/-- a value as data, or the object at an address, or nothing known -/
inductive S where
  | no
  | d (x : PyData)
  | ob (a : Addr)
  | ty (n : String)
def S.known : S → Bool
  | .no => false
  | _ => true
def SR (K : PySem.W.Frag) (F : Hp) (v : V) : S → Prop
  | .no => True
  | .d x => Dp K F v x
  | .ob a => v = .ref a
  | .ty n => v = .ty n
/-! data as keys of a dict -/
mutual
def keyOf : PyData → NestedKey
  | .bool b => .num (if b then 1 else 0)
  | .int i => .num i
  | .str x => .text x
  | .tuple ds => .tup (keysOf ds)
  | _ => .none
def keysOf : List PyData → List NestedKey
  | [] => []
  | d :: ds => keyOf d :: keysOf ds
end
mutual
def kd : PyData → Bool
  | .int _ => true
  | .str _ => true
  | .tuple ds => kds ds
  | _ => false
def kds : List PyData → Bool
  | [] => true
  | d :: ds => kd d && kds ds
end
def KdT (d : PyData) : Prop := (∃ ds, d = .tuple ds) ∧ kd d = true ∧ (keyOf d).depth ≤ 8
abbrev NV := NestedKey × Addr × V
/-- a dict with nested keys -/
def DKO (w : World) (a : Addr) (xs : List NV) : HO := .ext fun h => xs.length ≤ sizeLine ∧ (a == sysModules) = false ∧ ∃ ys : List (NestedKey × Addr × Value),
  Paired (fun (p : NV) (q : NestedKey × Addr × Value) => p.1 = q.1 ∧ p.2.1 = q.2.1 ∧ RelV p.2.2 q.2.2) xs ys ∧
  ∃ o es ep, h.get? a = some o ∧ o.ExactDict ∧ o.data = .dict es ep ∧ es.toList = ys.map (fun x => (⟨x.1.hash w, .ref x.2.1, x.2.2⟩ : DictEntry)) ∧ (ys.map (·.1)).Nodup
/-- an object that may change -/
inductive MO where
  | lst (xs : List S)
  | ins (C : Addr) (fs : List (Str × S))
  | tup (xs : List S)
  | dct (kvs : List (Key × S))
  | dkt (w : World) (kvs : List (PyData × S))
  | exd (fs : List (Str × S))
abbrev MM := List (Addr × MO)
def MR (K : PySem.W.Frag) (F H : Hp) (a : Addr) : MO → Prop
  | .lst xs => ∃ vs, H a = some (.lst vs) ∧ Paired (SR K F) vs xs
  | .ins C fs => ∃ dx vs, H a = some (.ins C dx vs) ∧ Paired (fun (p : Str × V) (q : Str × S) => p.1 = q.1 ∧ SR K F p.2 q.2) vs fs
  | .tup xs => ∃ vs, H a = some (.tup vs) ∧ Paired (SR K F) vs xs
  | .dct kvs => ∃ vs, H a = some (.dK vs) ∧ Paired (fun (p : Key × V) (q : Key × S) => p.1 = q.1 ∧ SR K F p.2 q.2) vs kvs
  | .dkt w kvs => ∃ xs, H a = some (DKO w a xs) ∧ Paired (fun (p : NV) (q : PyData × S) => p.1 = keyOf q.1 ∧ Dp K F (.ref p.2.1) q.1 ∧ KdT q.1 ∧ SR K F p.2.2 q.2) xs kvs
  | .exd fs => ∃ vs, H a = some (.xd vs) ∧ Paired (fun (p : Str × V) (q : Str × S) => p.1 = q.1 ∧ SR K F p.2 q.2) vs fs
structure HM (K : PySem.W.Frag) (F : Hp) (M : MM) (H : Hp) : Prop where
  fh : Same F H
  mo : ∀ a o, (a, o) ∈ M → F a = none ∧ MR K F H a o
  nd : (M.map (·.1)).Nodup
def OR (K : PySem.W.Frag) (F : Hp) (o : Option V) : S → Prop
  | .no => True
  | s => ∃ v, o = some v ∧ SR K F v s
structure Rl (K : PySem.W.Frag) (γ : List S) (M : MM) (F : Hp) (σ : L2.St) (H : Hp) : Prop where
  hm : HM K F M H
  sl : Paired (OR K F) σ γ

/-! ### what stays -/
theorem same_t {K : PySem.W.Frag} {H H' : Hp} {a : Addr} {xs : List V} (e : Same H H') (h : SqT K H a xs) : SqT K H' a xs := by
  rcases h with (h | ⟨o, h⟩) | h
  · exact .inl (.inl (e _ _ h))
  · exact .inl (.inr ⟨o, e _ _ h⟩)
  · exact .inr h
mutual
theorem dp_mono {K : PySem.W.Frag} {H H' : Hp} (e : Same H H') : ∀ (d : PyData) (v : V), Dp K H v d → Dp K H' v d
  | .none, _, h => by cases h; exact .non
  | .bool b, _, h => by cases h; exact .bl b
  | .int i, _, h => by cases h; exact .int i
  | .str x, _, h => by cases h; exact .str x
  | .list ds, _, h => by
    cases h with
    | lst h1 h2 => exact .lst (e.seq h1) (dps_mono e ds _ h2)
  | .tuple ds, _, h => by
    cases h with
    | tup h1 h2 => exact .tup (same_t e h1) (dps_mono e ds _ h2)
  | .dict _, _, h => by cases h
theorem dps_mono {K : PySem.W.Frag} {H H' : Hp} (e : Same H H') : ∀ (ds : List PyData) (vs : List V), DpAll K H vs ds → DpAll K H' vs ds
  | [], _, h => by cases h; exact .nil
  | d :: ds, _, h => by
    cases h with
    | cons h1 h2 => exact .cons (dp_mono e d _ h1) (dps_mono e ds _ h2)
end
section
variable {K : PySem.W.Frag} {F F' H H' : Hp} {γ : List S} {M M' : MM} {σ : L2.St} {v : V} {s : S}
theorem SR.mono (e : Same F F') (h : SR K F v s) : SR K F' v s := by
  cases s with
  | no => trivial
  | d x => exact dp_mono e x v h
  | ob a => exact h
  | ty n => exact h
theorem OR.mono {o : Option V} (e : Same F F') (h : OR K F o s) : OR K F' o s := by
  cases s with
  | no => trivial
  | d x => obtain ⟨v, e1, h⟩ := h; exact ⟨v, e1, SR.mono e h⟩
  | ob a => obtain ⟨v, e1, h⟩ := h; exact ⟨v, e1, SR.mono e h⟩
  | ty a => obtain ⟨v, e1, h⟩ := h; exact ⟨v, e1, SR.mono e h⟩
theorem sl_mono (e : Same F F') : ∀ {σ : L2.St} {γ : List S}, Paired (OR K F) σ γ → Paired (OR K F') σ γ
  | _, _, .nil => .nil
  | _, _, .cons h t => .cons (h.mono e) (sl_mono e t)
theorem srs_mono (e : Same F F') : ∀ {vs : List V} {ss : List S}, Paired (SR K F) vs ss → Paired (SR K F') vs ss
  | _, _, .nil => .nil
  | _, _, .cons h t => .cons (h.mono e) (srs_mono e t)
theorem Rl.ext (r : Rl K γ M F σ H) (e : Same F F') (h : HM K F' M' H') : Rl K γ M' F' σ H' := ⟨h, sl_mono e r.sl⟩
theorem MR.mono (e : Same F F') {a : Addr} {o : MO} (k : H' a = H a) (h : MR K F H a o) : MR K F' H' a o := by
  cases o with
  | lst xs =>
    obtain ⟨vs, h1, h2⟩ := h
    exact ⟨vs, k.trans h1, srs_mono e h2⟩
  | ins C fs =>
    obtain ⟨dx, vs, h1, h2⟩ := h
    refine ⟨dx, vs, k.trans h1, ?_⟩
    exact L2.Paired.mapP h2 fun p q z => ⟨z.1, z.2.mono e⟩
  | tup xs =>
    obtain ⟨vs, h1, h2⟩ := h
    exact ⟨vs, k.trans h1, srs_mono e h2⟩
  | dct kvs =>
    obtain ⟨vs, h1, h2⟩ := h
    exact ⟨vs, k.trans h1, L2.Paired.mapP h2 fun p q z => ⟨z.1, z.2.mono e⟩⟩
  | dkt w kvs =>
    obtain ⟨vs, h1, h2⟩ := h
    exact ⟨vs, k.trans h1, L2.Paired.mapP h2 fun p q z => ⟨z.1, dp_mono e _ _ z.2.1, z.2.2.1, z.2.2.2.mono e⟩⟩
  | exd fs =>
    obtain ⟨vs, h1, h2⟩ := h
    exact ⟨vs, k.trans h1, L2.Paired.mapP h2 fun p q z => ⟨z.1, z.2.mono e⟩⟩
theorem MR.there {a : Addr} {o : MO} (h : MR K F H a o) : ∃ u, H a = some u := by
  cases o with
  | lst xs => obtain ⟨vs, h1, _⟩ := h; exact ⟨_, h1⟩
  | ins C fs => obtain ⟨dx, vs, h1, _⟩ := h; exact ⟨_, h1⟩
  | tup xs => obtain ⟨vs, h1, _⟩ := h; exact ⟨_, h1⟩
  | dct xs => obtain ⟨vs, h1, _⟩ := h; exact ⟨_, h1⟩
  | dkt w xs => obtain ⟨vs, h1, _⟩ := h; exact ⟨_, h1⟩
  | exd fs => obtain ⟨vs, h1, _⟩ := h; exact ⟨_, h1⟩
/-- a new unchanging object -/
theorem HM.newF (h : HM K F M H) {p : Addr} (hp : H p = none) (o : HO) : Same F (upd F p o) ∧ HM K (upd F p o) M (upd H p o) := by
  have hF : F p = none := h.fh.free hp
  have e : Same F (upd F p o) := fun b u q => by rw [upd_ne (ne_of_none q hF)]; exact q
  refine ⟨e, fun b u q => ?_, fun a o' m => ?_, h.nd⟩
  · by_cases hb : b = p
    · subst hb; rw [upd_same] at q ⊢; exact q
    · rw [upd_ne hb] at q ⊢; exact h.fh b u q
  · obtain ⟨h1, h2⟩ := h.mo a o' m
    obtain ⟨u, hu⟩ := h2.there
    have na : a ≠ p := ne_of_none hu hp
    exact ⟨by rw [upd_ne na]; exact h1, h2.mono e (upd_ne na)⟩
/-- a new changing object -/
theorem HM.newM (h : HM K F M H) {p : Addr} (hp : H p = none) {o : HO} {m : MO} (hm : MR K F (upd H p o) p m) : HM K F (M ++ [(p, m)]) (upd H p o) := by
  have hF : F p = none := h.fh.free hp
  refine ⟨fun b u q => ?_, fun a o' z => ?_, ?_⟩
  · rw [upd_ne (ne_of_none q hF)]; exact h.fh b u q
  · rcases List.mem_append.mp z with z | z
    · obtain ⟨h1, h2⟩ := h.mo a o' z
      obtain ⟨u, hu⟩ := h2.there
      exact ⟨h1, h2.mono (Same.refl F) (upd_ne (ne_of_none hu hp))⟩
    · have z' := List.mem_singleton.mp z
      cases z'
      exact ⟨hF, hm⟩
  · rw [List.map_append]
    refine List.nodup_append.mpr ⟨h.nd, List.pairwise_singleton .., fun a ha b hb => ?_⟩
    have hb' : b = p := List.mem_singleton.mp hb
    subst hb'
    obtain ⟨⟨a', o'⟩, h1, h2⟩ := List.mem_map.mp ha
    obtain ⟨_, h3⟩ := h.mo a' o' h1
    obtain ⟨u, hu⟩ := h3.there
    have na : a' ≠ b := ne_of_none hu hp
    exact fun z => na (h2.trans z)
/-- a changing object changes -/
theorem HM.setM (h : HM K F M H) {k : Nat} {p : Addr} {m0 m : MO} (hk : M[k]? = some (p, m0)) {o : HO} (hm : MR K F (upd H p o) p m) : HM K F (M.set k (p, m)) (upd H p o) := by
  have hp : (p, m0) ∈ M := List.mem_of_getElem? hk
  obtain ⟨hF, _⟩ := h.mo p m0 hp
  refine ⟨fun b u q => ?_, fun a o' z => ?_, ?_⟩
  · rw [upd_ne (ne_of_none q hF)]; exact h.fh b u q
  · obtain ⟨j, hj⟩ := List.getElem?_of_mem z
    rw [List.getElem?_set] at hj
    by_cases hkj : k = j
    · subst hkj
      rw [if_pos rfl] at hj
      have hl : k < M.length := (List.getElem?_eq_some_iff.mp hk).1
      rw [if_pos hl] at hj
      cases hj
      exact ⟨hF, hm⟩
    · rw [if_neg hkj] at hj
      obtain ⟨h1, h2⟩ := h.mo a o' (List.mem_of_getElem? hj)
      have na : a ≠ p := fun e => by
        subst e
        have e1 : (M.map (·.1))[k]? = some a := by rw [List.getElem?_map, hk] <;> rfl
        have e2 : (M.map (·.1))[j]? = some a := by rw [List.getElem?_map, hj] <;> rfl
        obtain ⟨l1, q1⟩ := List.getElem?_eq_some_iff.mp e1
        obtain ⟨l2, q2⟩ := List.getElem?_eq_some_iff.mp e2
        exact hkj ((List.getElem_inj h.nd).mp (q1.trans q2.symm))
      exact ⟨h1, h2.mono (Same.refl F) (upd_ne na)⟩
  · have e : (M.set k (p, m)).map (·.1) = M.map (·.1) := by
      rw [List.map_set]
      have e1 : (M.map (·.1))[k]? = some p := by rw [List.getElem?_map, hk] <;> rfl
      exact List.ext_getElem? fun j => by
        rw [List.getElem?_set]
        by_cases hkj : k = j
        · subst hkj
          rw [if_pos rfl]
          have hl : k < (M.map (·.1)).length := (List.getElem?_eq_some_iff.mp e1).1
          rw [if_pos hl, e1]
        · rw [if_neg hkj]
    rw [e]; exact h.nd
/-- the last changing object is left as it is from here on -/
theorem HM.frz {p : Addr} {xs : List PyData} (h : HM K F (M ++ [(p, .lst (xs.map S.d))]) H) : ∃ vs, H p = some (.lst vs) ∧ DpAll K F vs xs ∧ Same F (upd F p (.lst vs)) ∧ HM K (upd F p (.lst vs)) M H := by
  obtain ⟨hF, vs, h1, h2⟩ := h.mo p _ (List.mem_append_right _ List.mem_cons_self)
  have e : Same F (upd F p (.lst vs)) := fun b u q => by rw [upd_ne (ne_of_none q hF)]; exact q
  have hall : ∀ {vs : List V} {xs : List PyData}, Paired (SR K F) vs (xs.map S.d) → DpAll K F vs xs := by
    intro vs xs
    induction xs generalizing vs with
    | nil => intro q; cases q; exact .nil
    | cons x xs ih => intro q; cases q with | cons a b => exact .cons a (ih b)
  refine ⟨vs, h1, hall h2, e, fun b u q => ?_, fun a o' z => ?_, ?_⟩
  · by_cases hb : b = p
    · subst hb; rw [upd_same] at q; rw [h1]; exact q
    · rw [upd_ne hb] at q; exact h.fh b u q
  · obtain ⟨g1, g2⟩ := h.mo a o' (List.mem_append_left _ z)
    have nd := h.nd
    rw [List.map_append] at nd
    have na : a ≠ p := (List.nodup_append.mp nd).2.2 a (List.mem_map.mpr ⟨_, z, rfl⟩) p List.mem_cons_self
    exact ⟨by rw [upd_ne na]; exact g1, g2.mono e rfl⟩
  · have nd := h.nd
    rw [List.map_append] at nd
    exact (List.nodup_append.mp nd).1
end

/-! ### judgements -/
/-- where one stands: the frame, what is wished of exceptions, by class -/
structure Ct where
  X : Cx
  Er : WX
  Rx : Value → List S → MM → Prop
/-- how an error is told: its class, or, told by (class, its fields' place) as a whole number, the class and the place -/
def xcl : Value → Value × Option Addr
  | .int c d => (.ref c.toNat, some d)
  | v => (v, none)
def ExOk (Y : Ct) (F : Hp) : Prop := ∀ cls γ M F' σ H, Same F F' → Rl Y.X.K γ M F' σ H → Y.Rx cls γ M → Y.Er (xcl cls).1 (xcl cls).2 σ H
theorem ExOk.mono {Y : Ct} {F F' : Hp} (e : Same F F') (h : ExOk Y F) : ExOk Y F' := fun cls γ M F2 σ H e2 => h cls γ M F2 σ H (e.trans e2)
def tE (Y : Ct) (γ : List S) (M : MM) (s : S) (M' : MM) : TE := fun σ H Q => ∃ F, Rl Y.X.K γ M F σ H ∧ (∀ F' v H', Same F F' → Rl Y.X.K γ M' F' σ H' → SR Y.X.K F' v s → Q v H') ∧ ExOk Y F
def tEN (Y : Ct) (γ : List S) (M : MM) (o : MO) (M' : MM) : TE := fun σ H Q => ∃ F, Rl Y.X.K γ M F σ H ∧ (∀ F' p H', Same F F' → Rl Y.X.K γ (M' ++ [(p, o)]) F' σ H' → Q (.ref p) H') ∧ ExOk Y F
def tET (Y : Ct) (γ : List S) (M : MM) (b : Bool) (M' : MM) : TT := fun σ H Q => ∃ F, Rl Y.X.K γ M F σ H ∧ (∀ F' H', Same F F' → Rl Y.X.K γ M' F' σ H' → Q b H') ∧ ExOk Y F
def tEA (Y : Ct) (γ : List S) (M : MM) (ss : List S) (M' : MM) : TA := fun σ H Q => ∃ F, Rl Y.X.K γ M F σ H ∧ (∀ F' vs H', Same F F' → Rl Y.X.K γ M' F' σ H' → Paired (SR Y.X.K F') vs ss → Q vs H') ∧ ExOk Y F
structure EV (Y : Ct) (e : Expr) (γ : List S) (M : MM) (s : S) (M' : MM) : Prop where
  pe : PE Y.X e (tE Y γ M s M')
/-- e makes a new object -/
structure EN (Y : Ct) (e : Expr) (γ : List S) (M : MM) (o : MO) (M' : MM) : Prop where
  pe : PE Y.X e (tEN Y γ M o M')
structure ET (Y : Ct) (e : Expr) (γ : List S) (M : MM) (b : Bool) (M' : MM) : Prop where
  pt : PT Y.X e (tET Y γ M b M')
structure EA (Y : Ct) (es : List Expr) (γ : List S) (M : MM) (ss : List S) (M' : MM) : Prop where
  pa : PA Y.X es (tEA Y γ M ss M')
theorem PE.imp {X : Cx} {e : Expr} {t t' : TE} (h : PE X e t) (i : ∀ σ H Q, t' σ H Q → t σ H Q) : PE X e t' := ⟨fun pins s σ H Q I q => h.run pins s σ H Q I (i _ _ _ q)⟩
theorem PT.imp {X : Cx} {e : Expr} {t t' : TT} (h : PT X e t) (i : ∀ σ H Q, t' σ H Q → t σ H Q) : PT X e t' := ⟨fun pins s σ H Q I q => h.run pins s σ H Q I (i _ _ _ q)⟩
theorem PA.imp {X : Cx} {e : List Expr} {t t' : TA} (h : PA X e t) (i : ∀ σ H Q, t' σ H Q → t σ H Q) : PA X e t' := ⟨fun pos pins s σ H Q I q => h.run pos pins s σ H Q I (i _ _ _ q)⟩
theorem PSs.imp {X : Cx} {e : List Stmt} {t t' : TS} (h : PSs X e t) (i : ∀ D σ H, t' D σ H → t D σ H) : PSs X e t' := ⟨fun pins s σ H D I q => h.run pins s σ H D I (i _ _ _ q)⟩
theorem PS.imp {X : Cx} {e : Stmt} {t t' : TS} (h : PS X e t) (i : ∀ D σ H, t' D σ H → t D σ H) : PS X e t' := ⟨fun pins s σ H D I q => h.run pins s σ H D I (i _ _ _ q)⟩

theorem pair_get {α β : Type} {R : α → β → Prop} : ∀ {xs : List α} {ys : List β} {i : Nat} {y : β}, Paired R xs ys → ys[i]? = some y → ∃ x, xs[i]? = some x ∧ R x y
  | _, _, _, _, .nil, e => by simp at e
  | _, _, 0, _, .cons r _, e => by simp at e; subst e; exact ⟨_, rfl, r⟩
  | _, _, i + 1, y, .cons _ t, e => by
    obtain ⟨x, h1, h2⟩ := pair_get (i := i) (y := y) t (by simpa using e)
    exact ⟨x, by simpa using h1, h2⟩
theorem pair_set {α β : Type} {R : α → β → Prop} {x : α} {y : β} (r : R x y) : ∀ {xs : List α} {ys : List β} (i : Nat), Paired R xs ys → Paired R (xs.set i x) (ys.set i y)
  | _, _, _, .nil => .nil
  | _, _, 0, .cons _ t => .cons r t
  | _, _, i + 1, .cons q t => .cons q (pair_set r i t)
theorem pair_len {α β : Type} {R : α → β → Prop} : ∀ {xs : List α} {ys : List β}, Paired R xs ys → xs.length = ys.length
  | _, _, .nil => rfl
  | _, _, .cons _ t => congrArg (· + 1) (pair_len t)
theorem pair_app {α β : Type} {R : α → β → Prop} : ∀ {xs xs' : List α} {ys ys' : List β}, Paired R xs ys → Paired R xs' ys' → Paired R (xs ++ xs') (ys ++ ys')
  | _, _, _, _, .nil, h => h
  | _, _, _, _, .cons q t, h => .cons q (pair_app t h)

section
variable {Y : Ct} {γ : List S} {M M1 M2 M3 : MM} {s s1 s2 s3 : S} {e a b c : Expr} {pos : Pos} {x : Str} {i j : Int} {b1 b2 : Bool}
theorem OR.val {K : PySem.W.Frag} {F : Hp} {o : Option V} (h : OR K F o s) (k : s.known = true) : ∃ v, o = some v ∧ SR K F v s := by
  cases s with
  | no => cases k
  | d x => exact h
  | ob a => exact h
  | ty a => exact h

/-! ### names, constants -/
theorem e_var (i : Nat) (hs : γ[i]? = some s) (hN : Y.X.N[i]? = some x := by rfl) (hv : Vis Y.X.env.scope x := by first | exact Or.inl rfl | exact Or.inr (Or.inl rfl) | exact Or.inr (Or.inr rfl)) (hk : s.known = true := by rfl)
    (hd : (x == ("__debug__" : Str)) = false := by decide) (hcd : (x == ("__classdict__" : Str)) = false := by decide) : EV Y (.Name x pos) γ M s M :=
  ⟨PE.imp (pe_var hN hv hd hcd) fun σ H Q ⟨F, r, q, _⟩ => by
    obtain ⟨o, h1, h2⟩ := pair_get r.sl hs
    obtain ⟨v, rfl, h3⟩ := h2.val hk
    exact ⟨v, h1, q F v H (Same.refl F) r h3⟩⟩
theorem e_c {v : V} {d : PyData} (h : PE Y.X e (tC v)) (hv : ∀ F, Dp Y.X.K F v d) : EV Y e γ M (.d d) M := ⟨PE.imp h fun σ H Q ⟨F, r, q, _⟩ => q F v H (Same.refl F) r (hv F)⟩
theorem e_int {n : Int} {k : Nat} : EV Y (.Constant (.int n) k pos) γ M (.d (.int n)) M := e_c pe_int fun _ => .int n
theorem e_bl {n : Bool} {k : Nat} : EV Y (.Constant (.bool n) k pos) γ M (.d (.bool n)) M := e_c pe_bl fun _ => .bl n
theorem e_non {k : Nat} : EV Y (.Constant .none k pos) γ M (.d .none) M := e_c pe_non fun _ => .non
theorem e_str {n : Str} {k : Nat} : EV Y (.Constant (.str n) k pos) γ M (.d (.str n)) M := e_c pe_str fun _ => .str n
/-- a module's name -/
theorem e_globR {u : Value} {C : Addr} (hg : Gl Y.X x) (hm : Y.X.mg x = some u) (r : u = .ref C) (hd : (x == ("__debug__" : Str)) = false := by decide) : EV Y (.Name x pos) γ M (.ob C) M :=
  ⟨PE.imp (pe_glob (v := .ref C) hg hm r hd) fun σ H Q ⟨F, r, q, _⟩ => q F _ H (Same.refl F) r rfl⟩
theorem e_is {s' : S} (h : EV Y e γ M s M1) (q : s = s') : EV Y e γ M s' M1 := q ▸ h
theorem EV.at {M' : MM} (h : EV Y e γ M s M1) (q : M1 = M') : EV Y e γ M s M' := q ▸ h

/-! ### operators -/
structure RV (K : PySem.W.Frag) (r : R2) (s1 s2 : S) (M : MM) (z : S) (M' : MM) : Prop where
  run : ∀ F v w H (Q : VK), HM K F M H → SR K F v s1 → SR K F w s2 → (∀ F' u H', Same F F' → HM K F' M' H' → SR K F' u z → Q u H') → r v w H Q
theorem e_bin {r : R2} {f : Value → Value → Sem Value} {e' : Expr} (he : PE Y.X a (tE Y γ M s1 M1) → PE Y.X b (tE Y γ M1 s2 M2) → PE Y.X e' (tOp r (tE Y γ M s1 M1) (tE Y γ M1 s2 M2)))
    (ha : EV Y a γ M s1 M1) (hb : EV Y b γ M1 s2 M2) (hr : RV Y.X.K r s1 s2 M2 s3 M3) : EV Y e' γ M s3 M3 := ⟨PE.imp (he ha.pe hb.pe) fun σ H Q ⟨F, rl, q, ex⟩ =>
  ⟨F, rl, fun F1 v H1 e1 r1 v1 => ⟨F1, r1, fun F2 w H2 e2 r2 v2 => hr.run F2 v w H2 Q r2.hm (v1.mono e2) v2 fun F3 u H3 e3 h3 v3 => q F3 u H3 ((e1.trans e2).trans e3) (r2.ext e3 h3) v3, ex.mono e1⟩, ex⟩⟩
theorem e_op {op : Operator} {r : R2} (ho : OpR Y.X (binaryOp op) r) (ha : EV Y a γ M s1 M1) (hb : EV Y b γ M1 s2 M2) (hr : RV Y.X.K r s1 s2 M2 s3 M3) : EV Y (.BinOp a op b pos) γ M s3 M3 :=
  e_bin (f := binaryOp op) (fun h1 h2 => pe_op ho h1 h2) ha hb hr
theorem rv_II {K : PySem.W.Frag} {C : Int → Int → Prop} {f : Int → Int → Int} (h : C i j) : RV K (rI C fun i j => .int (f i j)) (.d (.int i)) (.d (.int j)) M (.d (.int (f i j))) M :=
  ⟨fun F v w H Q hm h1 h2 q => by cases h1; cases h2; exact ⟨i, j, rfl, rfl, h, q F _ H (Same.refl F) hm (.int _)⟩⟩
theorem rv_I0 {K : PySem.W.Frag} {f : Int → Int → Int} : RV K (rI0 fun i j => .int (f i j)) (.d (.int i)) (.d (.int j)) M (.d (.int (f i j))) M :=
  ⟨fun F v w H Q hm h1 h2 q => by cases h1; cases h2; exact ⟨i, j, rfl, rfl, q F _ H (Same.refl F) hm (.int _)⟩⟩
theorem rv_B0 {K : PySem.W.Frag} {f : Int → Int → Bool} : RV K (rI0 fun i j => .bl (f i j)) (.d (.int i)) (.d (.int j)) M (.d (.bool (f i j))) M :=
  ⟨fun F v w H Q hm h1 h2 q => by cases h1; cases h2; exact ⟨i, j, rfl, rfl, q F _ H (Same.refl F) hm (.bl _)⟩⟩
/-- // by any number but 0, below 2 ^ 9000 in size -/
def CDivG (_ j : Int) : Prop := j ≠ 0 ∧ j.natAbs.log2 < 9000
theorem op_fdivG {X : Cx} : OpR X (binaryOp .FloorDiv) (rI CDivG fun i j => .int (i.fdiv j)) := opI fun i j _ _ _ _ _ hc q => floordiv_int hc.1 q (.inl (PyProof.noPylong_of_log2 hc.2))
section
variable (ha : EV Y a γ M (.d (.int i)) M1) (hb : EV Y b γ M1 (.d (.int j)) M2)
include ha hb
theorem e_add : EV Y (.BinOp a .Add b pos) γ M (.d (.int (i + j))) M2 := e_op op_add ha hb (rv_I0 (f := fun i j => i + j))
theorem e_sub : EV Y (.BinOp a .Sub b pos) γ M (.d (.int (i - j))) M2 := e_op op_sub ha hb (rv_I0 (f := fun i j => i - j))
theorem e_mul (h : CMulW i j) : EV Y (.BinOp a .Mult b pos) γ M (.d (.int (i * j))) M2 := e_op op_mulW ha hb (rv_II (f := fun i j => i * j) h)
theorem e_fdiv (h : CDivG i j) : EV Y (.BinOp a .FloorDiv b pos) γ M (.d (.int (i.fdiv j))) M2 := e_op op_fdivG ha hb (rv_II (f := fun i j => i.fdiv j) h)
theorem e_div (h : CDivW i j) : EV Y (.BinOp a .FloorDiv b pos) γ M (.d (.int (i / j))) M2 := e_op op_fdivW ha hb (rv_II (f := fun i j => i / j) h)
theorem e_mod (h : 0 < j) : EV Y (.BinOp a .Mod b pos) γ M (.d (.int (i % j))) M2 := e_op op_mod ha hb (rv_II (C := fun _ j => 0 < j) (f := fun i j => i % j) h)
theorem e_pow (h : CPow i j) {z : Int} (hz : i ^ j.toNat = z) : EV Y (.BinOp a .Pow b pos) γ M (.d (.int z)) M2 := hz ▸ e_op op_pow ha hb (rv_II (C := CPow) (f := fun i j => i ^ j.toNat) h)
theorem e_lt : EV Y (.Compare a [.Lt] [b] pos) γ M (.d (.bool (decide (i < j)))) M2 := e_bin (f := fun _ _ => pure .none) (fun h1 h2 => pe_cmpR op_lt h1 h2 (nomark _)) ha hb (rv_B0 (f := fun i j => decide (i < j)))
theorem e_le : EV Y (.Compare a [.LtE] [b] pos) γ M (.d (.bool (decide (i ≤ j)))) M2 := e_bin (f := fun _ _ => pure .none) (fun h1 h2 => pe_cmpR op_le h1 h2 (nomark _)) ha hb (rv_B0 (f := fun i j => decide (i ≤ j)))
theorem e_gt : EV Y (.Compare a [.Gt] [b] pos) γ M (.d (.bool (decide (j < i)))) M2 := e_bin (f := fun _ _ => pure .none) (fun h1 h2 => pe_cmpR op_gt h1 h2 (nomark _)) ha hb (rv_B0 (f := fun i j => decide (j < i)))
theorem e_ge : EV Y (.Compare a [.GtE] [b] pos) γ M (.d (.bool (decide (j ≤ i)))) M2 := e_bin (f := fun _ _ => pure .none) (fun h1 h2 => pe_cmpR op_ge h1 h2 (nomark _)) ha hb (rv_B0 (f := fun i j => decide (j ≤ i)))
end

/-! ### a value looked at as data -/
inductive Vw (M : MM) : S → PyData → Prop where
  | d {x : PyData} : Vw M (.d x) x
  | l {k : Nat} {p : Addr} {xs : List PyData} (h : M[k]? = some (p, .lst (xs.map S.d))) : Vw M (.ob p) (.list xs)
  | t2 {k j : Nat} {p q : Addr} {x : PyData} {xs : List PyData} (h : M[k]? = some (p, .tup [.d x, .ob q])) (h2 : M[j]? = some (q, .lst (xs.map S.d))) : Vw M (.ob p) (.tuple [x, .list xs])
  | t3 {k j l : Nat} {p q r : Addr} {xs ys : List PyData} (h : M[k]? = some (p, .tup [.ob q, .ob r])) (h2 : M[j]? = some (q, .lst (xs.map S.d))) (h3 : M[l]? = some (r, .lst (ys.map S.d))) : Vw M (.ob p) (.tuple [.list xs, .list ys])
theorem all_d {K : PySem.W.Frag} {F : Hp} : ∀ {vs : List V} {xs : List PyData}, Paired (SR K F) vs (xs.map S.d) → DpAll K F vs xs
  | _, [], q => by cases q; exact .nil
  | _, _ :: _, q => by cases q with | cons a b => exact .cons a (all_d b)
theorem d_all {K : PySem.W.Frag} {F : Hp} : ∀ {vs : List V} {xs : List PyData}, DpAll K F vs xs → Paired (SR K F) vs (xs.map S.d)
  | _, [], q => by cases q; exact .nil
  | _, _ :: _, q => by cases q with | cons a b => exact .cons a (d_all b)
theorem Vw.ok {K : PySem.W.Frag} {F H : Hp} {v : V} {d : PyData} (h : Vw M s d) (hm : HM K F M H) (r : SR K F v s) : Dp K H v d := by
  cases h with
  | d => exact dp_mono hm.fh _ _ r
  | l hk =>
    obtain ⟨_, vs, h1, h2⟩ := hm.mo _ _ (List.mem_of_getElem? hk)
    cases r
    exact .lst (.of h1) (dps_mono hm.fh _ _ (all_d h2))
  | t2 hk hj =>
    obtain ⟨_, vs, h1, h2⟩ := hm.mo _ _ (List.mem_of_getElem? hk)
    obtain ⟨_, ws, g1, g2⟩ := hm.mo _ _ (List.mem_of_getElem? hj)
    cases r
    cases h2 with | cons a b =>
    cases b with | cons b c =>
    cases c
    cases b
    exact .tup (.inl (.inl h1)) (.cons (dp_mono hm.fh _ _ a) (.cons (.lst (.of g1) (dps_mono hm.fh _ _ (all_d g2))) .nil))
  | t3 hk hj hl =>
    obtain ⟨_, vs, h1, h2⟩ := hm.mo _ _ (List.mem_of_getElem? hk)
    obtain ⟨_, ws, g1, g2⟩ := hm.mo _ _ (List.mem_of_getElem? hj)
    obtain ⟨_, us, f1, f2⟩ := hm.mo _ _ (List.mem_of_getElem? hl)
    cases r
    cases h2 with | cons a b =>
    cases b with | cons b c =>
    cases c
    cases a
    cases b
    exact .tup (.inl (.inl h1)) (.cons (.lst (.of g1) (dps_mono hm.fh _ _ (all_d g2))) (.cons (.lst (.of f1) (dps_mono hm.fh _ _ (all_d f2))) .nil))

/-! ### == of data -/
theorem rv_eq {K : PySem.W.Frag} {d1 d2 : PyData} {z : Bool} (v1 : Vw M s1 d1) (v2 : Vw M s2 d2) (h1 : SeqAt.shaped d1 = true) (h2 : SeqAt.shaped d2 = true) (hz : PyData.eqv d1 d2 = z) : RV K (rEqD K) s1 s2 M (.d (.bool z)) M :=
  ⟨fun F v w H Q hm r1 r2 q => ⟨d1, d2, v1.ok hm r1, v2.ok hm r2, h1, h2, q F _ H (Same.refl F) hm (hz ▸ .bl _)⟩⟩
theorem rv_ne {K : PySem.W.Frag} {d1 d2 : PyData} {z : Bool} (v1 : Vw M s1 d1) (v2 : Vw M s2 d2) (h1 : SeqAt.shaped d1 = true) (h2 : SeqAt.shaped d2 = true) (hz : PyData.eqv d1 d2 = z) : RV K (rNeD K) s1 s2 M (.d (.bool (!z))) M :=
  ⟨fun F v w H Q hm r1 r2 q => ⟨d1, d2, v1.ok hm r1, v2.ok hm r2, h1, h2, q F _ H (Same.refl F) hm (hz ▸ .bl _)⟩⟩
theorem e_eq {k : Nat} (hr : Room k Y.X.A) {d1 d2 : PyData} {z : Bool} (ha : EV Y a γ M s1 M1) (hb : EV Y b γ M1 s2 M2) (v1 : Vw M2 s1 d1) (v2 : Vw M2 s2 d2) (h1 : SeqAt.shaped d1 = true) (h2 : SeqAt.shaped d2 = true) (hz : PyData.eqv d1 d2 = z) :
    EV Y (.Compare a [.Eq] [b] pos) γ M (.d (.bool z)) M2 := e_bin (f := fun _ _ => pure .none) (fun h1 h2 => pe_cmpR (op_eqD hr.units) h1 h2 (nomark _)) ha hb (rv_eq v1 v2 h1 h2 hz)
theorem e_ne {k : Nat} (hr : Room k Y.X.A) {d1 d2 : PyData} {z : Bool} (ha : EV Y a γ M s1 M1) (hb : EV Y b γ M1 s2 M2) (v1 : Vw M2 s1 d1) (v2 : Vw M2 s2 d2) (h1 : SeqAt.shaped d1 = true) (h2 : SeqAt.shaped d2 = true) (hz : PyData.eqv d1 d2 = z) :
    EV Y (.Compare a [.NotEq] [b] pos) γ M (.d (.bool (!z))) M2 := e_bin (f := fun _ _ => pure .none) (fun h1 h2 => pe_cmpR (op_neD hr.units) h1 h2 (nomark _)) ha hb (rv_ne v1 v2 h1 h2 hz)
theorem eqv_int (i j : Int) : PyData.eqv (.int i) (.int j) = decide (i = j) := by
  show (i == j) = _
  exact Bool.beq_eq_decide_eq ..
/-- two ints -/
theorem e_eqI {k : Nat} (hr : Room k Y.X.A) (ha : EV Y a γ M (.d (.int i)) M1) (hb : EV Y b γ M1 (.d (.int j)) M2) : EV Y (.Compare a [.Eq] [b] pos) γ M (.d (.bool (decide (i = j)))) M2 := e_eq hr ha hb .d .d rfl rfl (eqv_int i j)
theorem e_neI {k : Nat} (hr : Room k Y.X.A) (ha : EV Y a γ M (.d (.int i)) M1) (hb : EV Y b γ M1 (.d (.int j)) M2) : EV Y (.Compare a [.NotEq] [b] pos) γ M (.d (.bool (!decide (i = j)))) M2 := e_ne hr ha hb .d .d rfl rfl (eqv_int i j)
/-- is None -/
def isNon : PyData → Bool
  | .none => true
  | _ => false
theorem dp_non {K : PySem.W.Frag} {F : Hp} {v : V} {d : PyData} (h : Dp K F v d) : decide (v = .non) = isNon d := by
  cases h <;> first | rfl | exact decide_eq_false (fun z => nomatch z)
theorem e_isN {d : PyData} {k : Nat} {p2 : Pos} (ha : EV Y a γ M (.d d) M1) : EV Y (.Compare a [.Is] [.Constant .none k p2] pos) γ M (.d (.bool (isNon d))) M1 :=
  ⟨PE.imp (pe_cmp (pc_isN ha.pe) rfl) fun σ H Q ⟨F, r, q, ex⟩ => ⟨F, r, fun F1 v H1 e1 r1 v1 => q F1 _ H1 e1 r1 (by rw [dp_non v1]; exact .bl _), ex⟩⟩
theorem e_notN {d : PyData} {k : Nat} {p2 : Pos} (ha : EV Y a γ M (.d d) M1) : EV Y (.Compare a [.IsNot] [.Constant .none k p2] pos) γ M (.d (.bool (!isNon d))) M1 :=
  ⟨PE.imp (pe_cmp (pc_notN ha.pe) rfl) fun σ H Q ⟨F, r, q, ex⟩ => ⟨F, r, fun F1 v H1 e1 r1 v1 => q F1 _ H1 e1 r1 (by rw [dp_non v1]; exact .bl _), ex⟩⟩

/-! ### tests -/
theorem t_val (h : EV Y e γ M (.d (.bool b1)) M1) (he : ∀ whole, isTrue e Y.X.env whole = (do let v ← whole; standAt e.pos; holding [v] (truthy v)) := by intro _; rfl) : ET Y e γ M b1 M1 :=
  ⟨PT.imp (pt_val h.pe he) fun σ H Q ⟨F, r, q, ex⟩ => ⟨F, r, fun F1 v H1 e1 r1 v1 => by cases v1; exact ⟨b1, rfl, q F1 H1 e1 r1⟩, ex⟩⟩
theorem t_cmpC {ops : List CmpOp} {bs : List Expr} (h : EV Y (.Compare a ops bs pos) γ M (.d (.bool b1)) M1) (hp : ∀ t, PE Y.X (.Compare a ops bs pos) t → PT Y.X (.Compare a ops bs pos) (tB t)) : ET Y (.Compare a ops bs pos) γ M b1 M1 :=
  ⟨PT.imp (hp _ h.pe) fun σ H Q ⟨F, r, q, ex⟩ => ⟨F, r, fun F1 v H1 e1 r1 v1 => by cases v1; exact ⟨b1, rfl, q F1 H1 e1 r1⟩, ex⟩⟩
theorem t_bin {r : R2} (he : PE Y.X a (tE Y γ M s1 M1) → PE Y.X b (tE Y γ M1 s2 M2) → PT Y.X e (tTest (tOp r (tE Y γ M s1 M1) (tE Y γ M1 s2 M2))))
    (ha : EV Y a γ M s1 M1) (hb : EV Y b γ M1 s2 M2) (hr : RV Y.X.K r s1 s2 M2 (.d (.bool b1)) M3) : ET Y e γ M b1 M3 := ⟨PT.imp (he ha.pe hb.pe) fun σ H Q ⟨F, rl, q, ex⟩ =>
  ⟨F, rl, fun F1 v H1 e1 r1 v1 => ⟨F1, r1, fun F2 w H2 e2 r2 v2 => hr.run F2 v w H2 _ r2.hm (v1.mono e2) v2 fun F3 u H3 e3 h3 v3 => by cases v3; exact ⟨b1, rfl, q F3 H3 ((e1.trans e2).trans e3) (r2.ext e3 h3)⟩, ex.mono e1⟩, ex⟩⟩
section
variable (ha : EV Y a γ M (.d (.int i)) M1) (hb : EV Y b γ M1 (.d (.int j)) M2)
include ha hb
theorem t_lt : ET Y (.Compare a [.Lt] [b] pos) γ M (decide (i < j)) M2 := t_bin (fun h1 h2 => pt_cmpR op_lt h1 h2 (nomark _)) ha hb (rv_B0 (f := fun i j => decide (i < j)))
theorem t_le : ET Y (.Compare a [.LtE] [b] pos) γ M (decide (i ≤ j)) M2 := t_bin (fun h1 h2 => pt_cmpR op_le h1 h2 (nomark _)) ha hb (rv_B0 (f := fun i j => decide (i ≤ j)))
theorem t_gt : ET Y (.Compare a [.Gt] [b] pos) γ M (decide (j < i)) M2 := t_bin (fun h1 h2 => pt_cmpR op_gt h1 h2 (nomark _)) ha hb (rv_B0 (f := fun i j => decide (j < i)))
theorem t_ge : ET Y (.Compare a [.GtE] [b] pos) γ M (decide (j ≤ i)) M2 := t_bin (fun h1 h2 => pt_cmpR op_ge h1 h2 (nomark _)) ha hb (rv_B0 (f := fun i j => decide (j ≤ i)))
end
theorem t_eq {k : Nat} (hr : Room k Y.X.A) {d1 d2 : PyData} {z : Bool} (ha : EV Y a γ M s1 M1) (hb : EV Y b γ M1 s2 M2) (v1 : Vw M2 s1 d1) (v2 : Vw M2 s2 d2) (h1 : SeqAt.shaped d1 = true) (h2 : SeqAt.shaped d2 = true) (hz : PyData.eqv d1 d2 = z) :
    ET Y (.Compare a [.Eq] [b] pos) γ M z M2 := t_bin (fun h1 h2 => pt_cmpR (op_eqD hr.units) h1 h2 (nomark _)) ha hb (rv_eq v1 v2 h1 h2 hz)
theorem t_ne {k : Nat} (hr : Room k Y.X.A) {d1 d2 : PyData} {z : Bool} (ha : EV Y a γ M s1 M1) (hb : EV Y b γ M1 s2 M2) (v1 : Vw M2 s1 d1) (v2 : Vw M2 s2 d2) (h1 : SeqAt.shaped d1 = true) (h2 : SeqAt.shaped d2 = true) (hz : PyData.eqv d1 d2 = z) :
    ET Y (.Compare a [.NotEq] [b] pos) γ M (!z) M2 := t_bin (fun h1 h2 => pt_cmpR (op_neD hr.units) h1 h2 (nomark _)) ha hb (rv_ne v1 v2 h1 h2 hz)
theorem t_eqI {k : Nat} (hr : Room k Y.X.A) (ha : EV Y a γ M (.d (.int i)) M1) (hb : EV Y b γ M1 (.d (.int j)) M2) : ET Y (.Compare a [.Eq] [b] pos) γ M (decide (i = j)) M2 := t_eq hr ha hb .d .d rfl rfl (eqv_int i j)
theorem t_neI {k : Nat} (hr : Room k Y.X.A) (ha : EV Y a γ M (.d (.int i)) M1) (hb : EV Y b γ M1 (.d (.int j)) M2) : ET Y (.Compare a [.NotEq] [b] pos) γ M (!decide (i = j)) M2 := t_ne hr ha hb .d .d rfl rfl (eqv_int i j)
theorem t_isN {d : PyData} {k : Nat} {p2 : Pos} (ha : EV Y a γ M (.d d) M1) : ET Y (.Compare a [.Is] [.Constant .none k p2] pos) γ M (isNon d) M1 :=
  ⟨PT.imp (pt_cmp (pc_isN ha.pe) rfl) fun σ H Q ⟨F, r, q, ex⟩ => ⟨F, r, fun F1 v H1 e1 r1 v1 => ⟨_, rfl, by rw [dp_non v1]; exact q F1 H1 e1 r1⟩, ex⟩⟩
theorem t_notN {d : PyData} {k : Nat} {p2 : Pos} (ha : EV Y a γ M (.d d) M1) : ET Y (.Compare a [.IsNot] [.Constant .none k p2] pos) γ M (!isNon d) M1 :=
  ⟨PT.imp (pt_cmp (pc_notN ha.pe) rfl) fun σ H Q ⟨F, r, q, ex⟩ => ⟨F, r, fun F1 v H1 e1 r1 v1 => ⟨_, rfl, by rw [dp_non v1]; exact q F1 H1 e1 r1⟩, ex⟩⟩
theorem t_is {b' : Bool} (h : ET Y e γ M b1 M1) (q : b1 = b') : ET Y e γ M b' M1 := q ▸ h
theorem t_not (h : ET Y a γ M b1 M1) : ET Y (.UnaryOp .Not a pos) γ M (!b1) M1 := ⟨PT.imp (pt_not h.pt) fun σ H Q ⟨F, r, q, ex⟩ => ⟨F, r, q, ex⟩⟩
/-- chains of and, or: all in one state behind the first -/
structure EW (Y : Ct) (e : Expr) (γ : List S) (M : MM) (b : Bool) (M' : MM) : Prop where
  pw : PW Y.X e (tET Y γ M b M')
variable {rest : List Expr}
theorem PW.imp {X : Cx} {e : Expr} {t t' : TT} (h : PW X e t) (i : ∀ σ H Q, t' σ H Q → t σ H Q) : PW X e t' := ⟨fun wh pins s σ H Q I q => h.run wh pins s σ H Q I (i _ _ _ q)⟩
theorem w_and1 (h : ET Y a γ M b1 M1) : EW Y (.BoolOp .And [a] pos) γ M b1 M1 := ⟨pw_and1 h.pt⟩
theorem w_or1 (h : ET Y a γ M b1 M1) : EW Y (.BoolOp .Or [a] pos) γ M b1 M1 := ⟨pw_or1 h.pt⟩
theorem w_and (h : ET Y a γ M b1 M1) (k : b1 = true → EW Y (.BoolOp .And (b :: rest) pos) γ M1 b2 M1) : EW Y (.BoolOp .And (a :: b :: rest) pos) γ M (b1 && b2) M1 := by
  cases b1 with
  | true =>
    exact ⟨PW.imp (pw_and h.pt (k rfl).pw) fun σ H Q ⟨F, r, q, ex⟩ => ⟨F, r, fun F1 H1 e1 r1 => by
      refine iteT ?_
      exact ⟨F1, r1, fun F2 H2 e2 r2 => q F2 H2 (e1.trans e2) r2, ex.mono e1⟩, ex⟩⟩
  | false =>
    have hn : PW Y.X (.BoolOp .And (b :: rest) pos) (fun _ _ _ => False) := ⟨fun _ _ _ _ _ _ _ z => z.elim⟩
    exact ⟨PW.imp (pw_and h.pt hn) fun σ H Q ⟨F, r, q, ex⟩ => ⟨F, r, fun F1 H1 e1 r1 => by
      refine iteF ?_
      exact q F1 H1 e1 r1, ex⟩⟩
theorem w_or (h : ET Y a γ M b1 M1) (k : b1 = false → EW Y (.BoolOp .Or (b :: rest) pos) γ M1 b2 M1) : EW Y (.BoolOp .Or (a :: b :: rest) pos) γ M (b1 || b2) M1 := by
  cases b1 with
  | false =>
    exact ⟨PW.imp (pw_or h.pt (k rfl).pw) fun σ H Q ⟨F, r, q, ex⟩ => ⟨F, r, fun F1 H1 e1 r1 => by
      refine iteF ?_
      exact ⟨F1, r1, fun F2 H2 e2 r2 => q F2 H2 (e1.trans e2) r2, ex.mono e1⟩, ex⟩⟩
  | true =>
    have hn : PW Y.X (.BoolOp .Or (b :: rest) pos) (fun _ _ _ => False) := ⟨fun _ _ _ _ _ _ _ z => z.elim⟩
    exact ⟨PW.imp (pw_or h.pt hn) fun σ H Q ⟨F, r, q, ex⟩ => ⟨F, r, fun F1 H1 e1 r1 => by
      refine iteT ?_
      exact q F1 H1 e1 r1, ex⟩⟩
theorem EW.t (h : EW Y e γ M b1 M1) : ET Y e γ M b1 M1 := ⟨h.pw.pt⟩
/-- as values -/
theorem e_one {op} (h : EV Y a γ M s M1) : EV Y (.BoolOp op [a] pos) γ M s M1 := ⟨pe_one h.pe⟩
theorem PE.never {X : Cx} {e : Expr} : PE X e (fun _ _ _ => False) := ⟨fun _ _ _ _ _ _ z => z.elim⟩
theorem e_and (h : EV Y a γ M (.d (.bool b1)) M1) (k : b1 = true → EV Y (.BoolOp .And (b :: rest) pos) γ M1 (.d (.bool b2)) M1) : EV Y (.BoolOp .And (a :: b :: rest) pos) γ M (.d (.bool (b1 && b2))) M1 := by
  cases b1 with
  | true =>
    exact ⟨PE.imp (pe_and h.pe (k rfl).pe) fun σ H Q ⟨F, r, q, ex⟩ => ⟨F, r, fun F1 v H1 e1 r1 v1 => by
      cases v1
      refine ⟨true, rfl, ?_⟩
      refine iteT ?_
      exact ⟨F1, r1, fun F2 v2 H2 e2 r2 q2 => q F2 v2 H2 (e1.trans e2) r2 q2, ex.mono e1⟩, ex⟩⟩
  | false =>
    exact ⟨PE.imp (pe_and h.pe PE.never) fun σ H Q ⟨F, r, q, ex⟩ => ⟨F, r, fun F1 v H1 e1 r1 v1 => by
      cases v1
      refine ⟨false, rfl, ?_⟩
      refine iteF ?_
      exact q F1 _ H1 e1 r1 (.bl false), ex⟩⟩
theorem e_or (h : EV Y a γ M (.d (.bool b1)) M1) (k : b1 = false → EV Y (.BoolOp .Or (b :: rest) pos) γ M1 (.d (.bool b2)) M1) : EV Y (.BoolOp .Or (a :: b :: rest) pos) γ M (.d (.bool (b1 || b2))) M1 := by
  cases b1 with
  | false =>
    exact ⟨PE.imp (pe_or h.pe (k rfl).pe) fun σ H Q ⟨F, r, q, ex⟩ => ⟨F, r, fun F1 v H1 e1 r1 v1 => by
      cases v1
      refine ⟨false, rfl, ?_⟩
      refine iteF ?_
      exact ⟨F1, r1, fun F2 v2 H2 e2 r2 q2 => q F2 v2 H2 (e1.trans e2) r2 q2, ex.mono e1⟩, ex⟩⟩
  | true =>
    exact ⟨PE.imp (pe_or h.pe PE.never) fun σ H Q ⟨F, r, q, ex⟩ => ⟨F, r, fun F1 v H1 e1 r1 v1 => by
      cases v1
      refine ⟨true, rfl, ?_⟩
      refine iteT ?_
      exact q F1 _ H1 e1 r1 (.bl true), ex⟩⟩
theorem e_not (h : EV Y a γ M (.d (.bool b1)) M1) : EV Y (.UnaryOp .Not a pos) γ M (.d (.bool (!b1))) M1 :=
  ⟨PE.imp (pe_not h.pe) fun σ H Q ⟨F, r, q, ex⟩ => ⟨F, r, fun F1 v H1 e1 r1 v1 => by cases v1; exact ⟨b1, rfl, q F1 _ H1 e1 r1 (.bl _)⟩, ex⟩⟩
end
end Mi

/-! Mi: items, displays, calls, statements, defs. -/
namespace Mi
open PySem PySem.Spec PyProof.Rows L2
section
variable {Y : Ct} {γ γ' : List S} {M M1 M2 M3 : MM} {s s1 s2 s3 : S} {e a b c : Expr} {pos p : Pos} {x : Str} {i j : Int} {b1 b2 : Bool} {es : List Expr} {ss : List S}
/-! ### items -/
theorem dps_get {K : PySem.W.Frag} {F : Hp} : ∀ {vs : List V} {ds : List PyData} {j : Nat} {d : PyData}, DpAll K F vs ds → ds[j]? = some d → ∃ v, vs[j]? = some v ∧ Dp K F v d
  | _, [], _, _, _, e => by simp at e
  | _, _ :: _, 0, _, h, e => by cases h with | cons h1 h2 => simp at e; subst e; exact ⟨_, rfl, h1⟩
  | _, _ :: _, j + 1, d, h, e => by
    cases h with
    | cons h1 h2 =>
      obtain ⟨v, q1, q2⟩ := dps_get (j := j) (d := d) h2 (by simpa using e)
      exact ⟨v, by simpa using q1, q2⟩
theorem dps_len {K : PySem.W.Frag} {F : Hp} : ∀ {vs : List V} {ds : List PyData}, DpAll K F vs ds → vs.length = ds.length
  | _, [], h => by cases h; rfl
  | _, _ :: _, h => by cases h with | cons h1 h2 => exact congrArg (· + 1) (dps_len h2)
theorem atI_of {α β : Type} {xs : List α} {ys : List β} {i : Int} {y : β} (hl : xs.length = ys.length) (h : atI ys i = some y) (g : ∀ (j : Nat), ys[j]? = some y → ∃ x, xs[j]? = some x) : ∃ (x : α) (j : Nat), atI xs i = some x ∧ xs[j]? = some x ∧ ys[j]? = some y := by
  unfold atI at h ⊢
  rw [hl]
  cases e : ixN ys.length i with
  | none => rw [e] at h; cases h
  | some j =>
    rw [e] at h
    have h' : ys[j]? = some y := h
    obtain ⟨x, hx⟩ := g j h'
    exact ⟨x, j, hx, hx, h'⟩
/-- the item of data at a place -/
def itD : PyData → Int → Option PyData
  | .tuple ds, i => atI ds i
  | .list ds, i => atI ds i
  | _, _ => none
theorem rv_ix {K : PySem.W.Frag} {d d' : PyData} (h : itD d i = some d') : RV K (rIx K) (.d d) (.d (.int i)) M (.d d') M :=
  ⟨fun F v w H Q hm h1 h2 q => by
    cases h2
    cases d with
    | tuple ds =>
      cases h1 with
      | tup g1 g2 =>
        obtain ⟨v', j, e1, e2, e3⟩ := atI_of (dps_len g2) h fun j hj => let ⟨v, hv, _⟩ := dps_get g2 hj; ⟨v, hv⟩
        obtain ⟨v'', f1, f2⟩ := dps_get g2 e3
        rw [e2] at f1; cases f1
        exact .inr (.inl ⟨_, _, i, v', rfl, rfl, same_t hm.fh g1, e1, q F _ H (Same.refl F) hm f2⟩)
    | list ds =>
      cases h1 with
      | lst g1 g2 =>
        obtain ⟨v', j, e1, e2, e3⟩ := atI_of (dps_len g2) h fun j hj => let ⟨v, hv, _⟩ := dps_get g2 hj; ⟨v, hv⟩
        obtain ⟨v'', f1, f2⟩ := dps_get g2 e3
        rw [e2] at f1; cases f1
        exact .inl ⟨_, _, i, v', rfl, rfl, hm.fh.seq g1, e1, q F _ H (Same.refl F) hm f2⟩
    | _ => cases h⟩
theorem e_ix {d d' : PyData} (ha : EV Y a γ M (.d d) M1) (hb : EV Y b γ M1 (.d (.int i)) M2) (h : itD d i = some d') (hs : PlainIx b := by exact fun _ _ => rfl) : EV Y (.Subscript a b pos) γ M (.d d') M2 :=
  e_bin (f := fun _ _ => pure .none) (fun h1 h2 => pe_ix ix_seq h1 h2 hs) ha hb (rv_ix h)
/-- .. of a list that may change -/
theorem rv_ixM {K : PySem.W.Frag} {k : Nat} {q : Addr} {xs : List S} (hk : M[k]? = some (q, .lst xs)) (h : atI xs i = some s) : RV K (rIx K) (.ob q) (.d (.int i)) M s M :=
  ⟨fun F v w H Q hm h1 h2 qq => by
    cases h2
    cases h1
    obtain ⟨_, vs, g1, g2⟩ := hm.mo _ _ (List.mem_of_getElem? hk)
    obtain ⟨v', j, e1, e2, e3⟩ := atI_of (pair_len g2) h fun j hj => let ⟨v, hv, _⟩ := pair_get g2 hj; ⟨v, hv⟩
    obtain ⟨v'', f1, f2⟩ := pair_get g2 e3
    rw [e2] at f1; cases f1
    exact .inl ⟨_, _, i, v', rfl, rfl, .of g1, e1, qq F _ H (Same.refl F) hm f2⟩⟩
theorem e_ixM {k : Nat} {q : Addr} {xs : List S} (ha : EV Y a γ M (.ob q) M1) (hb : EV Y b γ M1 (.d (.int i)) M2) (hk : M2[k]? = some (q, .lst xs)) (h : atI xs i = some s) (hs : PlainIx b := by exact fun _ _ => rfl) : EV Y (.Subscript a b pos) γ M s M2 :=
  e_bin (f := fun _ _ => pure .none) (fun h1 h2 => pe_ix ix_seq h1 h2 hs) ha hb (rv_ixM hk h)

/-! ### arguments, displays -/
theorem ea_nil : EA Y [] γ M [] M := ⟨PA.imp pa_nil fun σ H Q ⟨F, r, q, _⟩ => q F [] H (Same.refl F) r .nil⟩
theorem ea_cons (h : EV Y e γ M s M1) (t : EA Y es γ M1 ss M2) (hs : starEach (e :: es) Y.X.env = (false, eval e Y.X.env) :: starEach es Y.X.env := by rfl) : EA Y (e :: es) γ M (s :: ss) M2 :=
  ⟨PA.imp (pa_cons h.pe t.pa hs) fun σ H Q ⟨F, r, q, ex⟩ => ⟨F, r, fun F1 v H1 e1 r1 v1 => ⟨F1, r1, fun F2 vs H2 e2 r2 v2 => q F2 (v :: vs) H2 (e1.trans e2) r2 (.cons (v1.mono e2) v2), ex.mono e1⟩, ex⟩⟩
theorem small {n : Nat} (h : Nat.ble n 100000 = true) : n ≤ sizeLine := Nat.le_trans (Nat.le_of_ble_eq_true h) (by decide)
theorem e_tup {k} {ds : List PyData} (h : EA Y es γ M (ds.map S.d) M1) (hn : Nat.ble ds.length 100000 = true := by rfl) : EV Y (.Tuple es k pos) γ M (.d (.tuple ds)) M1 :=
  ⟨PE.imp (pe_tup h.pa) fun σ H Q ⟨F, r, q, ex⟩ => ⟨F, r, fun F1 vs H1 e1 r1 v1 => ⟨by rw [pair_len v1, List.length_map]; exact small hn, fun p hp => by
    obtain ⟨e2, h2⟩ := r1.hm.newF hp (.tup vs)
    exact q _ _ _ (e1.trans e2) (r1.ext e2 h2) (.tup (.inl (.inl upd_same)) (dps_mono e2 _ _ (all_d v1)))⟩, ex⟩⟩
/-- a list of written items that isn't changed -/
theorem e_lst {ds : List PyData} (h : EA Y es γ M (ds.map S.d) M1) (hn : Nat.ble ds.length 100000 = true := by rfl) : EV Y (.List es pos) γ M (.d (.list ds)) M1 :=
  ⟨PE.imp (pe_lst h.pa) fun σ H Q ⟨F, r, q, ex⟩ => ⟨F, r, fun F1 vs H1 e1 r1 v1 => ⟨by rw [pair_len v1, List.length_map]; exact small hn, fun p hp => by
    obtain ⟨e2, h2⟩ := r1.hm.newF hp (.lst vs)
    exact q _ _ _ (e1.trans e2) (r1.ext e2 h2) (.lst (.inl (.inl upd_same)) (dps_mono e2 _ _ (all_d v1)))⟩, ex⟩⟩
/-- a new list of written items -/
theorem n_lst (h : EA Y es γ M ss M1) (hn : Nat.ble ss.length 100000 = true := by rfl) : EN Y (.List es pos) γ M (.lst ss) M1 :=
  ⟨PE.imp (pe_lst h.pa) fun σ H Q ⟨F, r, q, ex⟩ => ⟨F, r, fun F1 vs H1 e1 r1 v1 => ⟨by rw [pair_len v1]; exact small hn, fun p hp => by
    have h2 := r1.hm.newM hp (o := .lst vs) (m := .lst ss) ⟨vs, upd_same, v1⟩
    exact q F1 p _ e1 ⟨h2, r1.sl⟩⟩, ex⟩⟩
theorem EN.at {o : MO} {M' : MM} (h : EN Y e γ M o M1) (q : M1 = M') : EN Y e γ M o M' := q ▸ h
/-- a new list that isn't changed any more -/
theorem e_frz {ds : List PyData} (h : EN Y e γ M (.lst (ds.map S.d)) M1) : EV Y e γ M (.d (.list ds)) M1 :=
  ⟨PE.imp h.pe fun σ H Q ⟨F, r, q, ex⟩ => ⟨F, r, fun F1 p H1 e1 r1 => by
    obtain ⟨vs, g1, g2, g3, g4⟩ := r1.hm.frz
    exact q _ _ _ (e1.trans g3) (r1.ext g3 g4) (.lst (.inl (.inl upd_same)) (dps_mono g3 _ _ g2)), ex⟩⟩

/-! ### built-in calls -/
structure RC (K : PySem.W.Frag) (r : List V → Hp → VK → Prop) (ss : List S) (M : MM) (z : S) (M' : MM) : Prop where
  run : ∀ F vs H (Q : VK), HM K F M H → Paired (SR K F) vs ss → (∀ F' u H', Same F F' → HM K F' M' H' → SR K F' u z → Q u H') → r vs H Q
theorem e_callB {r : List V → Hp → VK → Prop} {id : String} {x : Str} (hc : CallR Y.X (.builtin id) r) (hg : Gl Y.X x) (hm : Y.X.mg x = none) (hv : bootBuiltins x = some (.builtin id)) (ha : EA Y (e :: es) γ M ss M1) (hr : RC Y.X.K r ss M1 s M2)
    (hn : x ≠ "__name__" := by decide) (hdb : (x == ("__debug__" : Str)) = false := by decide) (he : starEach (e :: es) Y.X.env = (false, eval e Y.X.env) :: starEach es Y.X.env := by rfl) (hpl : (backTo pos (starEach es Y.X.env)).any (·.1) = false := by rfl) :
    EV Y (.Call (.Name x p) (e :: es) [] pos) γ M s M2 := ⟨PE.imp (pe_callB hc hg hm hv ha.pa hn hdb he hpl) fun σ H Q ⟨F, rl, q, ex⟩ =>
  ⟨F, rl, fun F1 vs H1 e1 r1 v1 => hr.run F1 vs H1 Q r1.hm v1 fun F2 u H2 e2 h2 v2 => q F2 u H2 (e1.trans e2) (r1.ext e2 h2) v2, ex⟩⟩
theorem e_callTy {r : List V → Hp → VK → Prop} {T : String} {x : Str} (hc : CallR Y.X (.type T) r) (hg : Gl Y.X x) (hm : Y.X.mg x = none) (hv : bootBuiltins x = some (.type T)) (ha : EA Y (e :: es) γ M ss M1) (hr : RC Y.X.K r ss M1 s M2)
    (hn : x ≠ "__name__" := by decide) (hdb : (x == ("__debug__" : Str)) = false := by decide) (he : starEach (e :: es) Y.X.env = (false, eval e Y.X.env) :: starEach es Y.X.env := by rfl) (hpl : (backTo pos (starEach es Y.X.env)).any (·.1) = false := by rfl) :
    EV Y (.Call (.Name x p) (e :: es) [] pos) γ M s M2 := ⟨PE.imp (pe_callTy hc hg hm hv ha.pa hn hdb he hpl) fun σ H Q ⟨F, rl, q, ex⟩ =>
  ⟨F, rl, fun F1 vs H1 e1 r1 v1 => hr.run F1 vs H1 Q r1.hm v1 fun F2 u H2 e2 h2 v2 => q F2 u H2 (e1.trans e2) (r1.ext e2 h2) v2, ex⟩⟩
theorem pair_one {α β : Type} {R : α → β → Prop} {vs : List α} {y : β} (h : Paired R vs [y]) : ∃ v, vs = [v] ∧ R v y := by
  cases h with | cons a t => cases t; exact ⟨_, rfl, a⟩
theorem pair_two {α β : Type} {R : α → β → Prop} {vs : List α} {y z : β} (h : Paired R vs [y, z]) : ∃ v w, vs = [v, w] ∧ R v y ∧ R w z := by
  cases h with | cons a t => cases t with | cons b t => cases t; exact ⟨_, _, rfl, a, b⟩
theorem e_abs (hg : Gl Y.X "abs" := by rfl) (hm : Y.X.mg "abs" = none) (ha : EA Y (e :: es) γ M [.d (.int i)] M1)
    (he : starEach (e :: es) Y.X.env = (false, eval e Y.X.env) :: starEach es Y.X.env := by rfl) (hpl : (backTo pos (starEach es Y.X.env)).any (·.1) = false := by rfl) : EV Y (.Call (.Name "abs" p) (e :: es) [] pos) γ M (.d (.int (i.natAbs : Int))) M1 :=
  e_callB call_abs hg hm (by decide +kernel) ha (he := he) (hpl := hpl) (hr := ⟨fun F vs H Q hm h q => by
    obtain ⟨v, rfl, h1⟩ := pair_one h
    cases h1
    refine ⟨i, rfl, ?_⟩
    have e : (if i < 0 then -i else i) = (i.natAbs : Int) := by split <;> omega
    rw [e]
    exact q F _ H (Same.refl F) hm (.int _)⟩)
/-- int(flag) -/
theorem e_intB (hg : Gl Y.X "int" := by rfl) (hm : Y.X.mg "int" = none) (ha : EA Y (e :: es) γ M [.d (.bool b1)] M1)
    (he : starEach (e :: es) Y.X.env = (false, eval e Y.X.env) :: starEach es Y.X.env := by rfl) (hpl : (backTo pos (starEach es Y.X.env)).any (·.1) = false := by rfl) : EV Y (.Call (.Name "int" p) (e :: es) [] pos) γ M (.d (.int (if b1 then 1 else 0))) M1 :=
  e_callTy call_int1 hg hm (by decide +kernel) ha (he := he) (hpl := hpl) (hr := ⟨fun F vs H Q hm h q => by
    obtain ⟨v, rfl, h1⟩ := pair_one h
    cases h1
    exact .inr ⟨b1, rfl, q F _ H (Same.refl F) hm (.int _)⟩⟩)
def lenD : PyData → Option Nat
  | .tuple ds => some ds.length
  | .list ds => some ds.length
  | _ => none
theorem e_len {d : PyData} {n : Nat} (hg : Gl Y.X "len" := by rfl) (hm : Y.X.mg "len" = none) (ha : EA Y (e :: es) γ M [s] M1) (hv : Vw M1 s d) (h : lenD d = some n)
    (he : starEach (e :: es) Y.X.env = (false, eval e Y.X.env) :: starEach es Y.X.env := by rfl) (hpl : (backTo pos (starEach es Y.X.env)).any (·.1) = false := by rfl) : EV Y (.Call (.Name "len" p) (e :: es) [] pos) γ M (.d (.int n)) M1 :=
  e_callB call_len hg hm PySem.boot_len ha (he := he) (hpl := hpl) (hr := ⟨fun F vs H Q hm' g q => by
    obtain ⟨v, rfl, g0⟩ := pair_one g
    have g := hv.ok hm' g0
    refine ⟨v, n, rfl, ?_, q F _ H (Same.refl F) hm' (.int _)⟩
    cases d with
    | tuple ds => cases g with | tup g1 g2 => cases h; exact .inr ⟨_, g1, (dps_len g2).symm⟩
    | list ds => cases g with | lst g1 g2 => cases h; exact .inl ⟨_, g1, (dps_len g2).symm⟩
    | _ => cases h⟩)
theorem e_max2 (hc : Y.X.calm = true) (hg : Gl Y.X "max" := by rfl) (hm : Y.X.mg "max" = none) (ha : EA Y (e :: es) γ M [.d (.int i), .d (.int j)] M2)
    (he : starEach (e :: es) Y.X.env = (false, eval e Y.X.env) :: starEach es Y.X.env := by rfl) (hpl : (backTo pos (starEach es Y.X.env)).any (·.1) = false := by rfl) : EV Y (.Call (.Name "max" p) (e :: es) [] pos) γ M (.d (.int (max i j))) M2 :=
  e_callB (call_max2 hc) hg hm (by decide +kernel) ha (he := he) (hpl := hpl) (hr := ⟨fun F vs H Q hm h q => by
    obtain ⟨v, w, rfl, h1, h2⟩ := pair_two h
    cases h1; cases h2
    refine ⟨i, j, rfl, ?_⟩
    have e : (if j > i then j else i) = max i j := by rw [Int.max_def]; split <;> split <;> omega
    rw [e]
    exact q F _ H (Same.refl F) hm (.int _)⟩)
theorem e_min2 (hc : Y.X.calm = true) (hg : Gl Y.X "min" := by rfl) (hm : Y.X.mg "min" = none) (ha : EA Y (e :: es) γ M [.d (.int i), .d (.int j)] M2)
    (he : starEach (e :: es) Y.X.env = (false, eval e Y.X.env) :: starEach es Y.X.env := by rfl) (hpl : (backTo pos (starEach es Y.X.env)).any (·.1) = false := by rfl) : EV Y (.Call (.Name "min" p) (e :: es) [] pos) γ M (.d (.int (min i j))) M2 :=
  e_callB (call_min2 hc) hg hm (by decide +kernel) ha (he := he) (hpl := hpl) (hr := ⟨fun F vs H Q hm h q => by
    obtain ⟨v, w, rfl, h1, h2⟩ := pair_two h
    cases h1; cases h2
    refine ⟨i, j, rfl, ?_⟩
    have e : (if j < i then j else i) = min i j := by rw [Int.min_def]; split <;> split <;> omega
    rw [e]
    exact q F _ H (Same.refl F) hm (.int _)⟩)

/-! ### defs -/
/-- what a def is worth: the arguments, the objects, what is wanted of the answer, of an error -/
abbrev Con := List S → MM → (S → MM → Prop) → (Value → MM → Prop) → Prop
def spD (K : PySem.W.Frag) (c : Con) : Sp := fun vs H Q E => ∃ F M ss R Rx, Paired (SR K F) vs ss ∧ HM K F M H ∧ c ss M R Rx ∧ (∀ F' v r M' H', Same F F' → HM K F' M' H' → SR K F' v r → R r M' → Q v H') ∧
  (∀ cls M' F' H', Same F F' → HM K F' M' H' → Rx cls M' → E (xcl cls).1 (xcl cls).2 H')
/-- a call, told by its one answer -/
theorem e_call {k : Nat} {f : Addr} {fd : FuncData} {ps : List Str} {cn : Con} (G : FnOk Y.X.prog Y.X.w Y.X.K Y.X.mg Y.X.base (L2.CX Y.X.prog Y.X.w) k f fd ps (spD Y.X.K cn)) (hr : Room k Y.X.A) (hm : Y.X.mg x = some (.ref f)) (hk : PySem.W.keepIn Y.X.K (.ref f) = true) (hb : Binds Y.X.K fd ps [])
    (tk : Takes Y.X Y.Er) (ha : EA Y (e :: es) γ M ss M1) (h : cn ss M1 (fun r M' => r = s ∧ M' = M2) (fun cls M' => Y.Rx cls γ M')) (hg : Gl Y.X x := by rfl) (hdb : (x == ("__debug__" : Str)) = false := by decide)
    (he : starEach (e :: es) Y.X.env = (false, eval e Y.X.env) :: starEach es Y.X.env := by rfl) (hpl : (backTo pos (starEach es Y.X.env)).any (·.1) = false := by rfl) : EV Y (.Call (.Name x p) (e :: es) [] pos) γ M s M2 :=
  ⟨PE.imp (pe_callS G hr hg hm hk hb (fun σ => passAt tk σ) ha.pa hdb he hpl) fun σ H Q ⟨F, rl, q, ex⟩ => ⟨F, rl, fun F1 vs H1 e1 r1 v1 => by
    refine ⟨F1, M1, ss, _, _, v1, r1.hm, h, fun F' v r M' H' e2 h2 v2 hR => ?_, fun cls M' F' H' e2 h2 hR => ex cls γ M' F' σ H' (e1.trans e2) (r1.ext e2 h2) hR⟩
    obtain ⟨rfl, rfl⟩ := hR
    exact q F' v H' (e1.trans e2) (r1.ext e2 h2) v2, ex⟩⟩
/-- a call that makes a new object -/
theorem n_call {k : Nat} {f : Addr} {fd : FuncData} {ps : List Str} {cn : Con} {o : MO} (G : FnOk Y.X.prog Y.X.w Y.X.K Y.X.mg Y.X.base (L2.CX Y.X.prog Y.X.w) k f fd ps (spD Y.X.K cn)) (hr : Room k Y.X.A) (hm : Y.X.mg x = some (.ref f)) (hk : PySem.W.keepIn Y.X.K (.ref f) = true) (hb : Binds Y.X.K fd ps [])
    (tk : Takes Y.X Y.Er) (ha : EA Y (e :: es) γ M ss M1) (h : cn ss M1 (fun r M' => ∃ q, r = .ob q ∧ M' = M2 ++ [(q, o)]) (fun cls M' => Y.Rx cls γ M')) (hg : Gl Y.X x := by rfl) (hdb : (x == ("__debug__" : Str)) = false := by decide)
    (he : starEach (e :: es) Y.X.env = (false, eval e Y.X.env) :: starEach es Y.X.env := by rfl) (hpl : (backTo pos (starEach es Y.X.env)).any (·.1) = false := by rfl) : EN Y (.Call (.Name x p) (e :: es) [] pos) γ M o M2 :=
  ⟨PE.imp (pe_callS G hr hg hm hk hb (fun σ => passAt tk σ) ha.pa hdb he hpl) fun σ H Q ⟨F, rl, q, ex⟩ => ⟨F, rl, fun F1 vs H1 e1 r1 v1 => by
    refine ⟨F1, M1, ss, _, _, v1, r1.hm, h, fun F' v r M' H' e2 h2 v2 hR => ?_, fun cls M' F' H' e2 h2 hR => ex cls γ M' F' σ H' (e1.trans e2) (r1.ext e2 h2) hR⟩
    obtain ⟨a, rfl, rfl⟩ := hR
    cases v2
    exact q F' a H' (e1.trans e2) (r1.ext e2 h2), ex⟩⟩

/-! ### statements -/
structure Po where
  nx : List S → MM → Prop
  rt : S → MM → Prop
  bk : List S → MM → Prop
  ct : List S → MM → Prop
structure PoOk (K : PySem.W.Frag) (P : Po) (F : Hp) (D : Ends) : Prop where
  nx : ∀ γ' M' F' σ' H', Same F F' → Rl K γ' M' F' σ' H' → P.nx γ' M' → D.nx σ' H'
  rt : ∀ s M' F' v H', Same F F' → HM K F' M' H' → SR K F' v s → P.rt s M' → D.rt v H'
  bk : ∀ γ' M' F' σ' H', Same F F' → Rl K γ' M' F' σ' H' → P.bk γ' M' → D.bk σ' H'
  ct : ∀ γ' M' F' σ' H', Same F F' → Rl K γ' M' F' σ' H' → P.ct γ' M' → D.ct σ' H'
theorem PoOk.mono {K : PySem.W.Frag} {P : Po} {F F' : Hp} {D : Ends} (h : PoOk K P F D) (e : Same F F') : PoOk K P F' D :=
  ⟨fun γ' M' F2 σ' H' e2 => h.nx γ' M' F2 σ' H' (e.trans e2), fun s M' F2 v H' e2 => h.rt s M' F2 v H' (e.trans e2), fun γ' M' F2 σ' H' e2 => h.bk γ' M' F2 σ' H' (e.trans e2), fun γ' M' F2 σ' H' e2 => h.ct γ' M' F2 σ' H' (e.trans e2)⟩
def tB' (Y : Ct) (γ : List S) (M : MM) (P : Po) : TS := fun D σ H => ∃ F, Rl Y.X.K γ M F σ H ∧ PoOk Y.X.K P F D ∧ ExOk Y F
/-- a statement, a block: what it leads to -/
structure ST (Y : Ct) (st : Stmt) (γ : List S) (M : MM) (P : Po) : Prop where
  ps : PS Y.X st (tB' Y γ M P)
structure BL (Y : Ct) (sts : List Stmt) (γ : List S) (M : MM) (P : Po) : Prop where
  ps : PSs Y.X sts (tB' Y γ M P)
variable {st : Stmt} {sts rest bA bB : List Stmt} {P P' : Po}
theorem b_nil (h : P.nx γ M) : BL Y [] γ M P := ⟨PSs.imp pss_nil fun D σ H ⟨F, r, q, _⟩ => q.nx γ M F σ H (Same.refl F) r h⟩
theorem BL.imp (h : BL Y sts γ M P) (h1 : ∀ γ' M', P.nx γ' M' → P'.nx γ' M') (h2 : ∀ s M', P.rt s M' → P'.rt s M') (h3 : ∀ γ' M', P.bk γ' M' → P'.bk γ' M') (h4 : ∀ γ' M', P.ct γ' M' → P'.ct γ' M') : BL Y sts γ M P' :=
  ⟨PSs.imp h.ps fun D σ H ⟨F, r, q, ex⟩ => ⟨F, r, ⟨fun γ' M' F' σ' H' e r z => q.nx γ' M' F' σ' H' e r (h1 _ _ z), fun s M' F' v H' e hm sr z => q.rt s M' F' v H' e hm sr (h2 _ _ z), fun γ' M' F' σ' H' e r z => q.bk γ' M' F' σ' H' e r (h3 _ _ z), fun γ' M' F' σ' H' e r z => q.ct γ' M' F' σ' H' e r (h4 _ _ z)⟩, ex⟩⟩
/-- a statement, then the rest from each state that it leads to -/
theorem b_cons (h : ST Y st γ M { P with nx := fun γ' M' => BL Y rest γ' M' P }) : BL Y (st :: rest) γ M P := by
  refine ⟨⟨fun pins s σ H D I ⟨F, r, q, ex⟩ => ?_⟩⟩
  let u : TS := fun D σ H => ∃ γ' M', BL Y rest γ' M' P ∧ tB' Y γ' M' P D σ H
  have hu : PSs Y.X rest u := ⟨fun pins s σ H D I ⟨γ', M', hb, ht⟩ => hb.ps.run pins s σ H D I ht⟩
  refine (pss_cons h.ps hu).run pins s σ H D I ?_
  refine ⟨F, r, ⟨fun γ' M' F' σ' H' e r' hb => ⟨γ', M', hb, F', r', q.mono e, ex.mono e⟩, q.rt, q.bk, q.ct⟩, ex⟩
theorem b_one (h : ST Y st γ M P) : BL Y [st] γ M P := ⟨pss_one h.ps⟩
/-- the same, the way behind the statement told once -/
theorem b_cut (N : List S → MM → Prop) (h : ST Y st γ M { P with nx := N }) (k : ∀ γ' M', N γ' M' → BL Y rest γ' M' P) : BL Y (st :: rest) γ M P :=
  b_cons ⟨PS.imp h.ps fun D σ H ⟨F, r, q, ex⟩ => ⟨F, r, ⟨fun γ' M' F' σ' H' e r' z => q.nx γ' M' F' σ' H' e r' (k γ' M' z), q.rt, q.bk, q.ct⟩, ex⟩⟩

theorem s_ret (h : EV Y e γ M s M1) (k : P.rt s M1) : ST Y (.Return (some e) pos) γ M P :=
  ⟨PS.imp (ps_ret h.pe) fun D σ H ⟨F, r, q, ex⟩ => ⟨F, r, fun F1 v H1 e1 r1 v1 => q.rt s M1 F1 v H1 e1 r1.hm v1 k, ex⟩⟩
theorem s_retM {o : MO} (h : EN Y e γ M o M1) (k : ∀ q, P.rt (.ob q) (M1 ++ [(q, o)])) : ST Y (.Return (some e) pos) γ M P :=
  ⟨PS.imp (ps_ret h.pe) fun D σ H ⟨F, r, q, ex⟩ => ⟨F, r, fun F1 a H1 e1 r1 => q.rt (.ob a) _ F1 _ H1 e1 r1.hm rfl (k a), ex⟩⟩
theorem s_retN (k : P.rt (.d .none) M) : ST Y (.Return none pos) γ M P :=
  ⟨PS.imp ps_retN fun D σ H ⟨F, r, q, ex⟩ => q.rt (.d .none) M F .non H (Same.refl F) r.hm Dp.non k⟩
theorem s_expr (h : EV Y e γ M s M1) (k : P.nx γ M1) (hs : swapsWith e none pos.line Y.X.env = pure false := by rfl) : ST Y (.Expr e pos) γ M P :=
  ⟨PS.imp (ps_expr h.pe hs) fun D σ H ⟨F, r, q, ex⟩ => ⟨F, r, fun F1 v H1 e1 r1 v1 => q.nx γ M1 F1 σ H1 e1 r1 k, ex⟩⟩
theorem s_pass (k : P.nx γ M) : ST Y (.Pass pos) γ M P := ⟨PS.imp ps_pass fun D σ H ⟨F, r, q, ex⟩ => q.nx γ M F σ H (Same.refl F) r k⟩
theorem s_break (k : P.bk γ M) : ST Y (.Break pos) γ M P := ⟨PS.imp ps_break fun D σ H ⟨F, r, q, ex⟩ => q.bk γ M F σ H (Same.refl F) r k⟩
theorem s_continue (k : P.ct γ M) : ST Y (.Continue pos) γ M P := ⟨PS.imp ps_continue fun D σ H ⟨F, r, q, ex⟩ => q.ct γ M F σ H (Same.refl F) r k⟩
theorem sr_or {K : PySem.W.Frag} {F : Hp} {v : V} (h : SR K F v s) : OR K F (some v) s := by
  cases s with
  | no => trivial
  | d x => exact ⟨v, rfl, h⟩
  | ob a => exact ⟨v, rfl, h⟩
  | ty a => exact ⟨v, rfl, h⟩
/-- x = e -/
theorem s_set (i : Nat) {pos' : Pos} (hN : Y.X.N.Nodup) (h : EV Y e γ M s M1) (k : P.nx (γ.set i s) M1) (hi : Y.X.N[i]? = some x := by rfl) (hx : Loc Y.X.env.scope x := by first | exact Or.inl rfl | exact Or.inr rfl)
    (hs : swapsWith e (some (.Name x pos')) pos.line Y.X.env = pure false := by rfl) (hf : Y.X.fn x = true ∨ Y.X.env.scope.names.lookup x = some .local := by first | exact .inl rfl | exact .inr rfl) : ST Y (.Assign [.Name x pos'] e pos) γ M P :=
  ⟨PS.imp (ps_set hN hi hx h.pe hs hf) fun D σ H ⟨F, r, q, ex⟩ => ⟨F, r, fun F1 v H1 e1 r1 v1 => q.nx _ M1 F1 _ H1 e1 ⟨r1.hm, pair_set (sr_or v1) i r1.sl⟩ k, ex⟩⟩
theorem s_setM (i : Nat) {pos' : Pos} {o : MO} (hN : Y.X.N.Nodup) (h : EN Y e γ M o M1) (k : ∀ q, P.nx (γ.set i (.ob q)) (M1 ++ [(q, o)])) (hi : Y.X.N[i]? = some x := by rfl) (hx : Loc Y.X.env.scope x := by first | exact Or.inl rfl | exact Or.inr rfl)
    (hs : swapsWith e (some (.Name x pos')) pos.line Y.X.env = pure false := by rfl) (hf : Y.X.fn x = true ∨ Y.X.env.scope.names.lookup x = some .local := by first | exact .inl rfl | exact .inr rfl) : ST Y (.Assign [.Name x pos'] e pos) γ M P :=
  ⟨PS.imp (ps_set hN hi hx h.pe hs hf) fun D σ H ⟨F, r, q, ex⟩ => ⟨F, r, fun F1 a H1 e1 r1 => q.nx _ _ F1 _ H1 e1 ⟨r1.hm, pair_set (sr_or (s := .ob a) rfl) i r1.sl⟩ (k a), ex⟩⟩
theorem s_if (hc : ET Y c γ M b1 M1) (h1 : b1 = true → BL Y bA γ M1 P) (h2 : b1 = false → BL Y bB γ M1 P) : ST Y (.If c bA bB pos) γ M P := by
  cases b1 with
  | true =>
    exact ⟨PS.imp (ps_if hc.pt (h1 rfl).ps pss_never) fun D σ H ⟨F, r, q, ex⟩ => ⟨F, r, fun F1 H1 e1 r1 => by
      refine iteT ?_
      exact ⟨F1, r1, q.mono e1, ex.mono e1⟩, ex⟩⟩
  | false =>
    exact ⟨PS.imp (ps_if hc.pt pss_never (h2 rfl).ps) fun D σ H ⟨F, r, q, ex⟩ => ⟨F, r, fun F1 H1 e1 r1 => by
      refine iteF ?_
      exact ⟨F1, r1, q.mono e1, ex.mono e1⟩, ex⟩⟩
/-- a, b = x, y -/
theorem s_par (i j : Nat) {x y : Str} {px py pt : Pos} {kt k2 pt2} (hc : Y.X.calm = true) (hN : Y.X.N.Nodup) (ha : EA Y [a, b] γ M [s1, s2] M1) (k : P.nx ((γ.set i s1).set j s2) M1)
    (hi : Y.X.N[i]? = some x := by rfl) (hj : Y.X.N[j]? = some y := by rfl) (hij : i ≠ j := by decide) (hx : Y.X.env.scope.names.lookup x = some .local := by rfl) (hy : Y.X.env.scope.names.lookup y = some .local := by rfl)
    (hw : swappedStores [.Tuple [.Name x px, .Name y py] kt pt] (.Tuple [a, b] k2 pt2) Y.X.env = pure (some [x, y]) := by rfl)
    (hs : swapsWithSole [.Tuple [.Name x px, .Name y py] kt pt] (.Tuple [a, b] k2 pt2) pos.line Y.X.env = pure false := by rfl) : ST Y (.Assign [.Tuple [.Name x px, .Name y py] kt pt] (.Tuple [a, b] k2 pt2) pos) γ M P :=
  ⟨PS.imp (ps_par hc hN hi hj hij hx hy ha.pa hw hs) fun D σ H ⟨F, r, q, ex⟩ => ⟨F, r, fun F1 vs H1 e1 r1 v1 => by
    obtain ⟨v, w, rfl, h1, h2⟩ := pair_two v1
    exact ⟨v, w, rfl, q.nx _ M1 F1 _ H1 e1 ⟨r1.hm, pair_set (sr_or h2) j (pair_set (sr_or h1) i r1.sl)⟩ k⟩, ex⟩⟩
/-- targets: a value's parts to names -/
structure GT (Y : Ct) (tg : Expr) (γ : List S) (s : S) (M : MM) (γ' : List S) : Prop where
  ex : ∃ g, PG Y.X tg g ∧ ∀ F σ H v (Q : L2.St → Hp → Prop), Rl Y.X.K γ M F σ H → SR Y.X.K F v s → (∀ σ', Rl Y.X.K γ' M F σ' H → Q σ' H) → g v σ H Q
structure GTs (Y : Ct) (tg : List Expr) (γ : List S) (ss : List S) (M : MM) (γ' : List S) : Prop where
  ex : ∃ g, PGs Y.X tg g ∧ ∀ F σ H vs (Q : L2.St → Hp → Prop), Rl Y.X.K γ M F σ H → Paired (SR Y.X.K F) vs ss → (∀ σ', Rl Y.X.K γ' M F σ' H → Q σ' H) → g vs σ H Q
theorem g_name (i : Nat) (hN : Y.X.N.Nodup) (hi : Y.X.N[i]? = some x := by rfl) (hx : Loc Y.X.env.scope x := by first | exact Or.inl rfl | exact Or.inr rfl) (hf : Y.X.fn x = true ∨ Y.X.env.scope.names.lookup x = some .local := by first | exact .inl rfl | exact .inr rfl) : GT Y (.Name x pos) γ s M (γ.set i s) :=
  ⟨_, pg_name hN hi hx hf, fun F σ H v Q r h q => q _ ⟨r.hm, pair_set (sr_or h) i r.sl⟩⟩
theorem g_nil : GTs Y [] γ [] M γ := ⟨_, pgs_nil, fun F σ H vs Q r h q => by cases h; exact ⟨rfl, q _ r⟩⟩
theorem g_cons {γ1 : List S} {es : List Expr} (h : GT Y e γ s M γ1) (t : GTs Y es γ1 ss M γ') (hs : (assignEach (e :: es) Y.X.env).map (·.2) = assign e Y.X.env :: (assignEach es Y.X.env).map (·.2) := by rfl) : GTs Y (e :: es) γ (s :: ss) M γ' := by
  obtain ⟨g1, p1, q1⟩ := h.ex
  obtain ⟨g2, p2, q2⟩ := t.ex
  refine ⟨_, pgs_cons p1 p2 hs, fun F σ H vs Q r h q => ?_⟩
  cases h with
  | cons h1 h2 => exact ⟨_, _, rfl, q1 F σ H _ _ r h1 fun σ1 r1 => q2 F σ1 H _ Q r1 h2 q⟩
theorem g_tup {k : Nat} {es : List Expr} {ds : List PyData} {n : Nat} (hc : Y.X.calm = true) (h : GTs Y es γ (ds.map S.d) M γ') (hl : ds.length = n := by rfl) (hn : (assignEach es Y.X.env).length = n := by rfl) (hst : (assignEach es Y.X.env).findIdx? (·.1) = none := by rfl) :
    GT Y (.Tuple es k pos) γ (.d (.tuple ds)) M γ' := by
  obtain ⟨g, p, q⟩ := h.ex
  refine ⟨_, pg_tup hc p hn hst, fun F σ H v Q r h q' => ?_⟩
  cases h with
  | tup h1 h2 => exact ⟨_, _, rfl, same_t r.hm.fh h1, (dps_len h2).trans hl, q F σ H _ Q r (d_all h2) q'⟩
/-- target = value -/
theorem s_asg {tg : Expr} (h : EV Y e γ M s M1) (g : GT Y tg γ s M1 γ') (k : P.nx γ' M1) (hs : swapsWithSole [tg] e pos.line Y.X.env = pure false := by rfl) (hw : swappedStores [tg] e Y.X.env = pure none := by rfl)
    (h1 : (assignEach [tg] Y.X.env).map (·.2) = [assign tg Y.X.env] := by rfl) : ST Y (.Assign [tg] e pos) γ M P := by
  obtain ⟨gg, p, q⟩ := g.ex
  exact ⟨PS.imp (ps_asg h.pe p hs hw h1) fun D σ H ⟨F, r, qq, ex⟩ => ⟨F, r, fun F1 v H1 e1 r1 v1 => q F1 σ H1 v _ r1 v1 fun σ' r' => qq.nx γ' M1 F1 σ' H1 e1 r' k, ex⟩⟩
end

/-! ### the def's own rule -/
section
variable {P : Program} {w : World} {K : PySem.W.Frag} {mg : Str → Option Value} {base : Heap}
theorem start_ok {K : PySem.W.Frag} {F : Hp} {N : List Str} {vs : List V} {ss : List S} (h : Paired (SR K F) vs ss) : Paired (OR K F) (L2.start N vs) (ss ++ List.replicate (N.length - ss.length) .no) := by
  have e := pair_len h
  unfold L2.start
  rw [e]
  refine pair_app ?_ ?_
  · induction h with
    | nil => exact .nil
    | cons a t ih => exact .cons (sr_or a) (ih (pair_len t))
  · generalize N.length - ss.length = n
    induction n with
    | zero => exact .nil
    | succ n ih => exact .cons trivial ih
/-- c: what the def is worth, as a condition on arguments and objects -/
theorem Fun.okD {x qual : Str} {st : Stmt} {f : Addr} {fd : FuncData} {N ps : List Str} {k : Nat} {c : Con} (Fn : Fun K x qual st f fd) (Sc : FnScope N ps (defScope st)) (len : ∀ ss M R Rx, c ss M R Rx → ss.length = ps.length)
    (hbody : ∀ (cdv : Value) (A : Around) (outer : List Env) (s : Shared) (H : Hp) (E : XK) (ss : List S) (M : MM) (R : S → MM → Prop) (Rx : Value → MM → Prop), c ss M R Rx → Room k (A.deeper (envOfC qual (defScope st) s.heap.objs.size f cdv)) →
      Takes (cxOf (L2.CX P w) P w K mg base N qual (defScope st) f cdv A outer s H E) (fun cls d _ H => E cls d H) →
      BL ⟨cxOf (L2.CX P w) P w K mg base N qual (defScope st) f cdv A outer s H E, fun cls d _ H => E cls d H, fun cls _ M => Rx cls M⟩ (defBody st) (ss ++ List.replicate (N.length - ss.length) .no) M
        { nx := fun _ M' => R (.d .none) M', rt := R, bk := fun _ _ => False, ct := fun _ _ => False }) : FnOk P w K mg base (L2.CX P w) (k + 1) f fd ps (spD K c) := by
  refine Fun.okX Fn Sc (fun vs H Q E h => ?_) (fun cdv A outer s H vs Q E hr h => ?_)
  · obtain ⟨F, M, ss, R, Rx, h1, h2, h3, h4, h5⟩ := h
    exact (pair_len h1).trans (len _ _ _ _ h3)
  · obtain ⟨F, M, ss, R, Rx, h1, h2, h3, h4, h5⟩ := h
    have hb := hbody cdv A outer s H E ss M R Rx h3 hr (takes_of rfl rfl rfl rfl)
    refine ⟨_, hb.ps, F, ⟨h2, start_ok h1⟩, ⟨fun γ' M' F' σ' H' e r z => ?_, fun s' M' F' v H' e hm sr z => ?_, fun _ _ _ _ _ _ _ z => z.elim, fun _ _ _ _ _ _ _ z => z.elim⟩, fun cls γ' M' F' σ' H' e r z => ?_⟩
    · exact h4 F' .non (.d .none) M' H' e r.hm Dp.non z
    · exact h4 F' v s' M' H' e hm sr z
    · exact h5 cls M' F' H' e r.hm z
end
end Mi

/-! Mi: loops, stores. -/
namespace Mi
open PySem PySem.Spec PyProof.Rows L2
/-- all readings of a piece at once -/
def uS (X : Cx) (b : List Stmt) : TS := fun D σ H => ∃ t, PSs X b t ∧ t D σ H
theorem uS_ok {X : Cx} {b : List Stmt} : PSs X b (uS X b) := ⟨fun pins s σ H D I ⟨t, h, q⟩ => h.run pins s σ H D I q⟩
def uG (X : Cx) (e : Expr) : TG := fun v σ H Q => ∃ g, PG X e g ∧ g v σ H Q
theorem uG_ok {X : Cx} {e : Expr} : PG X e (uG X e) := ⟨fun pins s σ H v u Q I r ⟨g, h, q⟩ => h.run pins s σ H v u Q I r q⟩
def uT (X : Cx) (e : Expr) : TT := fun σ H Q => ∃ t, PT X e t ∧ t σ H Q
theorem uT_ok {X : Cx} {e : Expr} : PT X e (uT X e) := ⟨fun pins s σ H Q I ⟨t, h, q⟩ => h.run pins s σ H Q I q⟩
section
variable {Y : Ct} {γ γ' : List S} {M M1 M2 M3 : MM} {s s1 s2 s3 : S} {e a b c o : Expr} {pos p : Pos} {x : Str} {i j : Int} {b1 b2 : Bool} {es : List Expr} {ss : List S} {P : Po} {body : List Stmt}
/-! ### while -/
theorem s_while (hp : PassesOwn (model Y.X.prog Y.X.w) Y.X.A Y.X.env Y.X.xe) (W : Nat → List S → MM → Prop) (m0 : Nat) (h0 : W m0 γ M)
    (turn : ∀ m γ' M', W m γ' M' → ∃ b1 M1, ET Y c γ' M' b1 M1 ∧ (b1 = true → BL Y body γ' M1 { P with nx := fun γ2 M2 => ∃ m', m' < m ∧ W m' γ2 M2, ct := fun γ2 M2 => ∃ m', m' < m ∧ W m' γ2 M2, bk := P.nx }) ∧ (b1 = false → P.nx γ' M1)) :
    ST Y (.While c body [] pos) γ M P := by
  refine ⟨PS.imp (ps_while hp uT_ok uS_ok) fun D σ H ⟨F, r, q, ex⟩ => ?_⟩
  refine ⟨fun m σ' H' => ∃ γ' M' F', W m γ' M' ∧ Same F F' ∧ Rl Y.X.K γ' M' F' σ' H', ⟨m0, γ, M, F, h0, Same.refl F, r⟩, ?_⟩
  rintro m σ' H' ⟨γ', M', F', w, e1, r1⟩
  obtain ⟨b1, M1, hc, ht, hf⟩ := turn m γ' M' w
  refine ⟨_, hc.pt, F', r1, fun F2 H2 e2 r2 => ?_, ex.mono e1⟩
  cases b1 with
  | true =>
    refine iteT ?_
    refine ⟨fun σ3 H3 => ∃ m', m' < m ∧ ∃ γ' M' F', W m' γ' M' ∧ Same F F' ∧ Rl Y.X.K γ' M' F' σ3 H3, fun _ _ z => z, _, (ht rfl).ps, F2, r2, ⟨?_, ?_, ?_, ?_⟩, ex.mono (e1.trans e2)⟩
    · rintro γ3 M3 F3 σ3 H3 e3 r3 ⟨m', hm, w3⟩
      exact ⟨m', hm, γ3, M3, F3, w3, (e1.trans e2).trans e3, r3⟩
    · exact fun s M' F' v H' e3 => q.rt s M' F' v H' ((e1.trans e2).trans e3)
    · exact fun γ3 M3 F3 σ3 H3 e3 => q.nx γ3 M3 F3 σ3 H3 ((e1.trans e2).trans e3)
    · rintro γ3 M3 F3 σ3 H3 e3 r3 ⟨m', hm, w3⟩
      exact ⟨m', hm, γ3, M3, F3, w3, (e1.trans e2).trans e3, r3⟩
  | false =>
    refine iteF ?_
    exact q.nx γ' M1 F2 σ' H2 (e1.trans e2) r2 (hf rfl)

/-! ### for -/
/-- an iteration over the items xs, while the objects are as Sd says -/
structure Walks (K : PySem.W.Frag) (J : It) (F1 : Hp) (xs : List S) (Sd : MM → Prop) : Prop where
  go : ∀ i H' F' M', Same F1 F' → HM K F' M' H' → Sd M' → i < xs.length → J.go i H'
  yld : ∀ (i : Nat) H' v H'' x F' γ' M' σ', xs[i]? = some x → Same F1 F' → Rl K γ' M' F' σ' H' → Sd M' → J.yld i H' v H'' → ∃ F'', Same F' F'' ∧ Rl K γ' M' F'' σ' H'' ∧ SR K F'' v x
  stop : ∀ i H' F' M', Same F1 F' → HM K F' M' H' → Sd M' → xs.length ≤ i → J.stop i H'
structure EI (Y : Ct) (tg it : Expr) (γ : List S) (M : MM) (xs : List S) (Sd : MM → Prop) (M1 : MM) : Prop where
  ex : ∃ wi, PI Y.X tg it wi ∧ ∀ F σ H (R : It → Hp → Prop), Rl Y.X.K γ M F σ H → ExOk Y F → (∀ F1 H1 J, Same F F1 → Rl Y.X.K γ M1 F1 σ H1 → Walks Y.X.K J F1 xs Sd → R J H1) → wi σ H R
theorem s_for {tg it : Expr} {xs : List S} {Sd : MM → Prop} (hp : PassesOwn (model Y.X.prog Y.X.w) Y.X.A Y.X.env Y.X.xe) (hc : Y.X.calm = true) (hI : EI Y tg it γ M xs Sd M1) (Iv : Nat → List S → MM → Prop) (h0 : Iv 0 γ M1) (hS : ∀ i γ' M', Iv i γ' M' → Sd M')
    (hs : ∀ (i : Nat) x γ' M', xs[i]? = some x → Iv i γ' M' → ∃ γ2, GT Y tg γ' x M' γ2 ∧ BL Y body γ2 M' { P with nx := Iv (i + 1), ct := Iv (i + 1), bk := P.nx }) (hd : ∀ γ' M', Iv xs.length γ' M' → P.nx γ' M')
    (hf : ∀ x, foldedSetIterable it Y.X.env x = pure x := by intro _; rfl) : ST Y (.For tg it body [] pos) γ M P := by
  obtain ⟨wi, hw, run⟩ := hI.ex
  refine ⟨PS.imp (ps_for hp hc hw uG_ok uS_ok hf) fun D σ H ⟨F, r, q, ex⟩ => ?_⟩
  refine run F σ H _ r ex fun F1 H1 J e1 r1 Wk => ⟨fun i m σ' H' => m = xs.length - i ∧ i ≤ xs.length ∧ ∃ γ' M' F', Iv i γ' M' ∧ Same F1 F' ∧ Rl Y.X.K γ' M' F' σ' H', ⟨xs.length, by simp, Nat.zero_le _, γ, M1, F1, h0, Same.refl F1, r1⟩, ?_⟩
  rintro i m σ' H' ⟨rfl, hi, γ', M', F', w, e2, r2⟩
  by_cases hlt : i < xs.length
  · refine .inr ⟨Wk.go i H' F' M' e2 r2.hm (hS i γ' M' w) hlt, fun σ3 H3 => ∃ γ' M' F', Iv (i + 1) γ' M' ∧ Same F1 F' ∧ Rl Y.X.K γ' M' F' σ3 H3, fun σ3 H3 z => ⟨xs.length - (i + 1), by omega, rfl, hlt, z⟩, fun v H'' y => ?_⟩
    obtain ⟨x, hx⟩ : ∃ x, xs[i]? = some x := ⟨xs[i], by simp [hlt]⟩
    obtain ⟨γ2, hg, hb⟩ := hs i x γ' M' hx w
    obtain ⟨F2, e3, r3, sv⟩ := Wk.yld i H' v H'' x F' γ' M' σ' hx e2 r2 (hS i γ' M' w) y
    obtain ⟨gg, hpg, hq⟩ := hg.ex
    refine ⟨gg, hpg, hq F2 σ' H'' v _ r3 sv fun σ3 r4 => ⟨_, hb.ps, F2, r4, ⟨?_, ?_, ?_, ?_⟩, ex.mono ((e1.trans e2).trans e3)⟩⟩
    · exact fun γ5 M5 F5 σ5 H5 e5 r5 w5 => ⟨γ5, M5, F5, w5, (e2.trans e3).trans e5, r5⟩
    · exact fun s M' F' v H' e5 => q.rt s M' F' v H' (((e1.trans e2).trans e3).trans e5)
    · exact fun γ5 M5 F5 σ5 H5 e5 => q.nx γ5 M5 F5 σ5 H5 (((e1.trans e2).trans e3).trans e5)
    · exact fun γ5 M5 F5 σ5 H5 e5 r5 w5 => ⟨γ5, M5, F5, w5, (e2.trans e3).trans e5, r5⟩
  · have hil : i = xs.length := by omega
    subst hil
    exact .inl ⟨Wk.stop _ H' F' M' e2 r2.hm (hS _ γ' M' w) (Nat.le_refl _), q.nx γ' M' F' σ' H' (e1.trans e2) r2 (hd γ' M' w)⟩
theorem dps_getV {K : PySem.W.Frag} {F : Hp} : ∀ {vs : List V} {ds : List PyData} {j : Nat} {v : V}, DpAll K F vs ds → vs[j]? = some v → ∃ d, ds[j]? = some d ∧ Dp K F v d
  | _, [], _, _, h, e => by cases h; simp at e
  | _, _ :: _, 0, _, h, e => by cases h with | cons h1 h2 => simp at e; subst e; exact ⟨_, rfl, h1⟩
  | _, _ :: _, j + 1, d, h, e => by
    cases h with
    | cons h1 h2 =>
      obtain ⟨v, q1, q2⟩ := dps_getV (j := j) (v := d) h2 (by simpa using e)
      exact ⟨v, by simpa using q1, q2⟩
theorem pair_getL {α β : Type} {R : α → β → Prop} : ∀ {xs : List α} {ys : List β} {i : Nat} {x : α}, Paired R xs ys → xs[i]? = some x → ∃ y, ys[i]? = some y ∧ R x y
  | _, _, _, _, .nil, e => by simp at e
  | _, _, 0, _, .cons r _, e => by simp at e; subst e; exact ⟨_, rfl, r⟩
  | _, _, i + 1, y, .cons _ t, e => by
    obtain ⟨x, h1, h2⟩ := pair_getL (i := i) (x := y) t (by simpa using e)
    exact ⟨x, by simpa using h1, h2⟩
theorem walks_l {K : PySem.W.Frag} {F1 : Hp} {a : Addr} {vs : List V} {ds : List PyData} (h1 : SqL K F1 a vs) (h2 : DpAll K F1 vs ds) : Walks K (Itl K a) F1 (ds.map S.d) (fun _ => True) := by
  have hl : vs.length = (ds.map S.d).length := by rw [List.length_map]; exact dps_len h2
  refine ⟨fun i H' F' M' e hm _ hi => ?_, fun i H' v H'' x F' γ' M' σ' hx e r _ y => ?_, fun i H' F' M' e hm _ hi => ?_⟩
  · exact ⟨vs, vs[i]'(by omega), (e.trans hm.fh).seq h1, by simp⟩
  · obtain ⟨rfl, hv⟩ := y
    have e4 := hv vs ((e.trans r.hm.fh).seq h1)
    obtain ⟨d, hd, dp⟩ := dps_getV h2 e4
    rw [List.getElem?_map, hd] at hx
    cases hx
    exact ⟨F', Same.refl F', r, dp_mono e _ _ dp⟩
  · exact ⟨vs, (e.trans hm.fh).seq h1, by omega⟩
theorem walks_t {K : PySem.W.Frag} {F1 : Hp} {a : Addr} {vs : List V} {ds : List PyData} (h1 : SqT K F1 a vs) (h2 : DpAll K F1 vs ds) : Walks K (Itt K a) F1 (ds.map S.d) (fun _ => True) := by
  have hl : vs.length = (ds.map S.d).length := by rw [List.length_map]; exact dps_len h2
  refine ⟨fun i H' F' M' e hm _ hi => ?_, fun i H' v H'' x F' γ' M' σ' hx e r _ y => ?_, fun i H' F' M' e hm _ hi => ?_⟩
  · exact ⟨vs, vs[i]'(by omega), same_t (e.trans hm.fh) h1, by simp⟩
  · obtain ⟨rfl, hv⟩ := y
    have e4 := hv vs (same_t (e.trans r.hm.fh) h1)
    obtain ⟨d, hd, dp⟩ := dps_getV h2 e4
    rw [List.getElem?_map, hd] at hx
    cases hx
    exact ⟨F', Same.refl F', r, dp_mono e _ _ dp⟩
  · exact ⟨vs, same_t (e.trans hm.fh) h1, by omega⟩
/-- over a list of data -/
theorem i_list {tg it : Expr} {ds : List PyData} (h : EV Y it γ M (.d (.list ds)) M1) : EI Y tg it γ M (ds.map S.d) (fun _ => True) M1 :=
  ⟨_, pi_list h.pe, fun F σ H R r ex k => ⟨F, r, fun F1 v H1 e1 r1 v1 => by
    cases v1 with
    | lst h1 h2 => exact ⟨_, rfl, ⟨_, r1.hm.fh.seq h1⟩, k F1 H1 _ e1 r1 (walks_l h1 h2)⟩, ex⟩⟩
theorem i_tup {tg it : Expr} {ds : List PyData} (h : EV Y it γ M (.d (.tuple ds)) M1) : EI Y tg it γ M (ds.map S.d) (fun _ => True) M1 :=
  ⟨_, pi_tup h.pe, fun F σ H R r ex k => ⟨F, r, fun F1 v H1 e1 r1 v1 => by
    cases v1 with
    | tup h1 h2 => exact ⟨_, rfl, ⟨_, same_t r1.hm.fh h1⟩, k F1 H1 _ e1 r1 (walks_t h1 h2)⟩, ex⟩⟩
/-- over a list that might change, but stands while it is walked -/
theorem i_listM {tg it : Expr} {q : Addr} {xs : List S} (h : EV Y it γ M (.ob q) M1) {k : Nat} (hk : M1[k]? = some (q, .lst xs)) : EI Y tg it γ M xs (fun M' => ∃ k : Nat, M'[k]? = some (q, .lst xs)) M1 :=
  ⟨_, pi_list h.pe, fun F σ H R r ex kk => ⟨F, r, fun F1 v H1 e1 r1 v1 => by
    cases v1
    obtain ⟨_, vs, h1, h2⟩ := r1.hm.mo _ _ (List.mem_of_getElem? hk)
    refine ⟨q, rfl, ⟨vs, .of h1⟩, kk F1 H1 _ e1 r1 ⟨fun i H' F' M' e hm ⟨k', hk'⟩ hi => ?_, fun i H' v H'' x F' γ' M' σ' hx e r ⟨k', hk'⟩ y => ?_, fun i H' F' M' e hm ⟨k', hk'⟩ hi => ?_⟩⟩
    · obtain ⟨_, ws, g1, g2⟩ := hm.mo _ _ (List.mem_of_getElem? hk')
      have hl := pair_len g2
      exact ⟨ws, ws[i]'(by omega), .of g1, by simp⟩
    · obtain ⟨rfl, hv⟩ := y
      obtain ⟨_, ws, g1, g2⟩ := r.hm.mo _ _ (List.mem_of_getElem? hk')
      obtain ⟨u, hu, su⟩ := pair_get g2 hx
      have e4 := hv ws (.of g1)
      rw [hu] at e4
      cases e4
      exact ⟨F', Same.refl F', r, su⟩
    · obtain ⟨_, ws, g1, g2⟩ := hm.mo _ _ (List.mem_of_getElem? hk')
      have hl := pair_len g2
      exact ⟨ws, .of g1, by omega⟩, ex⟩⟩
end
end Mi

/-! Mi: ranges, stores into lists, errors. -/
namespace Mi
open PySem PySem.Spec PyProof.Rows L2
section
variable {Y : Ct} {γ γ' : List S} {M M1 M2 M3 : MM} {s s1 s2 s3 : S} {e a b c o it : Expr} {pos p p2 : Pos} {x : Str} {i j lo hi : Int} {b1 b2 : Bool} {es : List Expr} {ss : List S} {P : Po} {body : List Stmt} {tg : Expr}
/-! ### ranges -/
theorem walks_r {K : PySem.W.Frag} {F1 : Hp} {n : Nat} : Walks K (Itr lo n) F1 ((List.range n).map fun (k : Nat) => S.d (.int (lo + (k : Int)))) (fun _ => True) := by
  refine ⟨fun i H' F' M' e hm _ hi => ?_, fun i H' v H'' x F' γ' M' σ' hx e r _ y => ?_, fun i H' F' M' e hm _ hi => ?_⟩
  · rw [List.length_map, List.length_range] at hi
    exact hi
  · obtain ⟨rfl, rfl⟩ := y
    rw [List.getElem?_map] at hx
    cases e5 : (List.range n)[i]? with
    | none => rw [e5] at hx; cases hx
    | some k =>
      rw [e5] at hx
      cases hx
      obtain ⟨h6, h7⟩ := List.getElem?_eq_some_iff.mp e5
      rw [List.getElem_range] at h7
      subst h7
      exact ⟨F', Same.refl F', r, Dp.int _⟩
  · rw [List.length_map, List.length_range] at hi
    exact hi
theorem i_range1 (hg : Gl Y.X "range" := by rfl) (hm : Y.X.mg "range" = none) (ha : EA Y [a] γ M [.d (.int hi)] M1) (hb : hi < 2 ^ 62 ∧ -(2 ^ 62) ≤ hi) (hs : starEach [a] Y.X.env = [(false, eval a Y.X.env)] := by rfl) :
    EI Y tg (.Call (.Name "range" p) [a] [] pos) γ M ((List.range hi.toNat).map fun (k : Nat) => S.d (.int (0 + (k : Int)))) (fun _ => True) M1 :=
  ⟨_, pi_range1 hg hm ha.pa hs, fun F σ H R r ex k => ⟨F, r, fun F1 vs H1 e1 r1 v1 => by
    obtain ⟨v, rfl, h1⟩ := pair_one v1
    cases h1
    exact ⟨hi, rfl, hb.2, hb.1, k F1 H1 _ e1 r1 walks_r⟩, ex⟩⟩
theorem i_range2 (hg : Gl Y.X "range" := by rfl) (hm : Y.X.mg "range" = none) (ha : EA Y [a, b] γ M [.d (.int lo), .d (.int hi)] M1) (hb : -(2 ^ 62) ≤ lo ∧ lo < 2 ^ 62 ∧ -(2 ^ 62) ≤ hi ∧ hi < 2 ^ 62) (hs : starEach [a, b] Y.X.env = [(false, eval a Y.X.env), (false, eval b Y.X.env)] := by rfl) (hs2 : starEach [b] Y.X.env = [(false, eval b Y.X.env)] := by rfl) :
    EI Y tg (.Call (.Name "range" p) [a, b] [] pos) γ M ((List.range (hi - lo).toNat).map fun (k : Nat) => S.d (.int (lo + (k : Int)))) (fun _ => True) M1 :=
  ⟨_, pi_range2 hg hm ha.pa hs hs2, fun F σ H R r ex k => ⟨F, r, fun F1 vs H1 e1 r1 v1 => by
    obtain ⟨v, w, rfl, h1, h2⟩ := pair_two v1
    cases h1; cases h2
    exact ⟨lo, hi, rfl, hb, k F1 H1 _ e1 r1 walks_r⟩, ex⟩⟩

/-! ### stores into lists -/
theorem e_append {k : Nat} {q : Addr} {xs : List S} {apos : Pos} (ho : EV Y o γ M (.ob q) M1) (he : EA Y [e] γ M1 [s] M2) (hk : M2[k]? = some (q, .lst xs)) (hl : xs.length < 100000) (hk1 : ∃ (k1 : Nat) (ys : List S), M1[k1]? = some (q, MO.lst ys))
    (hbase : attributeBase o "append" Y.X.env (eval o Y.X.env) = eval o Y.X.env := by rfl)
    (hfew : ((backTo pos (starEach [e] Y.X.env)).all (fun x => !x.1) && (backToKw pos (keywordEach [] Y.X.env)).all (fun x => x.1.isSome)
      && decide ([e].length + ([] : List Keyword).length + (if ([] : List Keyword).isEmpty then 0 else 1) < 30)) = true := by rfl)
    (hline : (apos.endLine == pos.line) = true := by rfl) (hs : starEach [e] Y.X.env = (false, eval e Y.X.env) :: starEach [] Y.X.env := by rfl) (hplain : (backTo pos (starEach [] Y.X.env)).any (·.1) = false := by rfl) :
    EV Y (.Call (.Attribute o "append" apos) [e] [] pos) γ M (.d .none) (M2.set k (q, .lst (xs ++ [s]))) :=
  ⟨PE.imp (pe_bm PySem.F.plainAttrs_list PySem.F.slot_list_append PySem.F.type_list_append mt_append ho.pe he.pa hbase hfew hline hs hplain) fun σ H Q ⟨F, r, qq, ex⟩ => ⟨F, r, fun F1 v H1 e1 r1 v1 => by
    cases v1
    obtain ⟨k1, ys, hk1⟩ := hk1
    obtain ⟨_, ws, g1, _⟩ := r1.hm.mo _ _ (List.mem_of_getElem? hk1)
    refine ⟨Or.inl ⟨rfl, ws, .of g1⟩, F1, r1, fun F2 vs H2 e2 r2 v2 => ?_, ex.mono e1⟩
    obtain ⟨v, rfl, sv⟩ := pair_one v2
    obtain ⟨_, us, f1, f2⟩ := r2.hm.mo _ _ (List.mem_of_getElem? hk)
    refine ⟨q, us, v, rfl, rfl, f1, by rw [pair_len f2]; exact Nat.lt_of_lt_of_le hl (by decide), ?_⟩
    have hM := r2.hm.setM hk (o := .lst (us ++ [v])) (m := .lst (xs ++ [s])) ⟨_, upd_same, pair_app f2 (.cons sv .nil)⟩
    exact qq F2 .non _ (e1.trans e2) ⟨hM, r2.sl⟩ Dp.non, ex⟩⟩
/-- o[i] = e -/
theorem s_setI {k jj : Nat} {q : Addr} {xs : List S} {tp : Pos} (he : EV Y e γ M s M1) (ho : EV Y o γ M1 (.ob q) M2) (hi : EV Y a γ M2 (.d (.int j)) M3) (hk : M3[k]? = some (q, .lst xs)) (hj : ixN xs.length j = some jj) (kk : P.nx γ (M3.set k (q, .lst (xs.set jj s))))
    (hs : swapsWithSole [.Subscript o a tp] e pos.line Y.X.env = pure false := by rfl) (hw : swappedStores [.Subscript o a tp] e Y.X.env = pure none := by rfl)
    (h1 : (assignEach [.Subscript o a tp] Y.X.env).map (·.2) = [assign (.Subscript o a tp) Y.X.env] := by rfl)
    (ha : ∀ v, assign (.Subscript o a tp) Y.X.env v = (do
      let ov ← holding [v] (eval o Y.X.env)
      let iv ← holding [v, ov] (eval a Y.X.env)
      standAt tp
      holding [v, ov, iv] (setItem ov iv v)
      release [v, ov, iv] []) := by intro _; rfl) : ST Y (.Assign [.Subscript o a tp] e pos) γ M P :=
  ⟨PS.imp (ps_asg he.pe (pg_sub ho.pe hi.pe set_list ha) hs hw h1) fun D σ H ⟨F, r, qq, ex⟩ => ⟨F, r, fun F1 v H1 e1 r1 v1 => ⟨F1, r1, fun F2 v2 H2 e2 r2 sv2 => ⟨F2, r2, fun F3 v3 H3 e3 r3 sv3 => by
    cases sv2; cases sv3
    obtain ⟨_, us, f1, f2⟩ := r3.hm.mo _ _ (List.mem_of_getElem? hk)
    refine ⟨q, us, j, jj, rfl, rfl, f1, by rw [pair_len f2]; exact hj, ?_⟩
    have hM := r3.hm.setM hk (o := .lst (us.set jj v)) (m := .lst (xs.set jj s)) ⟨_, upd_same, pair_set ((v1.mono e2).mono e3) jj f2⟩
    exact qq.nx γ _ F3 σ _ ((e1.trans e2).trans e3) ⟨hM, r3.sl⟩ kk, (ex.mono e1).mono e2⟩, ex.mono e1⟩, ex⟩⟩

/-! ### errors -/
/-- raise X('..'), X an own class over ValueError without an __init__ -/
theorem s_raise {C : Addr} {m : Str} {k : Nat} {bmB : List Value} {B newId initId : String} (hc : Y.X.calm = true) (tk : Takes Y.X Y.Er) (Fc : ExcBaseFacts B newId initId bmB) (q : PySem.W.excIn Y.X.K C bmB newId = true) (gC : Y.X.mg x = some (.ref C)) (kC : PySem.W.keepIn Y.X.K (.ref C) = true)
    (r : Raises Y.X (.ref C)) (hx : Y.Rx (.ref C) γ M) (hg : Gl Y.X x := by rfl) (hdb : (x == ("__debug__" : Str)) = false := by decide) : ST Y (.Raise (some (.Call (.Name x p) [.Constant (.str m) k p2] [] pos)) none tp) γ M P :=
  ⟨PS.imp (ps_raise hc tk (pmk_own Fc q gC kC r hg hdb)) fun D σ H ⟨F, r, qq, ex⟩ => ex _ γ M F σ H (Same.refl F) r hx⟩

/-- try: body except X as n: suite -/
theorem s_tryAs {n : Str} {cv : Value} {i : Nat} {suite : List Stmt} {b₀ : Stmt} {np pos' : Pos} (hs : Y.X.stack = Y.X.env :: Y.X.outer) (hf : Y.X.env.frame = some Y.X.env.locals) (hN : Y.X.N.Nodup) (hi : Y.X.N[i]? = some n) (hln : Y.X.env.kindOf n = some .local) (hc : Names Y.X x cv) (tk : Takes Y.X Y.Er)
    (hb : ∀ (W : WX) (pn : List (Addr × Obj)) (xe : Value → Shared → Prop), Takes (Y.X.tr pn xe) W → PassesOwn (model Y.X.prog Y.X.w) Y.X.A Y.X.env xe →
      BL ⟨Y.X.tr pn xe, W, fun cls γ' M' => ∃ b1, PySem.W.exmOne Y.X.K (xcl cls).1 cv = some b1 ∧ (b1 = true → ∀ (a : Addr) (oe : Obj) (pn : List (Addr × Obj)), Zc (xcl cls).1 (xcl cls).2 oe → (∃ vs, oe.data = .fields vs) →
          BL ⟨Y.X.suite a ((a, oe) :: pn), fun _ _ _ _ => False, fun _ _ _ => False⟩ (b₀ :: suite) (γ'.set i (.ob a)) M' { P with nx := fun γ2 M2 => P.nx (γ2.set i .no) M2, bk := fun γ2 M2 => P.bk (γ2.set i .no) M2, ct := fun γ2 M2 => P.ct (γ2.set i .no) M2 }) ∧
        (b1 = false → Y.Rx cls γ' M')⟩ body γ M P) :
    ST Y (.Try body [.ExceptHandler (some (.Name x np)) (some n) (b₀ :: suite) pos'] [] [] pos) γ M P := by
  let Rx' : Value → List S → MM → Prop := fun cls γ' M' => ∃ b1, PySem.W.exmOne Y.X.K (xcl cls).1 cv = some b1 ∧ (b1 = true → ∀ (a : Addr) (oe : Obj) (pn : List (Addr × Obj)), Zc (xcl cls).1 (xcl cls).2 oe → (∃ vs, oe.data = .fields vs) →
          BL ⟨Y.X.suite a ((a, oe) :: pn), fun _ _ _ _ => False, fun _ _ _ => False⟩ (b₀ :: suite) (γ'.set i (.ob a)) M' { P with nx := fun γ2 M2 => P.nx (γ2.set i .no) M2, bk := fun γ2 M2 => P.bk (γ2.set i .no) M2, ct := fun γ2 M2 => P.ct (γ2.set i .no) M2 }) ∧
        (b1 = false → Y.Rx cls γ' M')
  let ts : Addr → Value → Option Addr → TS := fun a cls d D σ H => ∃ γ2 M2 P2, (∀ (oe : Obj) (pn : List (Addr × Obj)), Zc cls d oe → (∃ vs, oe.data = .fields vs) → BL ⟨Y.X.suite a ((a, oe) :: pn), fun _ _ _ _ => False, fun _ _ _ => False⟩ (b₀ :: suite) γ2 M2 P2) ∧ tB' ⟨Y.X, fun _ _ _ _ => False, fun _ _ _ => False⟩ γ2 M2 P2 D σ H
  have hsu : ∀ (a : Addr) (oe : Obj) (cls : Value) (d : Option Addr) (pn : List (Addr × Obj)), Zc cls d oe → (∃ vs, oe.data = .fields vs) → PSs (Y.X.suite a ((a, oe) :: pn)) (b₀ :: suite) (ts a cls d) :=
    fun a oe cls d pn hz hf => ⟨fun pins s σ H D I ⟨γ2, M2, P2, h, t⟩ => (h oe pn hz hf).ps.run pins s σ H D I t⟩
  refine ⟨PS.imp (ps_try_as (tb := fun W => tB' ⟨Y.X, W, Rx'⟩ γ M P) (ts := ts) (Wout := Y.Er) hs hf hN hi hln hc tk (fun W pn xe t po => (hb W pn xe t po).ps) hsu) fun D σ H ⟨F, r, q, ex⟩ => ?_⟩
  refine ⟨F, r, ⟨q.nx, q.rt, q.bk, q.ct⟩, fun cls γ' M' F' σ' H' e1 r1 ⟨b1, h1, h2, h3⟩ => ⟨b1, h1, fun hb1 a ha => ?_, fun hb1 => ex cls γ' M' F' σ' H' e1 r1 (h3 hb1)⟩⟩
  refine ⟨γ'.set i (.ob a), M', _, fun oe pn hz hf => h2 hb1 a oe pn hz hf, F', ⟨r1.hm, pair_set (sr_or (s := .ob a) rfl) i r1.sl⟩, ⟨?_, ?_, ?_, ?_⟩, fun _ _ _ _ _ _ _ _ z => z.elim⟩
  · exact fun γ3 M3 F3 σ3 H3 e3 r3 z => q.nx _ M3 F3 _ H3 (e1.trans e3) ⟨r3.hm, pair_set (R := OR Y.X.K F3) (y := S.no) trivial i r3.sl⟩ z
  · exact fun s M3 F3 v H3 e3 => q.rt s M3 F3 v H3 (e1.trans e3)
  · exact fun γ3 M3 F3 σ3 H3 e3 r3 z => q.bk _ M3 F3 _ H3 (e1.trans e3) ⟨r3.hm, pair_set (R := OR Y.X.K F3) (y := S.no) trivial i r3.sl⟩ z
  · exact fun γ3 M3 F3 σ3 H3 e3 r3 z => q.ct _ M3 F3 _ H3 (e1.trans e3) ⟨r3.hm, pair_set (R := OR Y.X.K F3) (y := S.no) trivial i r3.sl⟩ z
end
end Mi

/-! Mi: isinstance, the law's end. -/
namespace Mi
open PySem PySem.Spec PyProof.Rows L2
section
variable {Y : Ct} {γ γ' : List S} {M M1 M2 M3 : MM} {s s1 s2 s3 : S} {e a b c o it : Expr} {pos p p2 : Pos} {x : Str} {i j lo hi : Int} {b1 b2 : Bool} {es : List Expr} {ss : List S} {P : Po} {body : List Stmt} {tg : Expr}
/-! ### classes, isinstance -/
theorem e_ty {n : String} (hg : Gl Y.X x) (hm : Y.X.mg x = none) (hv : bootBuiltins x = some (.type n)) (hn : x ≠ "__name__" := by decide) (hd : (x == ("__debug__" : Str)) = false := by decide) : EV Y (.Name x pos) γ M (.ty n) M :=
  ⟨PE.imp (pe_bltn (v := .ty n) hg hm hv rfl hn hd) fun σ H Q ⟨F, r, q, _⟩ => q F _ H (Same.refl F) r rfl⟩
def tyD : PyData → String
  | .none => "NoneType"
  | .bool _ => "bool"
  | .int _ => "int"
  | .str _ => "str"
  | .list _ => "list"
  | .tuple _ => "tuple"
  | .dict _ => "dict"
theorem dp_ty {K : PySem.W.Frag} {H : Hp} {v : V} {d : PyData} (h : Dp K H v d) : TyX K H v (.type (tyD d)) := by
  cases h with
  | non => exact .base .non
  | bl b => exact .base (.bl b)
  | int i => exact .base (.int i)
  | str x => exact .base (.str x)
  | lst h1 h2 =>
    rcases h1 with (h1 | ⟨oo, h1⟩) | ⟨oo, its, n, h1, h3, _⟩
    · exact .base (.lst h1)
    · exact .base (.frz h1)
    · exact .kList h1 h3
  | tup h1 h2 =>
    rcases h1 with (h1 | ⟨oo, h1⟩) | ⟨oo, its, n, h1, h3, _⟩
    · exact .base (.tup h1)
    · exact .fTuple h1
    · exact .kTuple h1 h3
/-- isinstance(data, built-in type) -/
theorem e_isi {d : PyData} {n : String} (hg : Gl Y.X "isinstance" := by rfl) (hm : Y.X.mg "isinstance" = none) (ha : EA Y (e :: es) γ M [s, .ty n] M1) (hv : Vw M1 s d) (h : kitB (tyD d) n = some b1)
    (he : starEach (e :: es) Y.X.env = (false, eval e Y.X.env) :: starEach es Y.X.env := by rfl) (hpl : (backTo pos (starEach es Y.X.env)).any (·.1) = false := by rfl) : EV Y (.Call (.Name "isinstance" p) (e :: es) [] pos) γ M (.d (.bool b1)) M1 :=
  e_callB call_isi hg hm (by decide +kernel) ha (he := he) (hpl := hpl) (hr := ⟨fun F vs H Q hm' g q => by
    obtain ⟨v, w, rfl, g1, g2⟩ := pair_two g
    cases g2
    exact ⟨v, .ty n, _, _, b1, rfl, .ty n, dp_ty (hv.ok hm' g1), kit_ty h, q F _ H (Same.refl F) hm' (.bl _)⟩⟩)
theorem k_NoneType_int : kitB "NoneType" "int" = some false := by decide +kernel
theorem k_NoneType_bool : kitB "NoneType" "bool" = some false := by decide +kernel
theorem k_NoneType_tuple : kitB "NoneType" "tuple" = some false := by decide +kernel
theorem k_NoneType_list : kitB "NoneType" "list" = some false := by decide +kernel
theorem k_NoneType_str : kitB "NoneType" "str" = some false := by decide +kernel
theorem k_bool_int : kitB "bool" "int" = some true := by decide +kernel
theorem k_bool_bool : kitB "bool" "bool" = some true := by decide +kernel
theorem k_bool_tuple : kitB "bool" "tuple" = some false := by decide +kernel
theorem k_bool_list : kitB "bool" "list" = some false := by decide +kernel
theorem k_bool_str : kitB "bool" "str" = some false := by decide +kernel
theorem k_int_int : kitB "int" "int" = some true := by decide +kernel
theorem k_int_bool : kitB "int" "bool" = some false := by decide +kernel
theorem k_int_tuple : kitB "int" "tuple" = some false := by decide +kernel
theorem k_int_list : kitB "int" "list" = some false := by decide +kernel
theorem k_int_str : kitB "int" "str" = some false := by decide +kernel
theorem k_str_int : kitB "str" "int" = some false := by decide +kernel
theorem k_str_bool : kitB "str" "bool" = some false := by decide +kernel
theorem k_str_tuple : kitB "str" "tuple" = some false := by decide +kernel
theorem k_str_list : kitB "str" "list" = some false := by decide +kernel
theorem k_str_str : kitB "str" "str" = some true := by decide +kernel
theorem k_list_int : kitB "list" "int" = some false := by decide +kernel
theorem k_list_bool : kitB "list" "bool" = some false := by decide +kernel
theorem k_list_tuple : kitB "list" "tuple" = some false := by decide +kernel
theorem k_list_list : kitB "list" "list" = some true := by decide +kernel
theorem k_list_str : kitB "list" "str" = some false := by decide +kernel
theorem k_tuple_int : kitB "tuple" "int" = some false := by decide +kernel
theorem k_tuple_bool : kitB "tuple" "bool" = some false := by decide +kernel
theorem k_tuple_tuple : kitB "tuple" "tuple" = some true := by decide +kernel
theorem k_tuple_list : kitB "tuple" "list" = some false := by decide +kernel
theorem k_tuple_str : kitB "tuple" "str" = some false := by decide +kernel
/-- isinstance of an error that a suite holds: one class -/
inductive ClS : S → Value → Prop where
  | ty (n : String) : ClS (.ty n) (.type n)
  | own (C : Addr) : ClS (.ob C) (.ref C)
theorem ClS.rel {K : PySem.W.Frag} {F : Hp} {v : V} {u w : Value} (k : ClS s w) (h : SR K F v s) (r : RelV v u) : u = w := by
  cases k with
  | ty n => cases h; exact r
  | own C => cases h; exact r
theorem e_isE {X : Cx} {Er : WX} {Rx : Value → List S → MM → Prop} {q D : Addr} {oe : Obj} {pn : List (Addr × Obj)} {cv : Value} (C : ExcC X.K D) (hz : Zc (.ref D) none oe) (hf : ∃ vs, oe.data = .fields vs) (hg : Gl X "isinstance" := by rfl) (hm : X.mg "isinstance" = none)
    (ha : EA ⟨X.suite q ((q, oe) :: pn), Er, Rx⟩ (e :: es) γ M [.ob q, s] M1) (hc : ClS s cv) (h : PySem.W.kitOne X.K (.ref D) cv = some b1)
    (he : starEach (e :: es) X.env = (false, eval e X.env) :: starEach es X.env := by rfl) (hpl : (backTo pos (starEach es X.env)).any (·.1) = false := by rfl) : EV ⟨X.suite q ((q, oe) :: pn), Er, Rx⟩ (.Call (.Name "isinstance" p) (e :: es) [] pos) γ M (.d (.bool b1)) M1 :=
  e_callB (call_isE C hz hf) hg hm (by decide +kernel) ha (he := he) (hpl := hpl) (hr := ⟨fun F vs H Q hm' g qq => by
    obtain ⟨v, w, rfl, g1, g2⟩ := pair_two g
    cases g1
    exact ⟨w, cv, b1, rfl, fun u r => hc.rel g2 r, h, qq F _ H (Same.refl F) hm' (.bl _)⟩⟩)
/-- .. one of several classes, written as a tuple -/
def rIsET (K : PySem.W.Frag) (D a : Addr) : List V → Hp → VK → Prop := fun xs H Q => ∃ (tp : Addr) (cs : List V) (us : List Value) (b : Bool), xs = [.ref a, .ref tp] ∧ H tp = some (.tup cs) ∧ Paired ClsV cs us ∧ PySem.W.kitAny K (.ref D) us = some b ∧ Q (.bl b) H
theorem call_isET {X : Cx} {a D : Addr} {oe : Obj} {pn : List (Addr × Obj)} (C : ExcC X.K D) (hz : Zc (.ref D) none oe) (hf : ∃ vs, oe.data = .fields vs) : CallR (X.suite a ((a, oe) :: pn)) (.builtin "isinstance") (rIsET X.K D a) := by
  intro pins s σ H xs us Q I r h
  obtain ⟨tp, cs, ws, b, rfl, hT, k, e, q⟩ := h
  obtain ⟨u1, u2, rfl, rx, rt⟩ := vals2 r
  cases rx
  cases (show u2 = Value.ref tp from rt)
  obtain ⟨_, its, rv, o, h1, h2, n, h3⟩ := (show ObjOk X.prog X.w H s.heap tp (.tup cs) from I.hok tp _ hT)
  have e3 := ClsV.all k rv
  subst e3
  obtain ⟨hget, _⟩ := I.pin (a, oe) (List.mem_append.mpr (.inl List.mem_cons_self))
  obtain ⟨vs, hv⟩ := hf
  have J : PySem.W.InstAt s.heap a oe D none := by
    obtain ⟨oc, od, oda, osl⟩ := oe
    obtain ⟨h1, h2⟩ := hz
    dsimp only at h1 h2 hv
    subst h1 h2 hv
    exact ⟨hget, rfl, rfl, trivial⟩
  obtain ⟨oc, od, dt, sl⟩ := o
  simp only at h2 h3
  subst h2 h3
  exact PySem.W.kia_tup (PySem.W.handS_kitx_exc C.hg C.hk C.hs C.hd C.ha C.hn C.ht C.hm) I.kIn J h1 e (fun z => nomatch z) fun tk => ⟨.bl b, H, I.kept (t' := tk) fun _ _ z => z, rfl, q⟩
/-- a tuple of classes, written as the second argument -/
theorem cls_pair {K : PySem.W.Frag} {F : Hp} : ∀ {vs : List V} {ss : List S} {us : List Value}, Paired (SR K F) vs ss → Paired ClS ss us → Paired ClsV vs us
  | _, _, _, .nil, .nil => .nil
  | _, _, _, .cons h t, .cons k r => .cons (by
      cases k with
      | ty n => cases h; exact .ty n
      | own C => cases h; exact .own C) (cls_pair t r)
theorem e_isET {X : Cx} {Er : WX} {Rx : Value → List S → MM → Prop} {q D : Addr} {oe : Obj} {pn : List (Addr × Obj)} {cvs : List Value} {ces : List Expr} {k : Nat} {tp : Pos} (C : ExcC X.K D) (hz : Zc (.ref D) none oe) (hf : ∃ vs, oe.data = .fields vs) (hg : Gl X "isinstance" := by rfl) (hm : X.mg "isinstance" = none)
    (h0 : EV ⟨X.suite q ((q, oe) :: pn), Er, Rx⟩ e γ M (.ob q) M1) (ha : EA ⟨X.suite q ((q, oe) :: pn), Er, Rx⟩ ces γ M1 ss M2) (hc : Paired ClS ss cvs) (h : PySem.W.kitAny X.K (.ref D) cvs = some b1) (hn : Nat.ble ss.length 100000 = true := by rfl)
    (he : starEach [e, .Tuple ces k tp] X.env = (false, eval e X.env) :: starEach [.Tuple ces k tp] X.env := by rfl) (he2 : starEach [.Tuple ces k tp] X.env = (false, eval (.Tuple ces k tp) X.env) :: starEach [] X.env := by rfl) (hpl : (backTo pos (starEach [.Tuple ces k tp] X.env)).any (·.1) = false := by rfl) :
    EV ⟨X.suite q ((q, oe) :: pn), Er, Rx⟩ (.Call (.Name "isinstance" p) [e, .Tuple ces k tp] [] pos) γ M (.d (.bool b1)) M2 :=
  ⟨PE.imp (pe_callB (X := X.suite q ((q, oe) :: pn)) (call_isET C hz hf) hg hm (by decide +kernel) (pa_cons h0.pe (pa_cons (pe_tup ha.pa) pa_nil he2) he) (by decide) (by decide) he hpl) fun σ H Q ⟨F, r, qq, ex⟩ => ⟨F, r, fun F1 v H1 e1 r1 v1 => ⟨F1, r1, fun F2 vs H2 e2 r2 v2 => by
    cases v1
    refine ⟨by rw [pair_len v2]; exact small hn, fun p hp => ?_⟩
    obtain ⟨e3, h3⟩ := r2.hm.newF hp (.tup vs)
    exact ⟨p, vs, cvs, b1, rfl, upd_same, cls_pair v2 hc, h, qq _ _ _ ((e1.trans e2).trans e3) (r2.ext e3 h3) (.bl _)⟩, ex.mono e1⟩, ex⟩⟩
end
theorem kit_own {K : PySem.W.Frag} {t : Value} {C : Addr} {b : Bool} (hne : (t == Value.ref C) = false ∨ b = true) (h1 : PySem.W.hasDictIn K C = true) (h2 : PySem.W.typeIn K (.ref C) = some (.type "type")) (h3 : PySem.W.subIn K t (.ref C) = some b) : PySem.W.kitOne K t (.ref C) = some b := by
  obtain ⟨cd, hc, _⟩ := PySem.W.any_some h1
  have e2 : ((PySem.W.clsIn K C).isSome && PySem.W.typeIn K (.ref C) == some (.type "type")) = true := by rw [hc, h2] <;> rfl
  unfold PySem.W.kitOne
  split
  · rename_i q
    rcases hne with z | z
    · rw [z] at q; cases q
    · rw [z]
  · show (if ((PySem.W.clsIn K C).isSome && PySem.W.typeIn K (.ref C) == some (.type "type")) = true then PySem.W.subIn K t (.ref C) else none) = some b
    rw [if_pos e2]
    exact h3
theorem kit_blt {K : PySem.W.Frag} {C : Addr} {n : String} {b : Bool} (h2 : PySem.W.kitMeta n = true) (h3 : PySem.W.subIn K (.ref C) (.type n) = some b) : PySem.W.kitOne K (.ref C) (.type n) = some b := by
  unfold PySem.W.kitOne
  rw [if_neg (show ¬ ((Value.ref C == Value.type n) = true) from fun z => nomatch z)]
  show (if PySem.W.kitMeta n = true then PySem.W.subIn K (.ref C) (.type n) else none) = some b
  rw [if_pos h2]
  exact h3
/-! ### the end -/
def lawC : Con := fun ss M R _ => ∃ ns : List Int, ss = [.d (.list (ns.map PyData.int))] ∧ ns.length ≤ 63 ∧ (∀ z ∈ ns, Builtin.Int.intBits z ≤ 1048576) ∧ ∀ M', R (.d (.bool true)) M'
theorem dps_ints {K : PySem.W.Frag} {H : Hp} : ∀ ns : List Int, DpAll K H (ns.map V.int) (ns.map PyData.int)
  | [] => .nil
  | n :: ns => .cons (.int n) (dps_ints ns)
theorem walkD {l : PySem.W.OpenLaw} {k : Nat} {q : Program} {loose : List Str} {XP : (Str → Option Value) → Heap → Prop} {YP : World → Heap → Prop} {d : DefRec} {K : Params → PySem.W.Frag} {x : Str}
    (hn : l.most = some 63) (hdf : d.params.defaults = []) (hr : Room k callerA) (hY : ∀ (w : World) (h : Heap), YP w h → (K w.params).In h)
    (F : ∀ (w : World) (mg : Str → Option Value) (fa : Addr) (h : Heap), (K w.params).In h → h.Ns mainGlobals mg → mg d.name = some (.ref fa) →
      ∃ fd : FuncData, (∀ (s : Shared) (u : Value), BindsTo s fd ⟨[u], []⟩ [(x, u)]) ∧ ∀ base : Heap, (K w.params).In base → base.Ns mainGlobals mg → FnOk l.prog w (K w.params) mg base (L2.CX l.prog w) k fa fd [x] (spD (K w.params) lawC)) :
    PySem.W.WalkO q loose XP YP l.row.toRowW d [] (fun f vs => PySem.call f vs) := by
  refine L2.walk_ofB (n := 63) (k := k) (x := x) (CX := fun w => L2.CX l.prog w) (sp := fun w => spD (K w.params) lawC) hn (by decide) hdf hr hY F (fun w H a ns hl hb _ hS => ?_) (fun w H s e s' z => ?_)
  · exact ⟨H, [], [.d (.list (ns.map PyData.int))], fun s _ => s = .d (.bool true), fun _ _ => False, .cons (.lst hS (dps_ints ns)) .nil, ⟨Same.refl H, fun _ _ z => (nomatch z), List.nodup_nil⟩, ⟨ns, rfl, hl, hb, fun _ => rfl⟩,
      fun F' v r M' H' _ _ sr hR => by subst hR; cases sr; rfl, fun _ _ _ _ _ _ z => z.elim⟩
  · obtain ⟨_, _, _, _, _, _, _, _, _, _, _, _, z⟩ := z
    exact z.elim
end Mi

/-! Mi: answers that are not told by one term; fractions. -/
namespace Mi
open PySem PySem.Spec PyProof.Rows L2
section
variable {Y : Ct} {γ γ' : List S} {M M1 M2 M3 : MM} {s s1 s2 s3 : S} {e a b c o it : Expr} {pos p p2 : Pos} {x : Str} {i j lo hi : Int} {b1 b2 : Bool} {es : List Expr} {ss : List S} {P : Po} {body : List Stmt} {tg : Expr}
/-- e comes to some s, the objects to some M', of which Q -/
def tEQ (Y : Ct) (γ : List S) (M : MM) (Q : S → MM → Prop) : TE := fun σ H R => ∃ F, Rl Y.X.K γ M F σ H ∧ (∀ F' v s M' H', Same F F' → Rl Y.X.K γ M' F' σ H' → SR Y.X.K F' v s → Q s M' → R v H') ∧ ExOk Y F
structure EQ (Y : Ct) (e : Expr) (γ : List S) (M : MM) (Q : S → MM → Prop) : Prop where
  pe : PE Y.X e (tEQ Y γ M Q)
variable {Q : S → MM → Prop}
theorem EV.q (h : EV Y e γ M s M1) (k : Q s M1) : EQ Y e γ M Q := ⟨PE.imp h.pe fun σ H R ⟨F, r, q, ex⟩ => ⟨F, r, fun F1 v H1 e1 r1 v1 => q F1 v s M1 H1 e1 r1 v1 k, ex⟩⟩
theorem EN.q {o : MO} (h : EN Y e γ M o M1) (k : ∀ q, Q (.ob q) (M1 ++ [(q, o)])) : EQ Y e γ M Q := ⟨PE.imp h.pe fun σ H R ⟨F, r, q, ex⟩ => ⟨F, r, fun F1 p H1 e1 r1 => q F1 _ (.ob p) _ H1 e1 r1 rfl (k p), ex⟩⟩
theorem q_call {k : Nat} {f : Addr} {fd : FuncData} {ps : List Str} {cn : Con} (G : FnOk Y.X.prog Y.X.w Y.X.K Y.X.mg Y.X.base (L2.CX Y.X.prog Y.X.w) k f fd ps (spD Y.X.K cn)) (hr : Room k Y.X.A) (hm : Y.X.mg x = some (.ref f)) (hk : PySem.W.keepIn Y.X.K (.ref f) = true) (hb : Binds Y.X.K fd ps [])
    (tk : Takes Y.X Y.Er) (ha : EA Y (e :: es) γ M ss M1) (h : cn ss M1 Q (fun cls M' => Y.Rx cls γ M')) (hg : Gl Y.X x := by rfl) (hdb : (x == ("__debug__" : Str)) = false := by decide)
    (he : starEach (e :: es) Y.X.env = (false, eval e Y.X.env) :: starEach es Y.X.env := by rfl) (hpl : (backTo pos (starEach es Y.X.env)).any (·.1) = false := by rfl) : EQ Y (.Call (.Name x p) (e :: es) [] pos) γ M Q :=
  ⟨PE.imp (pe_callS G hr hg hm hk hb (fun σ => passAt tk σ) ha.pa hdb he hpl) fun σ H R ⟨F, rl, q, ex⟩ => ⟨F, rl, fun F1 vs H1 e1 r1 v1 => by
    refine ⟨F1, M1, ss, _, _, v1, r1.hm, h, fun F' v r M' H' e2 h2 v2 hR => ?_, fun cls M' F' H' e2 h2 hR => ex cls γ M' F' σ H' (e1.trans e2) (r1.ext e2 h2) hR⟩
    exact q F' v r M' H' (e1.trans e2) (r1.ext e2 h2) v2 hR, ex⟩⟩
/-- .. its arguments such a one, alone -/
theorem q_call1 {k : Nat} {f : Addr} {fd : FuncData} {ps : List Str} {cn : Con} (G : FnOk Y.X.prog Y.X.w Y.X.K Y.X.mg Y.X.base (L2.CX Y.X.prog Y.X.w) k f fd ps (spD Y.X.K cn)) (hr : Room k Y.X.A) (hm : Y.X.mg x = some (.ref f)) (hk : PySem.W.keepIn Y.X.K (.ref f) = true) (hb : Binds Y.X.K fd ps [])
    (tk : Takes Y.X Y.Er) (ha : EQ Y e γ M fun s M1 => cn [s] M1 Q (fun cls M' => Y.Rx cls γ M')) (hg : Gl Y.X x := by rfl) (hdb : (x == ("__debug__" : Str)) = false := by decide)
    (he : starEach [e] Y.X.env = (false, eval e Y.X.env) :: starEach [] Y.X.env := by rfl) (hpl : (backTo pos (starEach [] Y.X.env)).any (·.1) = false := by rfl) : EQ Y (.Call (.Name x p) [e] [] pos) γ M Q :=
  ⟨PE.imp (pe_callS G hr hg hm hk hb (fun σ => passAt tk σ) (pa_cons ha.pe pa_nil he) hdb he hpl) fun σ H R ⟨F, rl, q, ex⟩ => ⟨F, rl, fun F1 v s1 M1 H1 e1 r1 v1 h1 => by
    refine ⟨F1, M1, [s1], _, _, .cons v1 .nil, r1.hm, h1, fun F' v r M' H' e2 h2 v2 hR => ?_, fun cls M' F' H' e2 h2 hR => ex cls γ M' F' σ H' (e1.trans e2) (r1.ext e2 h2) hR⟩
    exact q F' v r M' H' (e1.trans e2) (r1.ext e2 h2) v2 hR, ex⟩⟩
theorem s_setQ (i : Nat) {pos' : Pos} (hN : Y.X.N.Nodup) (h : EQ Y e γ M fun s M1 => P.nx (γ.set i s) M1) (hi : Y.X.N[i]? = some x := by rfl) (hx : Loc Y.X.env.scope x := by first | exact Or.inl rfl | exact Or.inr rfl)
    (hs : swapsWith e (some (.Name x pos')) pos.line Y.X.env = pure false := by rfl) (hf : Y.X.fn x = true ∨ Y.X.env.scope.names.lookup x = some .local := by first | exact .inl rfl | exact .inr rfl) : ST Y (.Assign [.Name x pos'] e pos) γ M P :=
  ⟨PS.imp (ps_set hN hi hx h.pe hs hf) fun D σ H ⟨F, r, q, ex⟩ => ⟨F, r, fun F1 v s M1 H1 e1 r1 v1 k => q.nx _ M1 F1 _ H1 e1 ⟨r1.hm, pair_set (sr_or v1) i r1.sl⟩ k, ex⟩⟩
theorem s_retQ (h : EQ Y e γ M P.rt) : ST Y (.Return (some e) pos) γ M P :=
  ⟨PS.imp (ps_ret h.pe) fun D σ H ⟨F, r, q, ex⟩ => ⟨F, r, fun F1 v s M1 H1 e1 r1 v1 k => q.rt s M1 F1 v H1 e1 r1.hm v1 k, ex⟩⟩
theorem s_exprQ (h : EQ Y e γ M fun _ M1 => P.nx γ M1) (hs : swapsWith e none pos.line Y.X.env = pure false := by rfl) : ST Y (.Expr e pos) γ M P :=
  ⟨PS.imp (ps_expr h.pe hs) fun D σ H ⟨F, r, q, ex⟩ => ⟨F, r, fun F1 v s M1 H1 e1 r1 v1 k => q.nx γ M1 F1 σ H1 e1 r1 k, ex⟩⟩
theorem s_asgQ {tg : Expr} (h : EQ Y e γ M fun s M1 => ∃ γ', GT Y tg γ s M1 γ' ∧ P.nx γ' M1) (hs : swapsWithSole [tg] e pos.line Y.X.env = pure false := by rfl) (hw : swappedStores [tg] e Y.X.env = pure none := by rfl)
    (h1 : (assignEach [tg] Y.X.env).map (·.2) = [assign tg Y.X.env] := by rfl) : ST Y (.Assign [tg] e pos) γ M P :=
  ⟨PS.imp (ps_asg h.pe uG_ok hs hw h1) fun D σ H ⟨F, r, qq, ex⟩ => ⟨F, r, fun F1 v s M1 H1 e1 r1 v1 ⟨γ', g, k⟩ => by
    obtain ⟨gg, p, q⟩ := g.ex
    exact ⟨gg, p, q F1 σ H1 v _ r1 v1 fun σ' r' => qq.nx γ' M1 F1 σ' H1 e1 r' k⟩, ex⟩⟩
end

/-- objects that are asked no more -/
theorem HM.sub {K : PySem.W.Frag} {F H : Hp} {M M' : MM} (h : HM K F M H) (l : M'.Sublist M) : HM K F M' H := ⟨h.fh, fun a o z => h.mo a o (l.subset z), (l.map (·.1)).nodup h.nd⟩
theorem b_gc {Y : Ct} {γ : List S} {M M' : MM} {sts : List Stmt} {P : Po} (l : M'.Sublist M) (h : BL Y sts γ M' P) : BL Y sts γ M P := ⟨PSs.imp h.ps fun D σ H ⟨F, r, q, ex⟩ => ⟨F, ⟨r.hm.sub l, r.sl⟩, q, ex⟩⟩
theorem pow_ok {i j : Int} (h : (decide (0 ≤ j) && decide (j ≤ 1000000) && decide (i.natAbs < 18446744073709551616)) = true := by decide) : CPow i j := by
  simp only [Bool.and_eq_true, decide_eq_true_eq] at h
  exact ⟨h.1.1, h.1.2, h.2⟩
/-! ### fractions -/
def fr (q : Rat) : PyData := .tuple [.int q.num, .int q.den]
/-- at most so many bits above and below -/
def Fb (n : Nat) (q : Rat) : Prop := q.num.natAbs < 2 ^ n ∧ q.den < 2 ^ n
theorem p2_pos (n : Nat) : 0 < 2 ^ n := Nat.pow_pos (by decide)
theorem p2_le {n m : Nat} (h : n ≤ m) : 2 ^ n ≤ 2 ^ m := Nat.pow_le_pow_right (by decide) h
theorem Fb.mono {n m : Nat} {q : Rat} (h : Fb n q) (k : n ≤ m) : Fb m q := ⟨Nat.lt_of_lt_of_le h.1 (p2_le k), Nat.lt_of_lt_of_le h.2 (p2_le k)⟩
theorem Fb.pos {n : Nat} {q : Rat} (h : Fb n q) : 0 < n := by
  rcases Nat.eq_zero_or_pos n with e | e
  · subst e
    have h1 := h.2
    have h2 := q.den_pos
    simp at h1
    omega
  · exact e
theorem div_le_self' (a g : Nat) : a / g ≤ a := Nat.div_le_self a g
theorem fb_divInt {a b : Int} {n : Nat} (ha : a.natAbs < 2 ^ n) (hb : b.natAbs < 2 ^ n) (h1 : 1 < 2 ^ n) : Fb n (Rat.divInt a b) := by
  constructor
  · rw [Rat.num_divInt]
    refine Nat.lt_of_le_of_lt ?_ ha
    have : (b.sign * a / (b.gcd a : Int)).natAbs ≤ (b.sign * a).natAbs := Int.natAbs_ediv_le_natAbs _ _
    refine Nat.le_trans this ?_
    rw [Int.natAbs_mul, Int.natAbs_sign]
    split <;> simp
  · rw [Rat.den_divInt]
    split
    · exact h1
    · exact Nat.lt_of_le_of_lt (Nat.div_le_self _ _) hb
theorem mul_lt_p2 {a b n m : Nat} (ha : a < 2 ^ n) (hb : b < 2 ^ m) : a * b < 2 ^ (n + m) := by
  rw [Nat.pow_add]
  exact Nat.mul_lt_mul'' ha hb
theorem add_eq_divInt (x y : Rat) : x + y = Rat.divInt (x.num * y.den + y.num * x.den) ((x.den : Int) * y.den) := by
  rw [Rat.add_def', ← Int.natCast_mul, Rat.divInt_ofNat]
theorem sub_eq_divInt (x y : Rat) : x - y = Rat.divInt (x.num * y.den - y.num * x.den) ((x.den : Int) * y.den) := by
  rw [Rat.sub_def', ← Int.natCast_mul, Rat.divInt_ofNat]
theorem mul_eq_divInt (x y : Rat) : x * y = Rat.divInt (x.num * y.num) ((x.den : Int) * y.den) := by
  rw [Rat.mul_def', ← Int.natCast_mul, Rat.divInt_ofNat]
theorem div_eq_divInt (x y : Rat) : x / y = Rat.divInt (x.num * y.den) (x.den * y.num) := by
  rw [Rat.div_def, Rat.inv_def]
  conv => lhs; rw [← Rat.num_divInt_den x]
  rw [Rat.divInt_mul_divInt]
theorem natAbs_add_lt {a b : Int} {n : Nat} (ha : a.natAbs < 2 ^ n) (hb : b.natAbs < 2 ^ n) : (a + b).natAbs < 2 ^ (n + 1) := by
  rw [Nat.pow_succ]; omega
theorem natAbs_sub_lt {a b : Int} {n : Nat} (ha : a.natAbs < 2 ^ n) (hb : b.natAbs < 2 ^ n) : (a - b).natAbs < 2 ^ (n + 1) := by
  rw [Nat.pow_succ]; omega
theorem im_lt {a b : Int} {n m : Nat} (ha : a.natAbs < 2 ^ n) (hb : b.natAbs < 2 ^ m) : (a * b).natAbs < 2 ^ (n + m) := by
  rw [Int.natAbs_mul]; exact mul_lt_p2 ha hb
theorem nd_lt {q : Rat} {n : Nat} (h : Fb n q) : ((q.den : Int)).natAbs < 2 ^ n := by
  rw [Int.natAbs_natCast]; exact h.2
theorem one_lt_p2 {n : Nat} (h : 0 < n) : 1 < 2 ^ n := by
  have := p2_le (n := 1) (m := n) h
  omega
theorem fb_add {x y : Rat} {n m : Nat} (hx : Fb n x) (hy : Fb m y) : Fb (n + m + 1) (x + y) := by
  rw [add_eq_divInt]
  refine fb_divInt (natAbs_add_lt (im_lt hx.1 (nd_lt hy)) ?_) (Nat.lt_of_lt_of_le (im_lt (nd_lt hx) (nd_lt hy)) (p2_le (Nat.le_succ _))) (one_lt_p2 (Nat.succ_pos _))
  rw [Nat.add_comm n m]
  exact im_lt hy.1 (nd_lt hx)
theorem fb_sub {x y : Rat} {n m : Nat} (hx : Fb n x) (hy : Fb m y) : Fb (n + m + 1) (x - y) := by
  rw [sub_eq_divInt]
  refine fb_divInt (natAbs_sub_lt (im_lt hx.1 (nd_lt hy)) ?_) (Nat.lt_of_lt_of_le (im_lt (nd_lt hx) (nd_lt hy)) (p2_le (Nat.le_succ _))) (one_lt_p2 (Nat.succ_pos _))
  rw [Nat.add_comm n m]
  exact im_lt hy.1 (nd_lt hx)
theorem fb_mul {x y : Rat} {n m : Nat} (hx : Fb n x) (hy : Fb m y) : Fb (n + m) (x * y) := by
  rw [mul_eq_divInt]
  exact fb_divInt (im_lt hx.1 hy.1) (im_lt (nd_lt hx) (nd_lt hy)) (one_lt_p2 (Nat.add_pos_left hx.pos _))
theorem fb_div {x y : Rat} {n m : Nat} (hx : Fb n x) (hy : Fb m y) : Fb (n + m) (x / y) := by
  rw [div_eq_divInt]
  exact fb_divInt (im_lt hx.1 (nd_lt hy)) (im_lt (nd_lt hx) hy.1) (one_lt_p2 (Nat.add_pos_left hx.pos _))
theorem fb_neg {x : Rat} {n : Nat} (hx : Fb n x) : Fb n (-x) := ⟨by rw [Rat.neg_num, Int.natAbs_neg]; exact hx.1, hx.2⟩
/-! the division by the common part -/
theorem fdiv_dvd {a g : Int} (h : g ∣ a) : a.fdiv g = a / g := by
  rw [Int.fdiv_eq_ediv]
  simp [h]
theorem low_num {a b : Int} (hb : b ≠ 0) : a.fdiv (if b < 0 then 0 - (Int.gcd a b : Int) else (Int.gcd a b : Int)) = (Rat.divInt a b).num := by
  rw [Rat.num_divInt, Int.gcd_comm b a]
  split
  · rename_i h
    rw [Int.zero_sub, fdiv_dvd (Int.neg_dvd.mpr (Int.gcd_dvd_left ..)), Int.sign_eq_neg_one_of_neg h, Int.ediv_neg, Int.neg_mul, Int.one_mul, Int.neg_ediv_of_dvd (Int.gcd_dvd_left ..)]
  · rename_i h
    rw [fdiv_dvd (Int.gcd_dvd_left ..), Int.sign_eq_one_of_pos (by omega), Int.one_mul]
theorem low_den {a b : Int} (hb : b ≠ 0) : b.fdiv (if b < 0 then 0 - (Int.gcd a b : Int) else (Int.gcd a b : Int)) = ((Rat.divInt a b).den : Int) := by
  rw [Rat.den_divInt, if_neg hb, Int.gcd_comm b a]
  split
  · rename_i h
    rw [Int.zero_sub, fdiv_dvd (Int.neg_dvd.mpr (Int.gcd_dvd_right ..)), Int.ediv_neg, Int.natCast_ediv, ← Int.neg_ediv_of_dvd (Int.gcd_dvd_right ..)]
    congr 1
    omega
  · rename_i h
    rw [fdiv_dvd (Int.gcd_dvd_right ..), Int.natCast_ediv]
    congr 1
    omega
theorem gcd_step {a b : Int} (ha : 0 ≤ a) (h : 0 < b) : Int.gcd b (a % b) = Int.gcd a b := by
  obtain ⟨m, rfl⟩ := Int.eq_ofNat_of_zero_le ha
  obtain ⟨n, rfl⟩ := Int.eq_ofNat_of_zero_le (Int.le_of_lt h)
  show Nat.gcd _ _ = Nat.gcd _ _
  rw [← Int.natCast_emod]
  simp only [Int.natAbs_natCast]
  rw [Nat.gcd_comm n, ← Nat.gcd_rec, Nat.gcd_comm]
end Mi

/-! Mi: lists put together, slices. -/
namespace Mi
open PySem PySem.Spec PyProof.Rows L2
section
variable {X : Cx}
/-- list + list, whatever lists -/
def rCatL (K : PySem.W.Frag) : R2 := fun x y H Q => ∃ l b xs zs, x = .ref l ∧ y = .ref b ∧ SqL K H l xs ∧ SqL K H b zs ∧ xs.length + zs.length ≤ sizeLine ∧ ∀ p, H p = none → Q (.ref p) (upd H p (.lst (xs ++ zs)))
theorem op_catL : OpR X (binaryOp .Add) (rCatL X.K) := by
  intro pins s σ H x y v u Q I rx ry h
  obtain ⟨l, b, xs, zs, rfl, rfl, hH, hB, hz, q⟩ := h
  cases rx
  cases ry
  obtain ⟨its, r, p1, z1⟩ := I.list hH
  obtain ⟨its2, r2, p2, z2⟩ := I.list hB
  obtain ⟨⟨cls, dd, data, sl⟩, ho, hc, n, hd⟩ := p1.isList
  obtain ⟨⟨cls2, dd2, data2, sl2⟩, ho2, hc2, n2, hd2⟩ := p2.isList
  simp only at hc hd hc2 hd2
  subst hc hd hc2 hd2
  have e : its.toArray ++ its2.toArray = (its ++ its2).toArray := by simp
  refine concat_meets ⟨_, ho, rfl⟩ ⟨_, ho2, rfl⟩ noFill_list_add seq_list_add PySem.F.slot_list_add PySem.F.entry_list_add (PySem.F.args_list_add_2 _ _)
    (list_addW l b its.toArray its2.toArray n n2 dd dd2 sl sl2 (by rw [List.size_toArray, List.size_toArray, ← r.length, ← r2.length]; exact hz)) ⟨ho, ho2, ?_⟩
  rw [e]
  exact ⟨.ref _, _, I.lnew (t' := s.toks) (r.append r2) (by rw [List.length_append]; omega), rfl, q _ I.fresh⟩
end
section
variable {Y : Ct} {γ γ' : List S} {M M1 M2 M3 : MM} {s s1 s2 s3 : S} {e a b c o it : Expr} {pos p p2 : Pos} {x : Str} {i j lo hi : Int} {b1 b2 : Bool} {es : List Expr} {ss : List S} {P : Po} {body : List Stmt} {tg : Expr}
theorem EV.gc (h : EV Y e γ M s M1) (l : M2.Sublist M1) : EV Y e γ M s M2 := ⟨PE.imp h.pe fun σ H Q ⟨F, r, q, ex⟩ => ⟨F, r, fun F1 v H1 e1 r1 v1 => q F1 v H1 e1 ⟨r1.hm.sub l, r1.sl⟩ v1, ex⟩⟩
theorem ET.gc (h : ET Y e γ M b1 M1) (l : M2.Sublist M1) : ET Y e γ M b1 M2 := ⟨PT.imp h.pt fun σ H Q ⟨F, r, q, ex⟩ => ⟨F, r, fun F1 H1 e1 r1 => q F1 H1 e1 ⟨r1.hm.sub l, r1.sl⟩, ex⟩⟩
/-- a list seen as its items -/
inductive VL (M : MM) : S → List S → Prop where
  | d {xs : List PyData} : VL M (.d (.list xs)) (xs.map S.d)
  | l {k : Nat} {p : Addr} {xs : List S} (h : M[k]? = some (p, .lst xs)) : VL M (.ob p) xs
theorem VL.ok {K : PySem.W.Frag} {F H : Hp} {v : V} {xs : List S} (h : VL M s xs) (hm : HM K F M H) (r : SR K F v s) : ∃ a vs, v = .ref a ∧ SqL K H a vs ∧ Paired (SR K F) vs xs := by
  cases h with
  | d => cases r with | lst h1 h2 => exact ⟨_, _, rfl, hm.fh.seq h1, d_all h2⟩
  | l hk =>
    obtain ⟨_, vs, h1, h2⟩ := hm.mo _ _ (List.mem_of_getElem? hk)
    cases r
    exact ⟨_, vs, rfl, .of h1, h2⟩
/-- a new list -/
theorem n_cat {xs zs : List S} (ha : EV Y a γ M s1 M1) (hb : EV Y b γ M1 s2 M2) (v1 : VL M2 s1 xs) (v2 : VL M2 s2 zs) (hl : xs.length + zs.length ≤ 100000) : EN Y (.BinOp a .Add b pos) γ M (.lst (xs ++ zs)) M2 :=
  ⟨PE.imp (pe_op op_catL ha.pe hb.pe) fun σ H Q ⟨F, rl, q, ex⟩ => ⟨F, rl, fun F1 v H1 e1 r1 w1 => ⟨F1, r1, fun F2 w H2 e2 r2 w2 => by
    obtain ⟨l, vs, rfl, h1, h2⟩ := v1.ok r2.hm (w1.mono e2)
    obtain ⟨b, us, rfl, h3, h4⟩ := v2.ok r2.hm w2
    refine ⟨l, b, vs, us, rfl, rfl, h1, h3, by rw [pair_len h2, pair_len h4]; exact Nat.le_trans hl (by decide), fun p hp => ?_⟩
    have h5 := r2.hm.newM hp (o := .lst (vs ++ us)) (m := .lst (xs ++ zs)) ⟨_, upd_same, pair_app h2 h4⟩
    exact q F2 p _ (e1.trans e2) ⟨h5, r2.sl⟩, ex.mono e1⟩, ex⟩⟩
/-- lists of data put together, not changed any more -/
theorem e_cat {xs zs : List PyData} (ha : EV Y a γ M (.d (.list xs)) M1) (hb : EV Y b γ M1 (.d (.list zs)) M2) (hl : xs.length + zs.length ≤ 100000) : EV Y (.BinOp a .Add b pos) γ M (.d (.list (xs ++ zs))) M2 :=
  e_frz (by rw [List.map_append]; exact n_cat ha hb .d .d (by rw [List.length_map, List.length_map]; exact hl))
/-! ### slices -/
structure EO (Y : Ct) (e : Option Expr) (γ : List S) (M : MM) (i : Option Int) : Prop where
  ex : ∃ t, PO Y.X e t ∧ ∀ F σ H (Q : Option Int → Hp → Prop), Rl Y.X.K γ M F σ H → ExOk Y F → (∀ F' H', Same F F' → Rl Y.X.K γ M F' σ H' → Q i H') → t σ H Q
theorem o_none : EO Y none γ M none := ⟨_, po_none, fun F σ H Q r ex q => q F H (Same.refl F) r⟩
theorem o_some (h : EV Y e γ M (.d (.int i)) M) : EO Y (some e) γ M (some i) := ⟨_, po_some h.pe, fun F σ H Q r ex q => ⟨F, r, fun F1 v H1 e1 r1 v1 => by cases v1; exact ⟨i, rfl, q F1 H1 e1 r1⟩, ex⟩⟩
def cutL {α : Type} (xs : List α) (lo hi : Option Int) : List α := (xs.drop (HT.sIx xs.length 0 lo)).take (HT.sIx xs.length xs.length hi - HT.sIx xs.length 0 lo)
theorem pair_take {α β : Type} {R : α → β → Prop} : ∀ {xs : List α} {ys : List β} (n : Nat), Paired R xs ys → Paired R (xs.take n) (ys.take n)
  | _, _, 0, _ => .nil
  | _, _, _ + 1, .nil => .nil
  | _, _, n + 1, .cons r t => .cons r (pair_take n t)
theorem pair_drop {α β : Type} {R : α → β → Prop} : ∀ {xs : List α} {ys : List β} (n : Nat), Paired R xs ys → Paired R (xs.drop n) (ys.drop n)
  | _, _, 0, r => r
  | _, _, _ + 1, .nil => .nil
  | _, _, n + 1, .cons _ t => pair_drop n t
theorem pair_cut {R : V → S → Prop} {xs : List V} {ys : List S} {l h : Option Int} (r : Paired R xs ys) : Paired R (cutV xs l h) (cutL ys l h) := by
  unfold cutV cutL
  rw [pair_len r]
  exact pair_take _ (pair_drop _ r)
theorem n_slice {xs : List S} {lo hi : Option Expr} {l h : Option Int} (ha : EV Y a γ M s M1) (v1 : VL M1 s xs) (h1 : EO Y lo γ M1 l) (h2 : EO Y hi γ M1 h) : EN Y (.Subscript a (.Slice lo hi none p2) pos) γ M (.lst (cutL xs l h)) M1 := by
  obtain ⟨tl, pl, ql⟩ := h1.ex
  obtain ⟨th, ph, qh⟩ := h2.ex
  refine ⟨PE.imp (pe_slice sl_list ha.pe pl ph) fun σ H Q ⟨F, r, q, ex⟩ => ⟨F, r, fun F1 v H1 e1 r1 w1 => ql F1 σ H1 _ r1 (ex.mono e1) fun F2 H2 e2 r2 => qh F2 σ H2 _ r2 (ex.mono (e1.trans e2)) fun F3 H3 e3 r3 => ?_, ex⟩⟩
  obtain ⟨a, vs, rfl, g1, g2⟩ := v1.ok r3.hm (w1.mono (e2.trans e3))
  refine ⟨a, vs, rfl, g1, fun p hp => ?_⟩
  have h5 := r3.hm.newM hp (o := .lst (cutV vs l h)) (m := .lst (cutL xs l h)) ⟨_, upd_same, pair_cut g2⟩
  exact q F3 p _ ((e1.trans e2).trans e3) ⟨h5, r3.sl⟩
theorem cutL_map {α β : Type} (f : α → β) (xs : List α) (l h : Option Int) : cutL (xs.map f) l h = (cutL xs l h).map f := by
  unfold cutL
  rw [List.length_map, List.map_take, List.map_drop]
theorem e_slice {xs : List PyData} {lo hi : Option Expr} {l h : Option Int} (ha : EV Y a γ M (.d (.list xs)) M1) (h1 : EO Y lo γ M1 l) (h2 : EO Y hi γ M1 h) : EV Y (.Subscript a (.Slice lo hi none p2) pos) γ M (.d (.list (cutL xs l h))) M1 :=
  e_frz (by rw [← cutL_map]; exact n_slice ha .d h1 h2)
end
end Mi

/-! Mi: is of truths; small things. -/
namespace Mi
open PySem PySem.Spec PyProof.Rows L2
section
variable {Y : Ct} {γ γ' : List S} {M M1 M2 M3 : MM} {s s1 s2 s3 : S} {e a b c o it : Expr} {pos p p2 : Pos} {x : Str} {i j lo hi : Int} {b1 b2 : Bool} {es : List Expr} {ss : List S} {P : Po} {body : List Stmt} {tg : Expr}
theorem rv_isB {K : PySem.W.Frag} : RV K rIsB (.d (.bool b1)) (.d (.bool b2)) M (.d (.bool (b1 == b2))) M := ⟨fun F v w H Q hm h1 h2 q => by
  cases h1; cases h2
  exact ⟨b1, b2, rfl, rfl, q F _ H (Same.refl F) hm (.bl _)⟩⟩
theorem rv_notB {K : PySem.W.Frag} : RV K rNotB (.d (.bool b1)) (.d (.bool b2)) M (.d (.bool (!(b1 == b2)))) M := ⟨fun F v w H Q hm h1 h2 q => by
  cases h1; cases h2
  exact ⟨b1, b2, rfl, rfl, q F _ H (Same.refl F) hm (.bl _)⟩⟩
theorem t_isB (ha : EV Y a γ M (.d (.bool b1)) M1) (hb : EV Y b γ M1 (.d (.bool b2)) M2) : ET Y (.Compare a [.Is] [b] pos) γ M (b1 == b2) M2 := t_bin (fun h1 h2 => pt_cmpR op_isBl h1 h2 (nomark _)) ha hb rv_isB
theorem t_notB (ha : EV Y a γ M (.d (.bool b1)) M1) (hb : EV Y b γ M1 (.d (.bool b2)) M2) : ET Y (.Compare a [.IsNot] [b] pos) γ M (!(b1 == b2)) M2 := t_bin (fun h1 h2 => pt_cmpR op_notBl h1 h2 (nomark _)) ha hb rv_notB
theorem e_isB (ha : EV Y a γ M (.d (.bool b1)) M1) (hb : EV Y b γ M1 (.d (.bool b2)) M2) : EV Y (.Compare a [.Is] [b] pos) γ M (.d (.bool (b1 == b2))) M2 := e_bin (f := fun _ _ => pure .none) (fun h1 h2 => pe_cmpR op_isBl h1 h2 (nomark _)) ha hb rv_isB
theorem e_notB (ha : EV Y a γ M (.d (.bool b1)) M1) (hb : EV Y b γ M1 (.d (.bool b2)) M2) : EV Y (.Compare a [.IsNot] [b] pos) γ M (.d (.bool (!(b1 == b2)))) M2 := e_bin (f := fun _ _ => pure .none) (fun h1 h2 => pe_cmpR op_notBl h1 h2 (nomark _)) ha hb rv_notB
end
end Mi

/-! Mi: comprehensions over one name. -/
namespace Mi
open PySem PySem.Spec PyProof.Rows L2
/-- all readings at once, for a comprehension's block -/
def uEb (X : Cx) (scope : Scope) (e : Expr) : TE := fun σ H Q => ∃ t, (∀ (s : Shared) (H : Hp) (C : Addr) (cl : List (Str × Addr)) (fp : List Addr), PE (X.blk s H scope (compEnvC scope cl C X.env) fp) e t) ∧ t σ H Q
def uTb (X : Cx) (scope : Scope) (es : List Expr) : TT := fun σ H Q => ∃ t, (∀ (s : Shared) (H : Hp) (C : Addr) (cl : List (Str × Addr)) (fp : List Addr), PTs (X.blk s H scope (compEnvC scope cl C X.env) fp) es t) ∧ t σ H Q
theorem uEb_ok {X : Cx} {scope : Scope} {e : Expr} (s : Shared) (H : Hp) (C : Addr) (cl : List (Str × Addr)) (fp : List Addr) : PE (X.blk s H scope (compEnvC scope cl C X.env) fp) e (uEb X scope e) :=
  ⟨fun pins s1 σ H1 Q I ⟨t, h, q⟩ => (h s H C cl fp).run pins s1 σ H1 Q I q⟩
theorem uTb_ok {X : Cx} {scope : Scope} {es : List Expr} (s : Shared) (H : Hp) (C : Addr) (cl : List (Str × Addr)) (fp : List Addr) : PTs (X.blk s H scope (compEnvC scope cl C X.env) fp) es (uTb X scope es) :=
  ⟨fun pins s1 σ H1 Q I ⟨t, h, q⟩ => (h s H C cl fp).run pins s1 σ H1 Q I q⟩
/-- where an element of a comprehension stands -/
abbrev Ct.blk (Y : Ct) (scope : Scope) (s : Shared) (H : Hp) (C : Addr) (cl : List (Str × Addr)) (fp : List Addr) : Ct := ⟨Y.X.blk s H scope (compEnvC scope cl C Y.X.env) fp, fun _ _ _ _ => False, fun _ _ _ => False⟩
abbrev Ct.un (Y : Ct) : Ct := ⟨Y.X, fun _ _ _ _ => False, fun _ _ _ => False⟩
section
variable {Y : Ct} {γ γ' : List S} {M M1 M2 M3 : MM} {s s1 s2 s3 : S} {e elt it tg : Expr} {pos p p2 : Pos} {x : Str} {i j lo hi : Int} {b1 b2 : Bool} {es ifs : List Expr} {ss xs : List S} {P : Po} {scope : Scope}
/-- what the slot holds at a turn -/
def compG (γ : List S) (j : Nat) (x : S) : List S := (γ.set j .no).set j x
theorem comp_core (j : Nat) {n : Str} {Sd : MM → Prop} {wi : TI} {J : It} {F1 F : Hp} {σ : L2.St} {H1 : Hp} {Qd : V → Hp → Prop} (hj : j < σ.length)
    (Iv : Nat → MM → List S → Prop) (h0 : Iv 0 M1 []) (hS : ∀ i M' acc, Iv i M' acc → acc.length ≤ 99999 ∧ ∀ D, Sd (M' ++ [(D, .lst acc)]))
    (turn : ∀ (i : Nat) x M' acc (D : Addr), xs[i]? = some x → Iv i M' acc → ∃ b M2, (∀ s H C cl fp, PTs (Y.blk scope s H C cl fp).X ifs (tET Y.un (compG γ j x) (M' ++ [(D, .lst acc)]) b (M2 ++ [(D, .lst acc)]))) ∧
      (b = true → ∀ s H C cl fp, EQ (Y.blk scope s H C cl fp) elt (compG γ j x) (M2 ++ [(D, .lst acc)]) fun y M3 => ∃ M4, M3 = M4 ++ [(D, .lst acc)] ∧ Iv (i + 1) M4 (acc ++ [y])) ∧ (b = false → Iv (i + 1) M2 acc))
    (e1 : Same F F1) (r1 : Rl Y.X.K γ M1 F1 σ H1) (Wk : Walks Y.X.K J F1 xs Sd) (ex : ExOk Y F) (done : ∀ F' D M' acc H', Same F F' → Rl Y.X.K γ (M' ++ [(D, .lst acc)]) F' σ H' → Iv xs.length M' acc → Qd (.ref D) H') :
    ∀ D, H1 D = none → ∃ W : Nat → Nat → Hp → Prop, (∃ m, W 0 m (upd H1 D (.lst []))) ∧ ∀ i m H, W i m H →
      (J.stop i H ∧ Qd (.ref D) H) ∨ (J.go i H ∧ ∃ Nx : Hp → Prop, (∀ H', Nx H' → ∃ m', m' < m ∧ W (i + 1) m' H') ∧ ∀ x H', J.yld i H x H' → gName j x (wipe σ [j]) H' fun σ2 H2 => wipe σ2 [j] = wipe σ [j] ∧ uTb Y.X scope ifs σ2 H2 fun b H3 =>
        if b = true then uEb Y.X scope elt σ2 H3 fun y H4 => ∃ acc, H4 D = some (.lst acc) ∧ acc.length < sizeLine ∧ Nx (upd H4 D (.lst (acc ++ [y]))) else Nx H3) := by
  intro D hD
  have r0 : Rl Y.X.K γ (M1 ++ [(D, .lst [])]) F1 σ (upd H1 D (.lst [])) := ⟨r1.hm.newM hD ⟨[], upd_same, .nil⟩, r1.sl⟩
  refine ⟨fun i m H' => m = xs.length - i ∧ i ≤ xs.length ∧ ∃ M' acc F', Iv i M' acc ∧ Same F1 F' ∧ Rl Y.X.K γ (M' ++ [(D, .lst acc)]) F' σ H', ⟨xs.length, by simp, Nat.zero_le _, M1, [], F1, h0, Same.refl F1, r0⟩, ?_⟩
  rintro i m H' ⟨rfl, hi, M', acc, F', w, e2, r2⟩
  obtain ⟨hacc, hSd⟩ := hS i M' acc w
  by_cases hlt : i < xs.length
  · refine .inr ⟨Wk.go i H' F' _ e2 r2.hm (hSd D) hlt, fun H3 => ∃ M' acc F', Iv (i + 1) M' acc ∧ Same F1 F' ∧ Rl Y.X.K γ (M' ++ [(D, .lst acc)]) F' σ H3, fun H3 z => ⟨xs.length - (i + 1), by omega, rfl, hlt, z⟩, fun v H'' y => ?_⟩
    obtain ⟨x, hx⟩ : ∃ x, xs[i]? = some x := ⟨xs[i], by simp [hlt]⟩
    obtain ⟨F2, e3, r3, sv⟩ := Wk.yld i H' v H'' x F' γ _ σ hx e2 r2 (hSd D) y
    obtain ⟨b, M2, ht, hyes, hno⟩ := turn i x M' acc D hx w
    have hw : wipe ((wipe σ [j]).set j (some v)) [j] = wipe σ [j] := by
      show (((σ.set j none)).set j (some v)).set j none = σ.set j none
      rw [List.set_set, List.set_set]
    have back : ∀ {F' M' H'}, Same F2 F' → Rl Y.X.K (compG γ j x) M' F' ((wipe σ [j]).set j (some v)) H' → Rl Y.X.K γ M' F' σ H' := fun {F' M' H'} e r => ⟨r.hm, sl_mono e r3.sl⟩
    have r4 : Rl Y.X.K (compG γ j x) (M' ++ [(D, .lst acc)]) F2 ((wipe σ [j]).set j (some v)) H'' := ⟨r3.hm, pair_set (sr_or sv) j (pair_set (R := OR Y.X.K F2) (y := S.no) trivial j r3.sl)⟩
    refine ⟨hw, tET ⟨Y.X, fun _ _ _ _ => False, fun _ _ _ => False⟩ (compG γ j x) (M' ++ [(D, MO.lst acc)]) b (M2 ++ [(D, MO.lst acc)]), fun s H C cl fp => ht s H C cl fp, F2, r4, fun F3 H3 e4 r5 => ?_, fun _ _ _ _ _ _ _ _ z => z.elim⟩
    cases b with
    | true =>
      refine iteT ?_
      refine ⟨tEQ ⟨Y.X, fun _ _ _ _ => False, fun _ _ _ => False⟩ (compG γ j x) (M2 ++ [(D, MO.lst acc)]) (fun y M3 => ∃ M4, M3 = M4 ++ [(D, MO.lst acc)] ∧ Iv (i + 1) M4 (acc ++ [y])), fun s H C cl fp => (hyes rfl s H C cl fp).pe, F3, r5, fun F4 y' s' M5 H4 e5 r6 sy ⟨M4, e6, w4⟩ => ?_, fun _ _ _ _ _ _ _ _ z => z.elim⟩
      subst e6
      have hk : (M4 ++ [(D, MO.lst acc)])[M4.length]? = some (D, .lst acc) := by simp
      obtain ⟨_, vs, g1, g2⟩ := r6.hm.mo _ _ (List.mem_of_getElem? hk)
      refine ⟨vs, g1, by rw [pair_len g2]; exact Nat.lt_of_le_of_lt hacc (by decide), M4, acc ++ [s'], F4, w4, ((e2.trans e3).trans e4).trans e5, ?_⟩
      have hM := r6.hm.setM hk (o := .lst (vs ++ [y'])) (m := .lst (acc ++ [s'])) ⟨_, upd_same, pair_app g2 (.cons sy .nil)⟩
      have eM : (M4 ++ [(D, MO.lst acc)]).set M4.length (D, MO.lst (acc ++ [s'])) = M4 ++ [(D, MO.lst (acc ++ [s']))] := by simp
      rw [eM] at hM
      exact ⟨hM, (back (e4.trans e5) r6).sl⟩
    | false =>
      refine iteF ?_
      exact ⟨M2, acc, F3, hno rfl, (e2.trans e3).trans e4, back e4 r5⟩
  · have hil : i = xs.length := by omega
    subst hil
    exact .inl ⟨Wk.stop _ H' F' _ e2 r2.hm (hSd D) (Nat.le_refl _), done F' D M' acc H' (e1.trans e2) r2 w⟩
/-- [elt for x in it if ifs], in general: the word Iv of the turn, the objects, what is made so far -/
theorem q_comp (j : Nat) {n : Str} {Sd : MM → Prop} {Q : S → MM → Prop} {cpos : Pos} (hc : Y.X.calm = true) (hN : Y.X.N.Nodup) (hI : EI Y (.Name n p) it γ M xs Sd M1) (ok : BlkOk Y.X.N Y.X.env.scope scope [(n, j)]) (hj : j < γ.length)
    (Iv : Nat → MM → List S → Prop) (h0 : Iv 0 M1 []) (hS : ∀ i M' acc, Iv i M' acc → acc.length ≤ 99999 ∧ ∀ D, Sd (M' ++ [(D, .lst acc)]))
    (turn : ∀ (i : Nat) x M' acc (D : Addr), xs[i]? = some x → Iv i M' acc → ∃ b M2, (∀ s H C cl fp, PTs (Y.blk scope s H C cl fp).X ifs (tET Y.un (compG γ j x) (M' ++ [(D, .lst acc)]) b (M2 ++ [(D, .lst acc)]))) ∧
      (b = true → ∀ s H C cl fp, EQ (Y.blk scope s H C cl fp) elt (compG γ j x) (M2 ++ [(D, .lst acc)]) fun y M3 => ∃ M4, M3 = M4 ++ [(D, .lst acc)] ∧ Iv (i + 1) M4 (acc ++ [y])) ∧ (b = false → Iv (i + 1) M2 acc))
    (done : ∀ D M' acc, Iv xs.length M' acc → Q (.ob D) (M' ++ [(D, .lst acc)]))
    (hg : ∀ (s : Shared) (H : Hp) (C : Addr) (cl : List (Str × Addr)) (fp : List Addr), PG (Y.X.blk s H scope (compEnvC scope cl C Y.X.env) fp) (.Name n p) (gName j) := by exact fun _ _ _ _ _ => pg_name (by assumption) rfl (Or.inl rfl))
    (hs : ∀ x, foldedSetIterable it Y.X.env x = pure x := by intro _; rfl) : EQ Y (.ListComp elt [⟨.Name n p, it, ifs, 0⟩] scope cpos) γ M Q := by
  obtain ⟨wi, hw, run⟩ := hI.ex
  refine ⟨PE.imp (pe_lc (g := gName j) (tt := uTb Y.X scope ifs) (te := uEb Y.X scope elt) hc hN hw ok hg uTb_ok uEb_ok hs) fun σ H R ⟨F, r, q, ex⟩ => ?_⟩
  refine run F σ H _ r ex fun F1 H1 J e1 r1 Wk => ?_
  have hl : σ.length = γ.length := pair_len r.sl
  exact comp_core j (n := n) (wi := wi) (by omega) Iv h0 hS turn e1 r1 Wk ex fun F' D M' acc H' e2 r2 w => q F' (.ref D) (.ob D) _ H' e2 r2 rfl (done D M' acc w)
theorem ptsB {Y : Ct} {γ : List S} {M : MM} : ∀ (s : Shared) (H : Hp) (C : Addr) (cl : List (Str × Addr)) (fp : List Addr), PTs (Y.blk scope s H C cl fp).X [] (tET Y.un γ M true M) :=
  fun s H C cl fp => ⟨fun pins s1 σ H1 Q I ⟨F, r, q, _⟩ => (pts_nil).run pins s1 σ H1 Q I (q F H1 (Same.refl F) r)⟩
theorem ptsOne {Y : Ct} {γ : List S} {M : MM} {c : Expr} {b : Bool} (h : ∀ s H C cl fp, ET (Y.blk scope s H C cl fp) c γ M b M2) : ∀ (s : Shared) (H : Hp) (C : Addr) (cl : List (Str × Addr)) (fp : List Addr), PTs (Y.blk scope s H C cl fp).X [c] (tET Y.un γ M b M2) :=
  fun s H C cl fp => ⟨fun pins s1 σ H1 Q I ⟨F, r, q, _⟩ => (pts_one (h s H C cl fp).pt).run pins s1 σ H1 Q I ⟨F, r, q, fun _ _ _ _ _ _ _ _ z => z.elim⟩⟩
/-- .. where each element changes nothing: a new list of the told items -/
theorem n_comp (j : Nat) {n : Str} {cpos : Pos} (ys : List S) (hc : Y.X.calm = true) (hN : Y.X.N.Nodup) (hI : EI Y (.Name n p) it γ M xs (fun _ => True) M1) (ok : BlkOk Y.X.N Y.X.env.scope scope [(n, j)]) (hj : j < γ.length) (hl : ys.length = xs.length) (hn : xs.length ≤ 99999)
    (turn : ∀ (i : Nat) x y M', xs[i]? = some x → ys[i]? = some y → ∀ s H C cl fp, EV (Y.blk scope s H C cl fp) elt (compG γ j x) M' y M')
    (hg : ∀ (s : Shared) (H : Hp) (C : Addr) (cl : List (Str × Addr)) (fp : List Addr), PG (Y.X.blk s H scope (compEnvC scope cl C Y.X.env) fp) (.Name n p) (gName j) := by exact fun _ _ _ _ _ => pg_name (by assumption) rfl (Or.inl rfl))
    (hs : ∀ x, foldedSetIterable it Y.X.env x = pure x := by intro _; rfl) : EN Y (.ListComp elt [⟨.Name n p, it, [], 0⟩] scope cpos) γ M (.lst ys) M1 := by
  have h := q_comp (Q := fun s M' => ∃ q, s = .ob q ∧ M' = M1 ++ [(q, .lst ys)]) (elt := elt) (cpos := cpos) (ifs := []) j hc hN hI ok hj (fun i M' acc => M' = M1 ∧ acc = ys.take i ∧ i ≤ xs.length) ⟨rfl, rfl, Nat.zero_le _⟩
    (fun i M' acc ⟨_, h2, h3⟩ => ⟨by rw [h2, List.length_take]; omega, fun _ => trivial⟩)
    (fun i x M' acc D hx ⟨h1, h2, h3⟩ => by
      obtain ⟨hlt, _⟩ := List.getElem?_eq_some_iff.mp hx
      obtain ⟨y, hy⟩ : ∃ y, ys[i]? = some y := ⟨ys[i]'(by omega), by simp⟩
      refine ⟨true, M', ptsB, fun _ s H C cl fp => (turn i x y _ hx hy s H C cl fp).q ⟨M', rfl, h1, ?_, hlt⟩, fun z => nomatch z⟩
      rw [h2, List.take_add_one, hy]
      rfl)
    (fun D M' acc ⟨h1, h2, _⟩ => ⟨D, rfl, by rw [h1, h2, ← hl, List.take_length]⟩) hg hs
  exact ⟨PE.imp h.pe fun σ H Q ⟨F, r, q, ex⟩ => ⟨F, r, fun F' v s M' H' e1 r1 sv ⟨a, h1, h2⟩ => by
    subst h1 h2
    cases sv
    exact q F' a H' e1 r1, ex⟩⟩
end
end Mi

/-! Mi: tuple(..), list(..), all, any, backwards, parts of a list to names. -/
namespace Mi
open PySem PySem.Spec PyProof.Rows L2
section
variable {Y : Ct} {γ γ' : List S} {M M1 M2 M3 : MM} {s s1 s2 s3 : S} {e a b c it tg : Expr} {pos p p2 p3 p4 : Pos} {x : Str} {i j lo hi : Int} {b1 b2 : Bool} {es : List Expr} {ss xs : List S} {P : Po}
/-- tuple(a list of data) -/
theorem e_tupleL {ds : List PyData} (hg : Gl Y.X "tuple" := by rfl) (hm : Y.X.mg "tuple" = none) (ha : EA Y (e :: es) γ M [s] M1) (hv : VL M1 s (ds.map S.d))
    (he : starEach (e :: es) Y.X.env = (false, eval e Y.X.env) :: starEach es Y.X.env := by rfl) (hpl : (backTo pos (starEach es Y.X.env)).any (·.1) = false := by rfl) : EV Y (.Call (.Name "tuple" p) (e :: es) [] pos) γ M (.d (.tuple ds)) M1 :=
  e_callTy call_tuple_of hg hm (by decide +kernel) ha (he := he) (hpl := hpl) (hr := ⟨fun F vs H Q hm' g q => by
    obtain ⟨v, rfl, g1⟩ := pair_one g
    obtain ⟨a, ws, rfl, h1, h2⟩ := hv.ok hm' g1
    refine ⟨a, ws, rfl, .inl ⟨h1, fun l hl => ?_⟩⟩
    obtain ⟨e2, h3⟩ := hm'.newF hl (.tup ws)
    exact q _ _ _ e2 h3 (.tup (.inl (.inl upd_same)) (dps_mono e2 _ _ (all_d h2)))⟩)
/-- tuple(a tuple) -/
theorem e_tupleT {ds : List PyData} (hg : Gl Y.X "tuple" := by rfl) (hm : Y.X.mg "tuple" = none) (ha : EA Y (e :: es) γ M [.d (.tuple ds)] M1)
    (he : starEach (e :: es) Y.X.env = (false, eval e Y.X.env) :: starEach es Y.X.env := by rfl) (hpl : (backTo pos (starEach es Y.X.env)).any (·.1) = false := by rfl) : EV Y (.Call (.Name "tuple" p) (e :: es) [] pos) γ M (.d (.tuple ds)) M1 :=
  e_callTy call_tuple_of hg hm (by decide +kernel) ha (he := he) (hpl := hpl) (hr := ⟨fun F vs H Q hm' g q => by
    obtain ⟨v, rfl, g1⟩ := pair_one g
    cases g1 with
    | tup h1 h2 => exact ⟨_, _, rfl, .inr ⟨same_t hm'.fh h1, q F _ H (Same.refl F) hm' (.tup h1 h2)⟩⟩⟩)
/-- list(a list): a new one -/
theorem n_list {xs : List S} (hg : Gl Y.X "list" := by rfl) (hm : Y.X.mg "list" = none) (ha : EA Y (e :: es) γ M [s] M1) (hv : VL M1 s xs)
    (he : starEach (e :: es) Y.X.env = (false, eval e Y.X.env) :: starEach es Y.X.env := by rfl) (hpl : (backTo pos (starEach es Y.X.env)).any (·.1) = false := by rfl) : EN Y (.Call (.Name "list" p) (e :: es) [] pos) γ M (.lst xs) M1 :=
  ⟨PE.imp (pe_callTy call_list_of hg hm (by decide +kernel) ha.pa (by decide) (by decide) he hpl) fun σ H Q ⟨F, r, q, ex⟩ => ⟨F, r, fun F1 vs H1 e1 r1 v1 => by
    obtain ⟨v, rfl, g1⟩ := pair_one v1
    obtain ⟨a, ws, rfl, h1, h2⟩ := hv.ok r1.hm g1
    refine ⟨a, ws, rfl, .inl h1, fun l hl => ?_⟩
    have h3 := r1.hm.newM hl (o := .lst ws) (m := .lst xs) ⟨_, upd_same, h2⟩
    exact q F1 l _ e1 ⟨h3, r1.sl⟩, ex⟩⟩
/-- list(a tuple): a new one -/
theorem n_listT {ds : List PyData} (hg : Gl Y.X "list" := by rfl) (hm : Y.X.mg "list" = none) (ha : EA Y (e :: es) γ M [.d (.tuple ds)] M1)
    (he : starEach (e :: es) Y.X.env = (false, eval e Y.X.env) :: starEach es Y.X.env := by rfl) (hpl : (backTo pos (starEach es Y.X.env)).any (·.1) = false := by rfl) : EN Y (.Call (.Name "list" p) (e :: es) [] pos) γ M (.lst (ds.map S.d)) M1 :=
  ⟨PE.imp (pe_callTy call_list_of hg hm (by decide +kernel) ha.pa (by decide) (by decide) he hpl) fun σ H Q ⟨F, r, q, ex⟩ => ⟨F, r, fun F1 vs H1 e1 r1 v1 => by
    obtain ⟨v, rfl, g1⟩ := pair_one v1
    cases g1 with
    | tup h1 h2 =>
      refine ⟨_, _, rfl, .inr (same_t r1.hm.fh h1), fun l hl => ?_⟩
      have h3 := r1.hm.newM hl (m := .lst (ds.map S.d)) ⟨_, upd_same, d_all h2⟩
      exact q F1 l _ e1 ⟨h3, r1.sl⟩, ex⟩⟩
theorem bls_of {K : PySem.W.Frag} {F : Hp} : ∀ {vs : List V} {bs : List Bool}, Paired (SR K F) vs (bs.map fun b => S.d (.bool b)) → vs = bs.map V.bl
  | _, [], q => by cases q; rfl
  | _, b :: bs, q => by cases q with | cons h t => cases h; rw [bls_of t]; rfl
theorem e_all {bs : List Bool} (hc : Y.X.calm = true) (hg : Gl Y.X "all" := by rfl) (hm : Y.X.mg "all" = none) (ha : EA Y (e :: es) γ M [s] M1) (hv : VL M1 s (bs.map fun b => S.d (.bool b)))
    (he : starEach (e :: es) Y.X.env = (false, eval e Y.X.env) :: starEach es Y.X.env := by rfl) (hpl : (backTo pos (starEach es Y.X.env)).any (·.1) = false := by rfl) : EV Y (.Call (.Name "all" p) (e :: es) [] pos) γ M (.d (.bool (bs.all id))) M1 :=
  e_callB (cr_all hc) hg hm (by decide +kernel) ha (he := he) (hpl := hpl) (hr := ⟨fun F vs H Q hm' g q => by
    obtain ⟨v, rfl, g1⟩ := pair_one g
    obtain ⟨a, ws, rfl, h1, h2⟩ := hv.ok hm' g1
    rw [bls_of h2] at h1
    exact ⟨a, bs, rfl, h1, q F _ H (Same.refl F) hm' (.bl _)⟩⟩)
theorem e_any {bs : List Bool} (hc : Y.X.calm = true) (hg : Gl Y.X "any" := by rfl) (hm : Y.X.mg "any" = none) (ha : EA Y (e :: es) γ M [s] M1) (hv : VL M1 s (bs.map fun b => S.d (.bool b)))
    (he : starEach (e :: es) Y.X.env = (false, eval e Y.X.env) :: starEach es Y.X.env := by rfl) (hpl : (backTo pos (starEach es Y.X.env)).any (·.1) = false := by rfl) : EV Y (.Call (.Name "any" p) (e :: es) [] pos) γ M (.d (.bool (bs.any id))) M1 :=
  e_callB (cr_any hc) hg hm (by decide +kernel) ha (he := he) (hpl := hpl) (hr := ⟨fun F vs H Q hm' g q => by
    obtain ⟨v, rfl, g1⟩ := pair_one g
    obtain ⟨a, ws, rfl, h1, h2⟩ := hv.ok hm' g1
    rw [bls_of h2] at h1
    exact ⟨a, bs, rfl, h1, q F _ H (Same.refl F) hm' (.bl _)⟩⟩)
theorem pair_rev {α β : Type} {R : α → β → Prop} {xs : List α} {ys : List β} (h : Paired R xs ys) : Paired R xs.reverse ys.reverse := by
  induction h with
  | nil => exact .nil
  | cons a t ih => rw [List.reverse_cons, List.reverse_cons]; exact pair_app ih (.cons a .nil)
/-- xs[::-1] -/
theorem n_back {k : Nat} {xs : List S} (ha : EV Y a γ M s M1) (hv : VL M1 s xs) : EN Y (.Subscript a (.Slice none none (some (.UnaryOp .USub (.Constant (.int 1) k p) p2)) p3) pos) γ M (.lst xs.reverse) M1 :=
  ⟨PE.imp (pe_revL ha.pe) fun σ H Q ⟨F, r, q, ex⟩ => ⟨F, r, fun F1 v H1 e1 r1 v1 => by
    obtain ⟨a, ws, rfl, h1, h2⟩ := hv.ok r1.hm v1
    refine ⟨a, ws, rfl, h1, fun l hl => ?_⟩
    have h3 := r1.hm.newM hl (o := .lst ws.reverse) (m := .lst xs.reverse) ⟨_, upd_same, pair_rev h2⟩
    exact q F1 l _ e1 ⟨h3, r1.sl⟩, ex⟩⟩
/-- a, b, .. = a list -/
theorem g_lst {k : Nat} {es : List Expr} {xs : List S} {n : Nat} (hc : Y.X.calm = true) (hv : VL M s xs) (h : GTs Y es γ xs M γ') (hl : xs.length = n := by rfl) (hn : (assignEach es Y.X.env).length = n := by rfl) (hst : (assignEach es Y.X.env).findIdx? (·.1) = none := by rfl) :
    GT Y (.Tuple es k pos) γ s M γ' := by
  obtain ⟨g, p, q⟩ := h.ex
  refine ⟨_, pg_lst hc p hn hst, fun F σ H v Q r h q' => ?_⟩
  obtain ⟨a, ws, rfl, h1, h2⟩ := hv.ok r.hm h
  exact ⟨a, ws, rfl, h1, (pair_len h2).trans hl, q F σ H _ Q r h2 q'⟩
/-- -n -/
theorem e_neg (ha : EV Y a γ M (.d (.int i)) M1) : EV Y (.UnaryOp .USub a pos) γ M (.d (.int (-i))) M1 :=
  ⟨PE.imp (pe_un un_neg ha.pe) fun σ H Q ⟨F, r, q, ex⟩ => ⟨F, r, fun F1 v H1 e1 r1 v1 => by cases v1; exact ⟨i, rfl, q F1 _ H1 e1 r1 (.int _)⟩, ex⟩⟩
/-- two comparisons -/
theorem c_lists : True := trivial
end
end Mi

/-! Mi: rows of arguments of which some are not told by one term. -/
namespace Mi
open PySem PySem.Spec PyProof.Rows L2
def uA (X : Cx) (es : List Expr) : TA := fun σ H Q => ∃ t, PA X es t ∧ t σ H Q
theorem uA_ok {X : Cx} {es : List Expr} : PA X es (uA X es) := ⟨fun pos pins s σ H Q I ⟨t, h, q⟩ => h.run pos pins s σ H Q I q⟩
def uE (X : Cx) (e : Expr) : TE := fun σ H Q => ∃ t, PE X e t ∧ t σ H Q
theorem uE_ok {X : Cx} {e : Expr} : PE X e (uE X e) := ⟨fun pins s σ H Q I ⟨t, h, q⟩ => h.run pins s σ H Q I q⟩
section
variable {Y : Ct} {γ γ' : List S} {M M1 M2 M3 : MM} {s s1 s2 s3 : S} {e a b c o it : Expr} {pos p p2 : Pos} {x : Str} {i j lo hi : Int} {b1 b2 : Bool} {es : List Expr} {ss : List S} {P : Po} {body : List Stmt} {tg : Expr} {Q : S → MM → Prop}
def tEAQ (Y : Ct) (γ : List S) (M : MM) (Q : List S → MM → Prop) : TA := fun σ H R => ∃ F, Rl Y.X.K γ M F σ H ∧ (∀ F' vs ss M' H', Same F F' → Rl Y.X.K γ M' F' σ H' → Paired (SR Y.X.K F') vs ss → Q ss M' → R vs H') ∧ ExOk Y F
structure EAQ (Y : Ct) (es : List Expr) (γ : List S) (M : MM) (Q : List S → MM → Prop) : Prop where
  pa : PA Y.X es (tEAQ Y γ M Q)
variable {Qs : List S → MM → Prop}
theorem EA.q (h : EA Y es γ M ss M1) (k : Qs ss M1) : EAQ Y es γ M Qs := ⟨PA.imp h.pa fun σ H R ⟨F, r, q, ex⟩ => ⟨F, r, fun F1 vs H1 e1 r1 v1 => q F1 vs ss M1 H1 e1 r1 v1 k, ex⟩⟩
theorem qa_nil (k : Qs [] M) : EAQ Y [] γ M Qs := EA.q ea_nil k
theorem qa_cons (h : EQ Y e γ M fun s M1 => EAQ Y es γ M1 fun ss M2 => Qs (s :: ss) M2) (hs : starEach (e :: es) Y.X.env = (false, eval e Y.X.env) :: starEach es Y.X.env := by rfl) : EAQ Y (e :: es) γ M Qs :=
  ⟨PA.imp (pa_cons h.pe uA_ok hs) fun σ H R ⟨F, r, q, ex⟩ => ⟨F, r, fun F1 v s M1 H1 e1 r1 v1 hq => ⟨_, hq.pa, F1, r1, fun F2 vs ss M2 H2 e2 r2 v2 q2 => q F2 (v :: vs) (s :: ss) M2 H2 (e1.trans e2) r2 (.cons (v1.mono e2) v2) q2, ex.mono e1⟩, ex⟩⟩
/-- an item told by one term, the rest not -/
theorem qa_v (h : EV Y e γ M s M1) (k : EAQ Y es γ M1 fun ss M2 => Qs (s :: ss) M2) (hs : starEach (e :: es) Y.X.env = (false, eval e Y.X.env) :: starEach es Y.X.env := by rfl) : EAQ Y (e :: es) γ M Qs := qa_cons (h.q k) hs
theorem q_tup {kk} (h : EAQ Y es γ M fun ss M1 => ∃ ds : List PyData, ss = ds.map S.d ∧ Nat.ble ds.length 100000 = true ∧ Q (.d (.tuple ds)) M1) : EQ Y (.Tuple es kk pos) γ M Q :=
  ⟨PE.imp (pe_tup h.pa) fun σ H R ⟨F, r, q, ex⟩ => ⟨F, r, fun F1 vs ss M1 H1 e1 r1 v1 ⟨ds, hd, hn, hQ⟩ => by
    subst hd
    exact ⟨by rw [pair_len v1, List.length_map]; exact small hn, fun p hp => by
      obtain ⟨e2, h2⟩ := r1.hm.newF hp (.tup vs)
      exact q _ _ (.d (.tuple ds)) _ _ (e1.trans e2) (r1.ext e2 h2) (.tup (.inl (.inl upd_same)) (dps_mono e2 _ _ (all_d v1))) hQ⟩, ex⟩⟩
theorem q_lst (h : EAQ Y es γ M fun ss M1 => ∃ ds : List PyData, ss = ds.map S.d ∧ Nat.ble ds.length 100000 = true ∧ Q (.d (.list ds)) M1) : EQ Y (.List es pos) γ M Q :=
  ⟨PE.imp (pe_lst h.pa) fun σ H R ⟨F, r, q, ex⟩ => ⟨F, r, fun F1 vs ss M1 H1 e1 r1 v1 ⟨ds, hd, hn, hQ⟩ => by
    subst hd
    exact ⟨by rw [pair_len v1, List.length_map]; exact small hn, fun p hp => by
      obtain ⟨e2, h2⟩ := r1.hm.newF hp (.lst vs)
      exact q _ _ (.d (.list ds)) _ _ (e1.trans e2) (r1.ext e2 h2) (.lst (.inl (.inl upd_same)) (dps_mono e2 _ _ (all_d v1))) hQ⟩, ex⟩⟩
/-- a list that may change, of items not told -/
theorem q_lstM (h : EAQ Y es γ M fun ss M1 => Nat.ble ss.length 100000 = true ∧ ∀ q, Q (.ob q) (M1 ++ [(q, .lst ss)])) : EQ Y (.List es pos) γ M Q :=
  ⟨PE.imp (pe_lst h.pa) fun σ H R ⟨F, r, q, ex⟩ => ⟨F, r, fun F1 vs ss M1 H1 e1 r1 v1 ⟨hn, hQ⟩ => ⟨by rw [pair_len v1]; exact small hn, fun p hp => by
    have h2 := r1.hm.newM hp (o := .lst vs) (m := .lst ss) ⟨vs, upd_same, v1⟩
    exact q F1 _ (.ob p) _ _ e1 ⟨h2, r1.sl⟩ rfl (hQ p)⟩, ex⟩⟩
theorem q_callQ {k : Nat} {f : Addr} {fd : FuncData} {ps : List Str} {cn : Con} (G : FnOk Y.X.prog Y.X.w Y.X.K Y.X.mg Y.X.base (L2.CX Y.X.prog Y.X.w) k f fd ps (spD Y.X.K cn)) (hr : Room k Y.X.A) (hm : Y.X.mg x = some (.ref f)) (hk : PySem.W.keepIn Y.X.K (.ref f) = true) (hb : Binds Y.X.K fd ps [])
    (tk : Takes Y.X Y.Er) (ha : EAQ Y (e :: es) γ M fun ss M1 => cn ss M1 Q (fun cls M' => Y.Rx cls γ M')) (hg : Gl Y.X x := by rfl) (hdb : (x == ("__debug__" : Str)) = false := by decide)
    (he : starEach (e :: es) Y.X.env = (false, eval e Y.X.env) :: starEach es Y.X.env := by rfl) (hpl : (backTo pos (starEach es Y.X.env)).any (·.1) = false := by rfl) : EQ Y (.Call (.Name x p) (e :: es) [] pos) γ M Q :=
  ⟨PE.imp (pe_callS G hr hg hm hk hb (fun σ => passAt tk σ) ha.pa hdb he hpl) fun σ H R ⟨F, rl, q, ex⟩ => ⟨F, rl, fun F1 vs ss M1 H1 e1 r1 v1 h => by
    refine ⟨F1, M1, ss, _, _, v1, r1.hm, h, fun F' v r M' H' e2 h2 v2 hR => ?_, fun cls M' F' H' e2 h2 hR => ex cls γ M' F' σ H' (e1.trans e2) (r1.ext e2 h2) hR⟩
    exact q F' v r M' H' (e1.trans e2) (r1.ext e2 h2) v2 hR, ex⟩⟩
end
/-- nothing is in the air of a comprehension's own block -/
theorem tkF {X : Cx} : Takes X (fun _ _ _ _ => False) := fun u s' ⟨_, _, _, _, _, _, _, _, _, _, _, _, _, _, _, _, w⟩ => w.elim
end Mi

/-! Mi: a list that changes no more; comprehensions over told rows. -/
namespace Mi
open PySem PySem.Spec PyProof.Rows L2
section
variable {Y : Ct} {γ γ' : List S} {M M1 M2 M3 : MM} {s s1 s2 s3 : S} {e a b c o it elt : Expr} {pos p p2 : Pos} {x : Str} {i j lo hi : Int} {b1 b2 : Bool} {es : List Expr} {ss : List S} {P : Po} {body : List Stmt} {tg : Expr} {Q : S → MM → Prop} {scope : Scope} {xs : List S}
theorem set_at {α : Type} {x : α} : ∀ {xs : List α} {i : Nat}, xs[i]? = some x → xs.set i x = xs
  | [], _, h => by simp at h
  | y :: ys, 0, h => by simp at h; subst h; rfl
  | y :: ys, i + 1, h => by
    simp at h
    show y :: ys.set i x = y :: ys
    rw [set_at h]
/-- the last of the changing ones changes no more, as slot i has it -/
theorem b_frz (i : Nat) {q : Addr} {ds : List PyData} {sts : List Stmt} (hi : γ[i]? = some (.ob q)) (h : BL Y sts (γ.set i (.d (.list ds))) M P) : BL Y sts γ (M ++ [(q, .lst (ds.map S.d))]) P :=
  ⟨PSs.imp h.ps fun D σ H ⟨F, r, qq, ex⟩ => by
    obtain ⟨vs, g1, g2, g3, g4⟩ := r.hm.frz
    obtain ⟨o, h1, h2⟩ := pair_get r.sl hi
    obtain ⟨v, rfl, h3⟩ := h2.val rfl
    cases h3
    have r2 := r.ext g3 g4
    have hv : SR Y.X.K (upd F q (.lst vs)) (.ref q) (.d (.list ds)) := .lst (.inl (.inl upd_same)) (dps_mono g3 _ _ g2)
    have r3 := pair_set (sr_or hv) i r2.sl
    rw [set_at h1] at r3
    exact ⟨_, ⟨r2.hm, r3⟩, qq.mono g3, ex.mono g3⟩⟩
/-- [elt for x in it], it a row of l as f shows it -/
theorem n_compI {α : Type} (j : Nat) {n : Str} {cpos : Pos} (l : List α) (f g : α → PyData) (hc : Y.X.calm = true) (hN : Y.X.N.Nodup) (hI : EI Y (.Name n p) it γ M ((l.map f).map S.d) (fun _ => True) M1) (ok : BlkOk Y.X.N Y.X.env.scope scope [(n, j)]) (hj : j < γ.length) (hn : Nat.ble l.length 99999 = true)
    (turn : ∀ a ∈ l, ∀ M' s H C cl fp, EV (Y.blk scope s H C cl fp) elt (compG γ j (.d (f a))) M' (.d (g a)) M')
    (hg : ∀ (s : Shared) (H : Hp) (C : Addr) (cl : List (Str × Addr)) (fp : List Addr), PG (Y.X.blk s H scope (compEnvC scope cl C Y.X.env) fp) (.Name n p) (gName j) := by exact fun _ _ _ _ _ => pg_name (by assumption) rfl (Or.inl rfl))
    (hs : ∀ x, foldedSetIterable it Y.X.env x = pure x := by intro _; rfl) : EN Y (.ListComp elt [⟨.Name n p, it, [], 0⟩] scope cpos) γ M (.lst ((l.map g).map S.d)) M1 :=
  n_comp j ((l.map g).map S.d) hc hN hI ok hj (by simp) (by have := Nat.le_of_ble_eq_true hn; simpa using this) (fun i x y M' hx hy => by
    rw [List.getElem?_map, List.getElem?_map] at hx hy
    cases e : l[i]? with
    | none => rw [e] at hx; cases hx
    | some a =>
      rw [e] at hx hy
      cases hx; cases hy
      exact turn a (List.mem_of_getElem? e) M') hg hs
end
end Mi

/-! Mi: answers of which objects are left behind; comprehensions of drawn items. -/
namespace Mi
open PySem PySem.Spec PyProof.Rows L2
section
variable {Y : Ct} {γ γ' : List S} {M M1 M2 M3 : MM} {s s1 s2 s3 : S} {e a b c o it elt : Expr} {pos p p2 : Pos} {x : Str} {i j lo hi : Int} {b1 b2 : Bool} {es : List Expr} {ss : List S} {P : Po} {body : List Stmt} {tg : Expr} {Q : S → MM → Prop} {scope : Scope} {xs : List S}
theorem EQ.gc (h : EQ Y e γ M fun s M1 => ∃ M2 : MM, M2.Sublist M1 ∧ Q s M2) : EQ Y e γ M Q :=
  ⟨PE.imp h.pe fun σ H R ⟨F, r, q, ex⟩ => ⟨F, r, fun F1 v s M1 H1 e1 r1 v1 ⟨M2, l, k⟩ => q F1 v s M2 H1 e1 ⟨r1.hm.sub l, r1.sl⟩ v1 k, ex⟩⟩
theorem EQ.imp {Q' : S → MM → Prop} (h : EQ Y e γ M Q') (k : ∀ s M1, Q' s M1 → Q s M1) : EQ Y e γ M Q :=
  ⟨PE.imp h.pe fun σ H R ⟨F, r, q, ex⟩ => ⟨F, r, fun F1 v s M1 H1 e1 r1 v1 z => q F1 v s M1 H1 e1 r1 v1 (k s M1 z), ex⟩⟩
/-- each item of l has one of r beside it, of which Pr -/
inductive Beside {α β : Type} (Pr : α → β → Prop) : List α → List β → Prop where
  | nil : Beside Pr [] []
  | snoc {l : List α} {r : List β} {a : α} {b : β} (h : Beside Pr l r) (k : Pr a b) : Beside Pr (l ++ [a]) (r ++ [b])
theorem Beside.len {α β : Type} {Pr : α → β → Prop} {l : List α} {r : List β} (h : Beside Pr l r) : r.length = l.length := by
  induction h with
  | nil => rfl
  | snoc h k ih => simp [ih]
theorem Beside.all {α β : Type} {Pr : α → β → Prop} {l : List α} {r : List β} (h : Beside Pr l r) : ∀ b ∈ r, ∃ a ∈ l, Pr a b := by
  induction h with
  | nil => intro b hb; cases hb
  | snoc h k ih =>
    intro b hb
    rcases List.mem_append.mp hb with hb | hb
    · obtain ⟨a, ha, hp⟩ := ih b hb
      exact ⟨a, List.mem_append_left _ ha, hp⟩
    · rw [List.mem_singleton.mp hb]
      exact ⟨_, List.mem_append_right _ List.mem_cons_self, k⟩
theorem q_compP {α β : Type} (j : Nat) {n : Str} {cpos : Pos} (l : List α) (f : α → PyData) (g : β → PyData) (Pr : α → β → Prop) (hc : Y.X.calm = true) (hN : Y.X.N.Nodup) (hI : EI Y (.Name n p) it γ M ((l.map f).map S.d) (fun _ => True) M1) (ok : BlkOk Y.X.N Y.X.env.scope scope [(n, j)]) (hj : j < γ.length) (hn : l.length ≤ 99999)
    (turn : ∀ a ∈ l, ∀ M' s H C cl fp, EQ (Y.blk scope s H C cl fp) elt (compG γ j (.d (f a))) M' fun y M3 => M'.Sublist M3 ∧ ∃ b, y = .d (g b) ∧ Pr a b)
    (done : ∀ (D : Addr) (r : List β), Beside Pr l r → Q (.ob D) (M1 ++ [(D, .lst ((r.map g).map S.d))]))
    (hg : ∀ (s : Shared) (H : Hp) (C : Addr) (cl : List (Str × Addr)) (fp : List Addr), PG (Y.X.blk s H scope (compEnvC scope cl C Y.X.env) fp) (.Name n p) (gName j) := by exact fun _ _ _ _ _ => pg_name (by assumption) rfl (Or.inl rfl))
    (hs : ∀ x, foldedSetIterable it Y.X.env x = pure x := by intro _; rfl) : EQ Y (.ListComp elt [⟨.Name n p, it, [], 0⟩] scope cpos) γ M Q :=
  q_comp (elt := elt) (cpos := cpos) (ifs := []) j hc hN hI ok hj (fun i M' acc => M' = M1 ∧ i ≤ l.length ∧ ∃ r : List β, Beside Pr (l.take i) r ∧ acc = (r.map g).map S.d) ⟨rfl, Nat.zero_le _, [], .nil, rfl⟩
    (fun i M' acc ⟨_, h2, r, h3, h4⟩ => ⟨by rw [h4, List.length_map, List.length_map, h3.len, List.length_take]; omega, fun _ => trivial⟩)
    (fun i x M' acc D hx ⟨h1, h2, r, h3, h4⟩ => by
      rw [List.getElem?_map, List.getElem?_map] at hx
      cases e : l[i]? with
      | none => rw [e] at hx; cases hx
      | some a =>
        rw [e] at hx
        cases hx
        refine ⟨true, M', ptsB, fun _ s H C cl fp => EQ.gc ((turn a (List.mem_of_getElem? e) _ s H C cl fp).imp fun y M3 ⟨l1, b, hy, hb⟩ => ⟨_, l1, M', rfl, h1, (List.getElem?_eq_some_iff.mp e).1, r ++ [b], ?_, ?_⟩), fun z => nomatch z⟩
        · rw [List.take_add_one, e]
          exact .snoc h3 hb
        · rw [h4, hy, List.map_append, List.map_append]
          rfl)
    (fun D M' acc ⟨h1, h2, r, h3, h4⟩ => by
      rw [List.length_map, List.length_map, List.take_length] at h3
      rw [h1, h4]
      exact done D r h3) hg hs
end
end Mi

/-! Mi: name = [.. for ..] on one line. -/
namespace Mi
open PySem PySem.Spec PyProof.Rows L2
section
variable {Y : Ct} {γ γ' : List S} {M M1 M2 M3 : MM} {s s1 s2 s3 : S} {e a b c o it elt : Expr} {pos p p2 : Pos} {x : Str} {i j lo hi : Int} {b1 b2 : Bool} {es ifs : List Expr} {ss : List S} {P : Po} {body : List Stmt} {tg : Expr} {Q : S → MM → Prop} {scope : Scope} {xs : List S}
theorem s_comp (ii j : Nat) {n y : Str} {py spos : Pos} {Sd : MM → Prop} {cpos : Pos} (hc : Y.X.calm = true) (hN : Y.X.N.Nodup) (hI : EI Y (.Name n p) it γ M xs Sd M1) (ok : BlkOk Y.X.N Y.X.env.scope scope [(n, j)]) (hj : j < γ.length)
    (Iv : Nat → MM → List S → Prop) (h0 : Iv 0 M1 []) (hS : ∀ i M' acc, Iv i M' acc → acc.length ≤ 99999 ∧ ∀ D, Sd (M' ++ [(D, .lst acc)]))
    (turn : ∀ (i : Nat) x M' acc (D : Addr), xs[i]? = some x → Iv i M' acc → ∃ b M2, (∀ s H C cl fp, PTs (Y.blk scope s H C cl fp).X ifs (tET Y.un (compG γ j x) (M' ++ [(D, .lst acc)]) b (M2 ++ [(D, .lst acc)]))) ∧
      (b = true → ∀ s H C cl fp, EQ (Y.blk scope s H C cl fp) elt (compG γ j x) (M2 ++ [(D, .lst acc)]) fun y M3 => ∃ M4, M3 = M4 ++ [(D, .lst acc)] ∧ Iv (i + 1) M4 (acc ++ [y])) ∧ (b = false → Iv (i + 1) M2 acc))
    (done : ∀ D M' acc, Iv xs.length M' acc → P.nx (γ.set ii (.ob D)) (M' ++ [(D, .lst acc)]))
    (hi : Y.X.N[ii]? = some y := by rfl) (hyl : Y.X.env.scope.names.lookup y = some .local := by rfl)
    (hsw : swapsWith (.ListComp elt [⟨.Name n p, it, ifs, 0⟩] scope cpos) (some (.Name y py)) spos.line Y.X.env = pure true := by exact sw_true rfl rfl rfl rfl)
    (hg : ∀ (s : Shared) (H : Hp) (C : Addr) (cl : List (Str × Addr)) (fp : List Addr), PG (Y.X.blk s H scope (compEnvC scope cl C Y.X.env) fp) (.Name n p) (gName j) := by exact fun _ _ _ _ _ => pg_name (by assumption) rfl (Or.inl rfl))
    (hs : ∀ x, foldedSetIterable it Y.X.env x = pure x := by intro _; rfl) : ST Y (.Assign [.Name y py] (.ListComp elt [⟨.Name n p, it, ifs, 0⟩] scope cpos) spos) γ M P := by
  obtain ⟨wi, hw, run⟩ := hI.ex
  refine ⟨PS.imp (ps_setLc (g := gName j) (tt := uTb Y.X scope ifs) (te := uEb Y.X scope elt) hc hN hi hyl hsw hw ok hg uTb_ok uEb_ok hs) fun D σ H ⟨F, r, q, ex⟩ => ?_⟩
  refine run F σ H _ r ex fun F1 H1 J e1 r1 Wk => ?_
  have hl : σ.length = γ.length := pair_len r.sl
  refine comp_core j (n := n) (wi := wi) (Qd := fun v H2 => gName ii v σ H2 D.nx) (by omega) Iv h0 hS turn e1 r1 Wk ex fun F' L M' acc H' e2 r2 w => ?_
  exact q.nx _ _ F' _ H' e2 ⟨r2.hm, pair_set (sr_or (s := .ob L) rfl) ii r2.sl⟩ (done L M' acc w)
theorem s_compI {α : Type} (ii j : Nat) {n y : Str} {py spos : Pos} {cpos : Pos} (l : List α) (f g : α → PyData) (hc : Y.X.calm = true) (hN : Y.X.N.Nodup) (hI : EI Y (.Name n p) it γ M ((l.map f).map S.d) (fun _ => True) M1) (ok : BlkOk Y.X.N Y.X.env.scope scope [(n, j)]) (hj : j < γ.length) (hn : Nat.ble l.length 99999 = true)
    (turn : ∀ a ∈ l, ∀ M' s H C cl fp, EV (Y.blk scope s H C cl fp) elt (compG γ j (.d (f a))) M' (.d (g a)) M')
    (done : ∀ D, P.nx (γ.set ii (.ob D)) (M1 ++ [(D, .lst ((l.map g).map S.d))]))
    (hg : ∀ (s : Shared) (H : Hp) (C : Addr) (cl : List (Str × Addr)) (fp : List Addr), PG (Y.X.blk s H scope (compEnvC scope cl C Y.X.env) fp) (.Name n p) (gName j) := by exact fun _ _ _ _ _ => pg_name (by assumption) rfl (Or.inl rfl))
    (hi : Y.X.N[ii]? = some y := by rfl) (hyl : Y.X.env.scope.names.lookup y = some .local := by rfl)
    (hsw : swapsWith (.ListComp elt [⟨.Name n p, it, [], 0⟩] scope cpos) (some (.Name y py)) spos.line Y.X.env = pure true := by exact sw_true rfl rfl rfl rfl)
    (hs : ∀ x, foldedSetIterable it Y.X.env x = pure x := by intro _; rfl) : ST Y (.Assign [.Name y py] (.ListComp elt [⟨.Name n p, it, [], 0⟩] scope cpos) spos) γ M P :=
  s_comp ii j hc hN hI ok hj (fun i M' acc => M' = M1 ∧ acc = ((l.take i).map g).map S.d ∧ i ≤ l.length) ⟨rfl, rfl, Nat.zero_le _⟩
    (fun i M' acc ⟨_, h2, h3⟩ => ⟨by have := Nat.le_of_ble_eq_true hn; rw [h2, List.length_map, List.length_map, List.length_take]; omega, fun _ => trivial⟩)
    (fun i x M' acc D hx ⟨h1, h2, h3⟩ => by
      rw [List.getElem?_map, List.getElem?_map] at hx
      cases e : l[i]? with
      | none => rw [e] at hx; cases hx
      | some a =>
        rw [e] at hx
        cases hx
        refine ⟨true, M', ptsB, fun _ s H C cl fp => (turn a (List.mem_of_getElem? e) _ s H C cl fp).q ⟨M', rfl, h1, ?_, (List.getElem?_eq_some_iff.mp e).1⟩, fun z => nomatch z⟩
        rw [h2, List.take_add_one, e]
        simp)
    (fun D M' acc ⟨h1, h2, _⟩ => by
      rw [List.length_map, List.length_map, List.take_length] at h2
      rw [h1, h2]
      exact done D) hi hyl hsw hg hs
theorem s_compP {α β : Type} (ii j : Nat) {n y : Str} {py spos : Pos} {cpos : Pos} (l : List α) (f : α → PyData) (g : β → PyData) (Pr : α → β → Prop) (hc : Y.X.calm = true) (hN : Y.X.N.Nodup) (hI : EI Y (.Name n p) it γ M ((l.map f).map S.d) (fun _ => True) M1) (ok : BlkOk Y.X.N Y.X.env.scope scope [(n, j)]) (hj : j < γ.length) (hn : l.length ≤ 99999)
    (turn : ∀ a ∈ l, ∀ M' s H C cl fp, EQ (Y.blk scope s H C cl fp) elt (compG γ j (.d (f a))) M' fun y M3 => M'.Sublist M3 ∧ ∃ b, y = .d (g b) ∧ Pr a b)
    (done : ∀ (D : Addr) (r : List β), Beside Pr l r → P.nx (γ.set ii (.ob D)) (M1 ++ [(D, .lst ((r.map g).map S.d))]))
    (hg : ∀ (s : Shared) (H : Hp) (C : Addr) (cl : List (Str × Addr)) (fp : List Addr), PG (Y.X.blk s H scope (compEnvC scope cl C Y.X.env) fp) (.Name n p) (gName j) := by exact fun _ _ _ _ _ => pg_name (by assumption) rfl (Or.inl rfl))
    (hi : Y.X.N[ii]? = some y := by rfl) (hyl : Y.X.env.scope.names.lookup y = some .local := by rfl)
    (hsw : swapsWith (.ListComp elt [⟨.Name n p, it, [], 0⟩] scope cpos) (some (.Name y py)) spos.line Y.X.env = pure true := by exact sw_true rfl rfl rfl rfl)
    (hs : ∀ x, foldedSetIterable it Y.X.env x = pure x := by intro _; rfl) : ST Y (.Assign [.Name y py] (.ListComp elt [⟨.Name n p, it, [], 0⟩] scope cpos) spos) γ M P :=
  s_comp ii j hc hN hI ok hj (fun i M' acc => M' = M1 ∧ i ≤ l.length ∧ ∃ r : List β, Beside Pr (l.take i) r ∧ acc = (r.map g).map S.d) ⟨rfl, Nat.zero_le _, [], .nil, rfl⟩
    (fun i M' acc ⟨_, h2, r, h3, h4⟩ => ⟨by rw [h4, List.length_map, List.length_map, h3.len, List.length_take]; omega, fun _ => trivial⟩)
    (fun i x M' acc D hx ⟨h1, h2, r, h3, h4⟩ => by
      rw [List.getElem?_map, List.getElem?_map] at hx
      cases e : l[i]? with
      | none => rw [e] at hx; cases hx
      | some a =>
        rw [e] at hx
        cases hx
        refine ⟨true, M', ptsB, fun _ s H C cl fp => EQ.gc ((turn a (List.mem_of_getElem? e) _ s H C cl fp).imp fun y M3 ⟨l1, b, hy, hb⟩ => ⟨_, l1, M', rfl, h1, (List.getElem?_eq_some_iff.mp e).1, r ++ [b], ?_, ?_⟩), fun z => nomatch z⟩
        · rw [List.take_add_one, e]
          exact .snoc h3 hb
        · rw [h4, hy, List.map_append, List.map_append]
          rfl)
    (fun D M' acc ⟨h1, h2, r, h3, h4⟩ => by
      rw [List.length_map, List.length_map, List.take_length] at h3
      rw [h1, h4]
      exact done D r h3) hi hyl hsw hg hs
end
end Mi

/-! Mi: zip. -/
namespace Mi
open PySem PySem.Spec PyProof.Rows L2 RZ
def zipS (ds es : List PyData) : List S := (ds.zip es).map fun p => S.d (.tuple [p.1, p.2])
theorem zipS_at {ds es : List PyData} {i : Nat} {x : S} (h : (zipS ds es)[i]? = some x) : ∃ d e, ds[i]? = some d ∧ es[i]? = some e ∧ x = .d (.tuple [d, e]) := by
  unfold zipS at h
  rw [List.getElem?_map] at h
  cases e : (ds.zip es)[i]? with
  | none => rw [e] at h; cases h
  | some p =>
    rw [e] at h
    have h2 := List.getElem?_zip_eq_some.mp e
    exact ⟨p.1, p.2, h2.1, h2.2, (Option.some.inj h).symm⟩
theorem zipS_len (ds es : List PyData) : (zipS ds es).length = min ds.length es.length := by simp [zipS]
theorem walks_zt {K : PySem.W.Frag} {F1 : Hp} {a b : Addr} {vs ws : List V} {ds es : List PyData} (h1 : SqT K F1 a vs) (h2 : DpAll K F1 vs ds) (g1 : SqT K F1 b ws) (g2 : DpAll K F1 ws es) : Walks K (ItzT K a b) F1 (zipS ds es) (fun _ => True) := by
  have hl : vs.length = ds.length := dps_len h2
  have gl : ws.length = es.length := dps_len g2
  refine ⟨fun i H' F' M' e hm _ hi => ?_, fun i H' v H'' x F' γ' M' σ' hx e r _ y => ?_, fun i H' F' M' e hm _ hi => ?_⟩
  · rw [zipS_len] at hi
    exact ⟨vs, ws, vs[i]'(by omega), ws[i]'(by omega), same_t (e.trans hm.fh) h1, same_t (e.trans hm.fh) g1, by simp, by simp⟩
  · obtain ⟨T, x1, y1, rfl, hT, rfl, hx1, hy1⟩ := y
    have e4 := hx1 vs (same_t (e.trans r.hm.fh) h1)
    have e5 := hy1 ws (same_t (e.trans r.hm.fh) g1)
    obtain ⟨d, e', hd, he, rfl⟩ := zipS_at hx
    obtain ⟨d2, hd2, dp1⟩ := dps_getV h2 e4
    obtain ⟨d3, hd3, dp2⟩ := dps_getV g2 e5
    rw [hd] at hd2; cases hd2
    rw [he] at hd3; cases hd3
    obtain ⟨e6, h6⟩ := r.hm.newF hT (.tup [x1, y1])
    exact ⟨_, e6, r.ext e6 h6, .tup (.inl (.inl upd_same)) (.cons (dp_mono (e.trans e6) _ _ dp1) (.cons (dp_mono (e.trans e6) _ _ dp2) .nil))⟩
  · rw [zipS_len] at hi
    exact ⟨vs, ws, same_t (e.trans hm.fh) h1, same_t (e.trans hm.fh) g1, by omega⟩
theorem walks_zl {K : PySem.W.Frag} {F1 : Hp} {a b : Addr} {vs ws : List V} {ds es : List PyData} (h1 : SqL K F1 a vs) (h2 : DpAll K F1 vs ds) (g1 : SqL K F1 b ws) (g2 : DpAll K F1 ws es) : Walks K (Itz K a b) F1 (zipS ds es) (fun _ => True) := by
  have hl : vs.length = ds.length := dps_len h2
  have gl : ws.length = es.length := dps_len g2
  refine ⟨fun i H' F' M' e hm _ hi => ?_, fun i H' v H'' x F' γ' M' σ' hx e r _ y => ?_, fun i H' F' M' e hm _ hi => ?_⟩
  · rw [zipS_len] at hi
    exact ⟨vs, ws, vs[i]'(by omega), ws[i]'(by omega), (e.trans hm.fh).seq h1, (e.trans hm.fh).seq g1, by simp, by simp⟩
  · obtain ⟨T, x1, y1, rfl, hT, rfl, hx1, hy1⟩ := y
    have e4 := hx1 vs ((e.trans r.hm.fh).seq h1)
    have e5 := hy1 ws ((e.trans r.hm.fh).seq g1)
    obtain ⟨d, e', hd, he, rfl⟩ := zipS_at hx
    obtain ⟨d2, hd2, dp1⟩ := dps_getV h2 e4
    obtain ⟨d3, hd3, dp2⟩ := dps_getV g2 e5
    rw [hd] at hd2; cases hd2
    rw [he] at hd3; cases hd3
    obtain ⟨e6, h6⟩ := r.hm.newF hT (.tup [x1, y1])
    exact ⟨_, e6, r.ext e6 h6, .tup (.inl (.inl upd_same)) (.cons (dp_mono (e.trans e6) _ _ dp1) (.cons (dp_mono (e.trans e6) _ _ dp2) .nil))⟩
  · rw [zipS_len] at hi
    exact ⟨vs, ws, (e.trans hm.fh).seq h1, (e.trans hm.fh).seq g1, by omega⟩
section
variable {Y : Ct} {γ γ' : List S} {M M1 M2 M3 : MM} {s s1 s2 s3 : S} {e a b c o it elt : Expr} {pos p p2 tpos : Pos} {x : Str} {es elts : List Expr} {ss : List S}
theorem i_zipT {kk : Nat} {ds es : List PyData} (hg : Gl Y.X "zip" := by rfl) (hm : Y.X.mg "zip" = none) (ha : EA Y [a, b] γ M [.d (.tuple ds), .d (.tuple es)] M1)
    (hs : starEach [a, b] Y.X.env = (false, eval a Y.X.env) :: starEach [b] Y.X.env := by rfl) (hpl : (backTo pos (starEach [b] Y.X.env)).any (·.1) = false := by rfl) :
    EI Y (.Tuple elts kk tpos) (.Call (.Name "zip" p) [a, b] [] pos) γ M (zipS ds es) (fun _ => True) M1 :=
  ⟨_, pi_zipA hg hm ha.pa hs hpl, fun F σ H R r ex k => ⟨F, r, fun F1 vs H1 e1 r1 v1 => by
    obtain ⟨v, w, rfl, h1, h2⟩ := pair_two v1
    cases h1 with
    | tup g1 g2 =>
      cases h2 with
      | tup g3 g4 => exact ⟨_, _, _, _, rfl, .inr ⟨same_t r1.hm.fh g1, same_t r1.hm.fh g3, k F1 H1 _ e1 r1 (walks_zt g1 g2 g3 g4)⟩⟩, ex⟩⟩
theorem i_zipL {kk : Nat} {ds es : List PyData} (hg : Gl Y.X "zip" := by rfl) (hm : Y.X.mg "zip" = none) (ha : EA Y [a, b] γ M [.d (.list ds), .d (.list es)] M1)
    (hs : starEach [a, b] Y.X.env = (false, eval a Y.X.env) :: starEach [b] Y.X.env := by rfl) (hpl : (backTo pos (starEach [b] Y.X.env)).any (·.1) = false := by rfl) :
    EI Y (.Tuple elts kk tpos) (.Call (.Name "zip" p) [a, b] [] pos) γ M (zipS ds es) (fun _ => True) M1 :=
  ⟨_, pi_zipA hg hm ha.pa hs hpl, fun F σ H R r ex k => ⟨F, r, fun F1 vs H1 e1 r1 v1 => by
    obtain ⟨v, w, rfl, h1, h2⟩ := pair_two v1
    cases h1 with
    | lst g1 g2 =>
      cases h2 with
      | lst g3 g4 => exact ⟨_, _, _, _, rfl, .inl ⟨r1.hm.fh.seq g1, r1.hm.fh.seq g3, k F1 H1 _ e1 r1 (walks_zl g1 g2 g3 g4)⟩⟩, ex⟩⟩
end
end Mi

/-! Mi: a < b < c. -/
namespace Mi
open PySem PySem.Spec PyProof.Rows L2
section
variable {Y : Ct} {γ γ' : List S} {M M1 M2 M3 : MM} {a b c : Expr} {pos : Pos} {i j l : Int}
theorem t_chain {op op' : CmpOp} {f g : Int → Int → Bool} (ho : OpR Y.X (compareOp op) (rI0 fun i j => .bl (f i j))) (ho' : OpR Y.X (compareOp op') (rI0 fun i j => .bl (g i j))) (ha : EV Y a γ M (.d (.int i)) M1) (hb : EV Y b γ M1 (.d (.int j)) M2) (hc : EV Y c γ M2 (.d (.int l)) M2)
    (hm : lastMarks [op, op'] [b, c] = false := by with_unfolding_all rfl) : ET Y (.Compare a [op, op'] [b, c] pos) γ M (f i j && g j l) M2 :=
  ⟨PT.imp (pt_chain ho ho' ha.pe hb.pe hc.pe hm) fun σ H Q ⟨F, rl, q, ex⟩ => ⟨F, rl, fun F1 v H1 e1 r1 v1 => ⟨F1, r1, fun F2 w H2 e2 r2 v2 => by
    cases v1
    cases v2
    refine ⟨i, j, rfl, rfl, f i j, rfl, ?_⟩
    cases hf : f i j with
    | true =>
      rw [if_pos rfl]
      refine ⟨F2, r2, fun F3 u H3 e3 r3 v3 => ?_, ex.mono (e1.trans e2)⟩
      cases v3
      rw [hf] at q
      exact ⟨j, l, rfl, rfl, g j l, rfl, q F3 H3 ((e1.trans e2).trans e3) r3⟩
    | false =>
      rw [if_neg (by decide)]
      rw [hf] at q
      exact ⟨false, rfl, q F2 H2 (e1.trans e2) r2⟩, ex.mono e1⟩, ex⟩⟩
/-- a call's answer that is told by one term, objects left behind -/
theorem EV.ofQ {e : Expr} {s : S} (h : EQ Y e γ M fun s' M3 => s' = s ∧ M1.Sublist M3) : EV Y e γ M s M1 :=
  ⟨PE.imp h.pe fun σ H Q ⟨F, r, q, ex⟩ => ⟨F, r, fun F1 v s' M3 H1 e1 r1 v1 ⟨h1, l⟩ => by
    subst h1
    exact q F1 v H1 e1 ⟨r1.hm.sub l, r1.sl⟩ v1, ex⟩⟩
end
end Mi

/-! Mi: an item of an answer that is not told by one term. -/
namespace Mi
open PySem PySem.Spec PyProof.Rows L2
section
variable {Y : Ct} {γ γ' : List S} {M M1 M2 M3 : MM} {a b c : Expr} {pos : Pos} {i j l : Int} {Q : S → MM → Prop}
theorem q_ix (h : EQ Y a γ M fun s M1 => ∃ (d d' : PyData) (i : Int), s = .d d ∧ EV Y b γ M1 (.d (.int i)) M1 ∧ itD d i = some d' ∧ Q (.d d') M1) (hs : PlainIx b := by exact fun _ _ => rfl) : EQ Y (.Subscript a b pos) γ M Q :=
  ⟨PE.imp (pe_ix ix_seq h.pe uE_ok hs) fun σ H R ⟨F, r, q, ex⟩ => ⟨F, r, fun F1 v s M1 H1 e1 r1 v1 ⟨d, d', i, hd, hb, hi, hQ⟩ => by
    subst hd
    exact ⟨_, hb.pe, F1, r1, fun F2 w H2 e2 r2 v2 => (rv_ix (M := M1) hi).run F2 v w H2 _ r2.hm (v1.mono e2) v2 fun F3 u H3 e3 h3 v3 => q F3 u (.d d') M1 H3 ((e1.trans e2).trans e3) (r2.ext e3 h3) v3 hQ, ex.mono e1⟩, ex⟩⟩
end
end Mi

/-! Mi: slices of tuples, tuples of whole numbers compared. -/
namespace Mi
open PySem PySem.Spec PyProof.Rows L2
theorem dps_cut {K : PySem.W.Frag} {F : Hp} {vs : List V} {ds : List PyData} {l h : Option Int} (g : DpAll K F vs ds) : DpAll K F (cutV vs l h) (cutL ds l h) := by
  have := pair_cut (l := l) (h := h) (d_all g)
  rw [cutL_map] at this
  exact all_d this
theorem ints_of {K : PySem.W.Frag} {F : Hp} : ∀ {vs : List V} {ns : List Int}, DpAll K F vs (ns.map PyData.int) → vs = ns.map V.int
  | _, [], h => by cases h; rfl
  | _, n :: ns, h => by
    cases h with
    | cons h1 h2 =>
      cases h1
      rw [ints_of h2]
      rfl
section
variable {Y : Ct} {γ γ' : List S} {M M1 M2 M3 : MM} {a b c : Expr} {pos p2 : Pos} {i j : Int}
theorem e_sliceT {ds : List PyData} {lo hi : Option Expr} {l h : Option Int} (ha : EV Y a γ M (.d (.tuple ds)) M1) (h1 : EO Y lo γ M1 l) (h2 : EO Y hi γ M1 h) (hw : ¬ (HT.sIx ds.length 0 l = 0 ∧ HT.sIx ds.length ds.length h = ds.length)) :
    EV Y (.Subscript a (.Slice lo hi none p2) pos) γ M (.d (.tuple (cutL ds l h))) M1 := by
  obtain ⟨tl, pl, ql⟩ := h1.ex
  obtain ⟨th, ph, qh⟩ := h2.ex
  refine ⟨PE.imp (pe_slice sl_tup ha.pe pl ph) fun σ H Q ⟨F, r, q, ex⟩ => ⟨F, r, fun F1 v H1 e1 r1 w1 => ql F1 σ H1 _ r1 (ex.mono e1) fun F2 H2 e2 r2 => qh F2 σ H2 _ r2 (ex.mono (e1.trans e2)) fun F3 H3 e3 r3 => ?_, ex⟩⟩
  have w3 := w1.mono (e2.trans e3)
  cases w3 with
  | tup g1 g2 =>
    refine ⟨_, _, rfl, same_t r3.hm.fh g1, by rw [dps_len g2]; exact hw, fun p hp => ?_⟩
    obtain ⟨e5, h5⟩ := r3.hm.newF hp (.tup _)
    exact q _ _ _ (((e1.trans e2).trans e3).trans e5) (r3.ext e5 h5) (.tup (.inl (.inl upd_same)) (dps_mono e5 _ _ (dps_cut g2)))
theorem t_leT {k : Nat} (hr : Room k Y.X.A) {ns ms : List Int} {z : Bool} (ha : EV Y a γ M (.d (.tuple (ns.map PyData.int))) M1) (hb : EV Y b γ M1 (.d (.tuple (ms.map PyData.int))) M2)
    (hz : Ob.lexAt (fun j => decide (ns.getD j 0 = ms.getD j 0)) (fun j => decide (ns.getD j 0 ≤ ms.getD j 0)) (decide (ns.length ≤ ms.length)) 0 (min ns.length ms.length) = z) :
    ET Y (.Compare a [.LtE] [b] pos) γ M z M2 :=
  t_bin (fun h1 h2 => pt_cmpR (op_leT (Nat.lt_of_le_of_lt (Nat.le_add_right _ _) hr.units)) h1 h2 (nomark _)) ha hb ⟨fun F v w H Q hm r1 r2 q => by
    cases r1 with
    | tup g1 g2 =>
      cases r2 with
      | tup g3 g4 =>
        have e1 := ints_of g2
        have e2 := ints_of g4
        subst e1 e2
        exact ⟨_, _, ns, ms, rfl, rfl, same_t hm.fh g1, same_t hm.fh g3, q F _ H (Same.refl F) hm (hz ▸ .bl _)⟩⟩
end
end Mi

/-! Mi: loops over drawn lists; defs that are handed a caught error. -/
namespace Mi
open PySem PySem.Spec PyProof.Rows L2
section
variable {Y : Ct} {γ γ' : List S} {M M1 M2 M3 : MM} {s s1 s2 s3 : S} {e a b c o it tg : Expr} {pos p p2 : Pos} {x : Str} {es : List Expr} {ss : List S} {P : Po} {body : List Stmt}
/-- for x in a list that is not told by one term -/
theorem s_forQ (hp : PassesOwn (model Y.X.prog Y.X.w) Y.X.A Y.X.env Y.X.xe) (hc : Y.X.calm = true)
    (hQ : EQ Y it γ M fun s M1 => ∃ (ds : List PyData) (Iv : Nat → List S → MM → Prop), s = .d (.list ds) ∧ Iv 0 γ M1 ∧
      (∀ (i : Nat) x γ' M', (ds.map S.d)[i]? = some x → Iv i γ' M' → ∃ γ2, GT Y tg γ' x M' γ2 ∧ BL Y body γ2 M' { P with nx := Iv (i + 1), ct := Iv (i + 1), bk := P.nx }) ∧ (∀ γ' M', Iv ds.length γ' M' → P.nx γ' M'))
    (hf : ∀ x, foldedSetIterable it Y.X.env x = pure x := by intro _; rfl) : ST Y (.For tg it body [] pos) γ M P := by
  refine ⟨PS.imp (ps_for hp hc (pi_list hQ.pe) uG_ok uS_ok hf) fun D σ H ⟨F, r, q, ex⟩ => ?_⟩
  refine ⟨F, r, fun F1 v s M1 H1 e1 r1 v1 ⟨ds, Iv, hs, h0, hS, hd⟩ => ?_, ex⟩
  subst hs
  cases v1 with
  | lst h1 h2 =>
    rename_i l vs
    have Wk := walks_l h1 h2
    have hlen : (ds.map S.d).length = ds.length := List.length_map ..
    refine ⟨l, rfl, ⟨_, r1.hm.fh.seq h1⟩, fun i m σ' H' => m = ds.length - i ∧ i ≤ ds.length ∧ ∃ γ' M' F', Iv i γ' M' ∧ Same F1 F' ∧ Rl Y.X.K γ' M' F' σ' H', ⟨ds.length, by simp, Nat.zero_le _, γ, M1, F1, h0, Same.refl F1, r1⟩, ?_⟩
    rintro i m σ' H' ⟨rfl, hi, γ', M', F', w, e2, r2⟩
    by_cases hlt : i < ds.length
    · refine .inr ⟨Wk.go i H' F' M' e2 r2.hm trivial (by omega), fun σ3 H3 => ∃ γ' M' F', Iv (i + 1) γ' M' ∧ Same F1 F' ∧ Rl Y.X.K γ' M' F' σ3 H3, fun σ3 H3 z => ⟨ds.length - (i + 1), by omega, rfl, hlt, z⟩, fun v H'' y => ?_⟩
      obtain ⟨x, hx⟩ : ∃ x, (ds.map S.d)[i]? = some x := ⟨(ds.map S.d)[i]'(by omega), by simp⟩
      obtain ⟨γ2, hg, hb⟩ := hS i x γ' M' hx w
      obtain ⟨F2, e3, r3, sv⟩ := Wk.yld i H' v H'' x F' γ' M' σ' hx e2 r2 trivial y
      obtain ⟨gg, hpg, hq⟩ := hg.ex
      refine ⟨gg, hpg, hq F2 σ' H'' v _ r3 sv fun σ3 r4 => ⟨_, hb.ps, F2, r4, ⟨?_, ?_, ?_, ?_⟩, ex.mono ((e1.trans e2).trans e3)⟩⟩
      · exact fun γ5 M5 F5 σ5 H5 e5 r5 w5 => ⟨γ5, M5, F5, w5, (e2.trans e3).trans e5, r5⟩
      · exact fun s M' F' v H' e5 => q.rt s M' F' v H' (((e1.trans e2).trans e3).trans e5)
      · exact fun γ5 M5 F5 σ5 H5 e5 => q.nx γ5 M5 F5 σ5 H5 (((e1.trans e2).trans e3).trans e5)
      · exact fun γ5 M5 F5 σ5 H5 e5 r5 w5 => ⟨γ5, M5, F5, w5, (e2.trans e3).trans e5, r5⟩
    · have hil : i = ds.length := by omega
      subst hil
      exact .inl ⟨Wk.stop _ H' F' M' e2 r2.hm trivial (by omega), q.nx γ' M' F' σ' H' (e1.trans e2) r2 (hd γ' M' w)⟩
theorem fa_nil {Pr : PyData → Prop} : ∀ d ∈ ([] : List PyData), Pr d := fun _ h => nomatch h
theorem fa_cons {Pr : PyData → Prop} {a : PyData} {l : List PyData} (h : Pr a) (t : ∀ d ∈ l, Pr d) : ∀ d ∈ a :: l, Pr d := fun d hd => by
  rcases List.mem_cons.mp hd with rfl | hd
  · exact h
  · exact t d hd
theorem all_items {Pr : PyData → Prop} {l : List PyData} {i : Nat} {x : S} (hx : (l.map S.d)[i]? = some x) (h : ∀ d ∈ l, Pr d) : ∃ d, x = .d d ∧ Pr d := by
  rw [List.getElem?_map] at hx
  cases e : l[i]? with
  | none => rw [e] at hx; cases hx
  | some d => rw [e] at hx; exact ⟨d, (Option.some.inj hx).symm, h d (List.mem_of_getElem? e)⟩
end
end Mi

/-! Mi: lists put together where the second one is not told by one term. -/
namespace Mi
open PySem PySem.Spec PyProof.Rows L2
section
variable {Y : Ct} {γ γ' : List S} {M M1 M2 M3 : MM} {s s1 s2 s3 : S} {e a b c o it tg : Expr} {pos p p2 : Pos} {x : Str} {es : List Expr} {ss : List S} {P : Po} {body : List Stmt} {Q : S → MM → Prop}
theorem q_cat (ha : EV Y a γ M s1 M1) (hb : EQ Y b γ M1 fun s2 M2 => ∃ xs zs, VL M2 s1 xs ∧ VL M2 s2 zs ∧ xs.length + zs.length ≤ 100000 ∧ ∀ p, Q (.ob p) (M2 ++ [(p, .lst (xs ++ zs))])) : EQ Y (.BinOp a .Add b pos) γ M Q :=
  ⟨PE.imp (pe_op op_catL ha.pe hb.pe) fun σ H R ⟨F, rl, q, ex⟩ => ⟨F, rl, fun F1 v H1 e1 r1 w1 => ⟨F1, r1, fun F2 w s2 M2 H2 e2 r2 w2 ⟨xs, zs, v1, v2, hl, hQ⟩ => by
    obtain ⟨l, vs, rfl, h1, h2⟩ := v1.ok r2.hm (w1.mono e2)
    obtain ⟨b, us, rfl, h3, h4⟩ := v2.ok r2.hm w2
    refine ⟨l, b, vs, us, rfl, rfl, h1, h3, by rw [pair_len h2, pair_len h4]; exact Nat.le_trans hl (by decide), fun p hp => ?_⟩
    have h5 := r2.hm.newM hp (o := .lst (vs ++ us)) (m := .lst (xs ++ zs)) ⟨_, upd_same, pair_app h2 h4⟩
    exact q F2 _ (.ob p) _ _ (e1.trans e2) ⟨h5, r2.sl⟩ rfl (hQ p), ex.mono e1⟩, ex⟩⟩
/-- .. of data, not changed any more -/
theorem q_catF (ha : EV Y a γ M s1 M1) (hb : EQ Y b γ M1 fun s2 M2 => ∃ xs zs : List PyData, VL M2 s1 (xs.map S.d) ∧ VL M2 s2 (zs.map S.d) ∧ xs.length + zs.length ≤ 100000 ∧ Q (.d (.list (xs ++ zs))) M2) : EQ Y (.BinOp a .Add b pos) γ M Q :=
  ⟨PE.imp (pe_op op_catL ha.pe hb.pe) fun σ H R ⟨F, rl, q, ex⟩ => ⟨F, rl, fun F1 v H1 e1 r1 w1 => ⟨F1, r1, fun F2 w s2 M2 H2 e2 r2 w2 ⟨xs, zs, v1, v2, hl, hQ⟩ => by
    obtain ⟨l, vs, rfl, h1, h2⟩ := v1.ok r2.hm (w1.mono e2)
    obtain ⟨b, us, rfl, h3, h4⟩ := v2.ok r2.hm w2
    refine ⟨l, b, vs, us, rfl, rfl, h1, h3, by rw [pair_len h2, pair_len h4, List.length_map, List.length_map]; exact Nat.le_trans hl (by decide), fun p hp => ?_⟩
    obtain ⟨e3, h5⟩ := r2.hm.newF hp (.lst (vs ++ us))
    have h6 : DpAll Y.X.K F2 (vs ++ us) (xs ++ zs) := all_d (by rw [List.map_append]; exact pair_app h2 h4)
    exact q _ _ (.d (.list (xs ++ zs))) _ _ ((e1.trans e2).trans e3) (r2.ext e3 h5) (.lst (.inl (.inl upd_same)) (dps_mono e3 _ _ h6)) hQ, ex.mono e1⟩, ex⟩⟩
/-- the first one not told by one term -/
theorem q_catA (ha : EQ Y a γ M fun s1 M1 => ∃ s2 M2, EV Y b γ M1 s2 M2 ∧ ∃ xs zs : List PyData, VL M2 s1 (xs.map S.d) ∧ VL M2 s2 (zs.map S.d) ∧ xs.length + zs.length ≤ 100000 ∧ Q (.d (.list (xs ++ zs))) M2) : EQ Y (.BinOp a .Add b pos) γ M Q :=
  ⟨PE.imp (pe_op op_catL ha.pe uE_ok) fun σ H R ⟨F, rl, q, ex⟩ => ⟨F, rl, fun F1 v s1 M1 H1 e1 r1 w1 ⟨s2, M2, hb, xs, zs, v1, v2, hl, hQ⟩ => ⟨_, hb.pe, F1, r1, fun F2 w H2 e2 r2 w2 => by
    obtain ⟨l, vs, rfl, h1, h2⟩ := v1.ok r2.hm (w1.mono e2)
    obtain ⟨b, us, rfl, h3, h4⟩ := v2.ok r2.hm w2
    refine ⟨l, b, vs, us, rfl, rfl, h1, h3, by rw [pair_len h2, pair_len h4, List.length_map, List.length_map]; exact Nat.le_trans hl (by decide), fun p hp => ?_⟩
    obtain ⟨e3, h5⟩ := r2.hm.newF hp (.lst (vs ++ us))
    have h6 : DpAll Y.X.K F2 (vs ++ us) (xs ++ zs) := all_d (by rw [List.map_append]; exact pair_app h2 h4)
    exact q _ _ (.d (.list (xs ++ zs))) _ _ ((e1.trans e2).trans e3) (r2.ext e3 h5) (.lst (.inl (.inl upd_same)) (dps_mono e3 _ _ h6)) hQ, ex.mono e1⟩, ex⟩⟩
end
end Mi

/-! Mi: constants of the module; calls without arguments. -/
namespace Mi
open PySem PySem.Spec PyProof.Rows L2
theorem kt_nil {K : PySem.W.Frag} {F : Hp} : DpAll K F [] [] := .nil
theorem kt_cons {K : PySem.W.Frag} {F : Hp} {v : V} {vs : List V} {d : PyData} {ds : List PyData} (h : Dp K F v d) (t : DpAll K F vs ds) : DpAll K F (v :: vs) (d :: ds) := .cons h t
theorem rv_int (i : Int) (t : Tok) : RelV (.int i) (.int i t) := ⟨t, rfl⟩
theorem rv_str (i : Str) (t : Tok) : RelV (.str i) (.str i t) := ⟨t, rfl⟩
theorem rv_bl (i : Bool) : RelV (.bl i) (.bool i) := rfl
theorem rv_ref (i : Addr) : RelV (.ref i) (.ref i) := rfl
theorem kv_nil : Vals [] [] := .nil
theorem kv_cons {v : V} {u : Value} {vs : List V} {us : List Value} (h : RelV v u) (t : Vals vs us) : Vals (v :: vs) (u :: us) := .cons h t
/-- a tuple that the module made -/
theorem kt_tup {K : PySem.W.Frag} {F : Hp} {a : Addr} {o : Obj} {its : Array Value} {n : Nat} {vs : List V} {ds : List PyData} (h : K.lookup a = some o) (hc : o.cls = .type "tuple") (hd : o.data = .seq its n) (hn : Nat.ble its.size 100000 = true) (hv : Vals vs its.toList) (h2 : DpAll K F vs ds) : Dp K F (.ref a) (.tuple ds) :=
  .tup (.inr ⟨o, its, n, h, hc, hd, small hn, hv⟩) h2
section
variable {Y : Ct} {γ γ' : List S} {M M1 M2 M3 : MM} {s s1 s2 s3 : S} {pos p : Pos} {x : Str}
theorem e_con {u : Value} {v : V} {d : PyData} (hm : Y.X.mg x = some u) (r : RelV v u) (hv : ∀ F, Dp Y.X.K F v d) (hg : Gl Y.X x := by rfl) (hd : (x == ("__debug__" : Str)) = false := by decide) : EV Y (.Name x pos) γ M (.d d) M :=
  e_c (pe_glob hg hm r hd) hv
theorem e_call0 {k : Nat} {f : Addr} {fd : FuncData} {ps : List Str} {cn : Con} (G : FnOk Y.X.prog Y.X.w Y.X.K Y.X.mg Y.X.base (L2.CX Y.X.prog Y.X.w) k f fd ps (spD Y.X.K cn)) (hr : Room k Y.X.A) (hm : Y.X.mg x = some (.ref f)) (hk : PySem.W.keepIn Y.X.K (.ref f) = true) (hb : Binds Y.X.K fd ps [])
    (tk : Takes Y.X Y.Er) (h : cn [] M (fun r M' => r = s ∧ M' = M2) (fun _ _ => False)) (hg : Gl Y.X x := by rfl) (hdb : (x == ("__debug__" : Str)) = false := by decide) : EV Y (.Call (.Name x p) [] [] pos) γ M s M2 :=
  ⟨PE.imp (pe_call0 G hr hg hm hk hb .nil (E := fun _ _ _ => False) (fun pins σ H s e s' => passes_call tk (fun _ _ _ _ z => z.elim) pins σ H s e s') hdb) fun σ H Q ⟨F, rl, q, ex⟩ => by
    refine ⟨F, M, [], _, _, .nil, rl.hm, h, fun F' v r M' H' e2 h2 v2 hR => ?_, fun cls M' F' H' e2 h2 hR => hR⟩
    obtain ⟨rfl, rfl⟩ := hR
    exact q F' v H' e2 (rl.ext e2 h2) v2⟩
end
end Mi

/-! Mi: in ranges, in lists. -/
namespace Mi
open PySem PySem.Spec PyProof.Rows L2
section
variable {X : Cx}
theorem op_notin_rng : OpR X (compareOp .NotIn) (fun x y H Q => ∃ i a lo hi, x = V.int i ∧ y = V.ref a ∧ H a = some (.rng lo hi) ∧ Q (.bl (!decide (lo ≤ i ∧ i < hi))) H) := by
  intro pins s σ H x y v u Q I rx ry h
  obtain ⟨i, a, lo, hi, rfl, rfl, ha, q⟩ := h
  obtain ⟨k, rfl⟩ := rx
  cases (show u = Value.ref a from ry)
  obtain ⟨t1, t2, t3, ho⟩ := I.hok a _ ha
  refine wpAny_bind (wpAny_contains_slot (T := "range") ⟨_, ho, rfl⟩ F.slot_range_contains (call_meets F.slot_range_contains ⟨_, ho, rfl⟩ F.entry_range_contains (F.args_range_contains_2 _ _) (q_contains a lo hi i t1 t2 t3 k) ⟨ho, wpAny_truthy_bool (wpAny_pure ⟨.bl _, H, I, rfl, ?_⟩)⟩))
  rw [place1]
  exact q
theorem cr_range1 : CallR X (.type "range") (fun vs H Q => ∃ j, vs = [V.int j] ∧ ∀ p, H p = none → Q (.ref p) (upd H p (.rng 0 j))) := by
  intro pins s σ H vs us Q I r h
  obtain ⟨j, rfl, q⟩ := h
  cases r with
  | cons rj rr =>
    cases rr
    obtain ⟨t, rfl⟩ := rj
    refine call_range_1 ⟨.ref s.heap.objs.size, upd H s.heap.objs.size (.rng 0 j), I.laid (t' := s.toks + 1 + 1) (fun b o e => Heap.get?_push_of_some _ e) (Nat.le_refl _) ?_, rfl, q _ (I.hok.fresh (Nat.le_refl _))⟩
    exact ⟨s.toks, t, s.toks + 1, Heap.get?_push_size _ rfl⟩
end
section
variable {Y : Ct} {γ γ' : List S} {M M1 M2 M3 : MM} {s s1 s2 s3 : S} {a b c : Expr} {pos p p2 : Pos} {i n : Int}
theorem t_notinR (ha : EV Y a γ M (.d (.int i)) M1) (hb : EA Y [b] γ M1 [.d (.int n)] M2) (hm : Y.X.mg "range" = none) (hg : Gl Y.X "range" := by rfl) (he : starEach [b] Y.X.env = (false, eval b Y.X.env) :: starEach [] Y.X.env := by rfl) (hpl : (backTo p2 (starEach [] Y.X.env)).any (·.1) = false := by rfl) (hmk : behindInMarks .NotIn (.Call (.Name "range" p) [b] [] p2) = false := by with_unfolding_all rfl) :
    ET Y (.Compare a [.NotIn] [.Call (.Name "range" p) [b] [] p2] pos) γ M (!decide (0 ≤ i ∧ i < n)) M2 :=
  ⟨PT.imp (pt_cmpR op_notin_rng ha.pe (pe_callTy cr_range1 hg hm (by decide +kernel) hb.pa (by decide) (by decide) he hpl) hmk) fun σ H Q ⟨F, rl, q, ex⟩ => ⟨F, rl, fun F1 v H1 e1 r1 v1 => ⟨F1, r1, fun F2 vs H2 e2 r2 v2 => by
    cases v1
    obtain ⟨w, rfl, w1⟩ := pair_one v2
    cases w1
    refine ⟨n, rfl, fun l hl => ⟨i, l, 0, n, rfl, rfl, upd_same, _, rfl, ?_⟩⟩
    obtain ⟨e3, h3⟩ := r2.hm.newF hl (.rng 0 n)
    exact q _ _ ((e1.trans e2).trans e3) (r2.ext e3 h3), ex.mono e1⟩, ex⟩⟩
theorem rv_inD {K : PySem.W.Frag} {d : PyData} {ds : List PyData} {z : Bool} (v1 : Vw M s1 d) (v2 : Vw M s2 (.list ds)) (h1 : SeqAt.shaped d = true) (h2 : SeqAt.shaped (.list ds) = true) (hz : ds.any (fun z => PyData.eqv z d) = z) : RV K (rInD K) s1 s2 M (.d (.bool z)) M :=
  ⟨fun F v w H Q hm r1 r2 q => ⟨d, ds, v1.ok hm r1, v2.ok hm r2, h1, h2, q F _ H (Same.refl F) hm (hz ▸ .bl _)⟩⟩
theorem rv_notInD {K : PySem.W.Frag} {d : PyData} {ds : List PyData} {z : Bool} (v1 : Vw M s1 d) (v2 : Vw M s2 (.list ds)) (h1 : SeqAt.shaped d = true) (h2 : SeqAt.shaped (.list ds) = true) (hz : ds.any (fun z => PyData.eqv z d) = z) : RV K (rNotInD K) s1 s2 M (.d (.bool (!z))) M :=
  ⟨fun F v w H Q hm r1 r2 q => ⟨d, ds, v1.ok hm r1, v2.ok hm r2, h1, h2, q F _ H (Same.refl F) hm (hz ▸ .bl _)⟩⟩
theorem room65 {k : Nat} {A : Around} (hr : Room k A) : A.units + 65 < cLine := by have := hr.un; omega
theorem t_inD {k : Nat} (hr : Room k Y.X.A) {d : PyData} {ds : List PyData} {z : Bool} (ha : EV Y a γ M s1 M1) (hb : EV Y b γ M1 s2 M2) (v1 : Vw M2 s1 d) (v2 : Vw M2 s2 (.list ds)) (h1 : SeqAt.shaped d = true) (h2 : SeqAt.shaped (.list ds) = true) (hz : ds.any (fun z => PyData.eqv z d) = z) (hmk : behindInMarks .In b = false := by with_unfolding_all rfl) :
    ET Y (.Compare a [.In] [b] pos) γ M z M2 := t_bin (fun h1 h2 => pt_cmpR (op_inD (room65 hr)) h1 h2 hmk) ha hb (rv_inD v1 v2 h1 h2 hz)
theorem t_notInD {k : Nat} (hr : Room k Y.X.A) {d : PyData} {ds : List PyData} {z : Bool} (ha : EV Y a γ M s1 M1) (hb : EV Y b γ M1 s2 M2) (v1 : Vw M2 s1 d) (v2 : Vw M2 s2 (.list ds)) (h1 : SeqAt.shaped d = true) (h2 : SeqAt.shaped (.list ds) = true) (hz : ds.any (fun z => PyData.eqv z d) = z) (hmk : behindInMarks .NotIn b = false := by with_unfolding_all rfl) :
    ET Y (.Compare a [.NotIn] [b] pos) γ M (!z) M2 := t_bin (fun h1 h2 => pt_cmpR (op_notInD (room65 hr)) h1 h2 hmk) ha hb (rv_notInD v1 v2 h1 h2 hz)
end
end Mi

/-! Mi: tuples put together, slices of tuples of any kind. -/
namespace Mi
open PySem PySem.Spec PyProof.Rows L2
section
variable {Y : Ct} {γ γ' : List S} {M M1 M2 M3 : MM} {s s1 s2 s3 : S} {a b c : Expr} {pos p p2 : Pos}
theorem e_catT {xs ys : List PyData} (ha : EV Y a γ M (.d (.tuple xs)) M1) (hb : EV Y b γ M1 (.d (.tuple ys)) M2) (hl : xs.length + ys.length ≤ 100000) : EV Y (.BinOp a .Add b pos) γ M (.d (.tuple (xs ++ ys))) M2 :=
  ⟨PE.imp (pe_op op_catA ha.pe hb.pe) fun σ H Q ⟨F, rl, q, ex⟩ => ⟨F, rl, fun F1 v H1 e1 r1 w1 => ⟨F1, r1, fun F2 w H2 e2 r2 w2 => by
    have w1' := w1.mono e2
    cases w1' with
    | tup h1 h2 =>
      rename_i l vs
      cases w2 with
      | tup h3 h4 =>
        rename_i l2 us
        have e5 := dps_len h2
        have e6 := dps_len h4
        refine ⟨l, l2, vs, us, rfl, rfl, same_t r2.hm.fh h1, same_t r2.hm.fh h3, by rw [e5, e6]; exact Nat.le_trans hl (by decide), fun hv => ?_, fun hv hu => ?_, fun hv hu p hp => ?_⟩
        · subst hv
          cases h2
          exact q F2 _ H2 (e1.trans e2) r2 (.tup h3 h4)
        · subst hu
          cases h4
          rw [List.append_nil] at q
          exact q F2 _ H2 (e1.trans e2) r2 (.tup h1 h2)
        · obtain ⟨e7, h7⟩ := r2.hm.newF hp (.tup (vs ++ us))
          have h8 : DpAll Y.X.K F2 (vs ++ us) (xs ++ ys) := all_d (by rw [List.map_append]; exact pair_app (d_all h2) (d_all h4))
          exact q _ _ _ ((e1.trans e2).trans e7) (r2.ext e7 h7) (.tup (.inl (.inl upd_same)) (dps_mono e7 _ _ h8)), ex.mono e1⟩, ex⟩⟩
theorem cutL_all {α : Type} {ds : List α} {l h : Option Int} (z : HT.sIx ds.length 0 l = 0 ∧ HT.sIx ds.length ds.length h = ds.length) : cutL ds l h = ds := by
  unfold cutL
  rw [z.1, z.2]
  simp
theorem e_sliceA {ds : List PyData} {lo hi : Option Expr} {l h : Option Int} (ha : EV Y a γ M (.d (.tuple ds)) M1) (h1 : EO Y lo γ M1 l) (h2 : EO Y hi γ M1 h) :
    EV Y (.Subscript a (.Slice lo hi none p2) pos) γ M (.d (.tuple (cutL ds l h))) M1 := by
  obtain ⟨tl, pl, ql⟩ := h1.ex
  obtain ⟨th, ph, qh⟩ := h2.ex
  refine ⟨PE.imp (pe_slice sl_tupA ha.pe pl ph) fun σ H Q ⟨F, r, q, ex⟩ => ⟨F, r, fun F1 v H1 e1 r1 w1 => ql F1 σ H1 _ r1 (ex.mono e1) fun F2 H2 e2 r2 => qh F2 σ H2 _ r2 (ex.mono (e1.trans e2)) fun F3 H3 e3 r3 => ?_, ex⟩⟩
  have w3 := w1.mono (e2.trans e3)
  cases w3 with
  | tup g1 g2 =>
    have e5 := dps_len g2
    refine ⟨_, _, rfl, same_t r3.hm.fh g1, fun z => ?_, fun z p hp => ?_⟩
    · rw [e5] at z
      rw [cutL_all z] at q
      exact q F3 _ H3 ((e1.trans e2).trans e3) r3 (.tup g1 g2)
    · obtain ⟨e5, h5⟩ := r3.hm.newF hp (.tup _)
      exact q _ _ _ (((e1.trans e2).trans e3).trans e5) (r3.ext e5 h5) (.tup (.inl (.inl upd_same)) (dps_mono e5 _ _ (dps_cut g2)))
end
end Mi

/-! Mi: appended what is not told by one term; lists put together, both so. -/
namespace Mi
open PySem PySem.Spec PyProof.Rows L2
section
variable {Y : Ct} {γ γ' : List S} {M M1 M2 M3 : MM} {s s1 s2 s3 : S} {e a b c o it tg : Expr} {pos p p2 : Pos} {x : Str} {es : List Expr} {ss : List S} {P : Po} {Q : S → MM → Prop}
theorem q_append {q : Addr} {apos : Pos} (ho : EV Y o γ M (.ob q) M1) (hk1 : ∃ (k1 : Nat) (ys : List S), M1[k1]? = some (q, MO.lst ys))
    (he : EQ Y e γ M1 fun s M2 => ∃ (k : Nat) (xs : List S), M2[k]? = some (q, .lst xs) ∧ xs.length < 100000 ∧ Q (.d .none) (M2.set k (q, .lst (xs ++ [s]))))
    (hbase : attributeBase o "append" Y.X.env (eval o Y.X.env) = eval o Y.X.env := by rfl)
    (hfew : ((backTo pos (starEach [e] Y.X.env)).all (fun x => !x.1) && (backToKw pos (keywordEach [] Y.X.env)).all (fun x => x.1.isSome)
      && decide ([e].length + ([] : List Keyword).length + (if ([] : List Keyword).isEmpty then 0 else 1) < 30)) = true := by rfl)
    (hline : (apos.endLine == pos.line) = true := by rfl) (hs : starEach [e] Y.X.env = (false, eval e Y.X.env) :: starEach [] Y.X.env := by rfl) (hplain : (backTo pos (starEach [] Y.X.env)).any (·.1) = false := by rfl) :
    EQ Y (.Call (.Attribute o "append" apos) [e] [] pos) γ M Q :=
  ⟨PE.imp (pe_bm PySem.F.plainAttrs_list PySem.F.slot_list_append PySem.F.type_list_append mt_append ho.pe (pa_cons he.pe pa_nil hs) hbase hfew hline hs hplain) fun σ H R ⟨F, r, qq, ex⟩ => ⟨F, r, fun F1 v H1 e1 r1 v1 => by
    cases v1
    obtain ⟨k1, ys, hk1⟩ := hk1
    obtain ⟨_, ws, g1, _⟩ := r1.hm.mo _ _ (List.mem_of_getElem? hk1)
    refine ⟨Or.inl ⟨rfl, ws, .of g1⟩, F1, r1, fun F2 v s M2 H2 e2 r2 sv ⟨k, xs, hk, hl, hQ⟩ => ?_, ex.mono e1⟩
    obtain ⟨_, us, f1, f2⟩ := r2.hm.mo _ _ (List.mem_of_getElem? hk)
    refine ⟨q, us, v, rfl, rfl, f1, by rw [pair_len f2]; exact Nat.lt_of_lt_of_le hl (by decide), ?_⟩
    have hM := r2.hm.setM hk (o := .lst (us ++ [v])) (m := .lst (xs ++ [s])) ⟨_, upd_same, pair_app f2 (.cons sv .nil)⟩
    exact qq F2 .non (.d .none) _ _ (e1.trans e2) ⟨hM, r2.sl⟩ Dp.non hQ, ex⟩⟩
theorem q_cat2 (ha : EQ Y a γ M fun s1 M1 => EQ Y b γ M1 fun s2 M2 => ∃ xs zs, VL M2 s1 xs ∧ VL M2 s2 zs ∧ xs.length + zs.length ≤ 100000 ∧ ∀ p, Q (.ob p) (M2 ++ [(p, .lst (xs ++ zs))])) : EQ Y (.BinOp a .Add b pos) γ M Q :=
  ⟨PE.imp (pe_op op_catL ha.pe uE_ok) fun σ H R ⟨F, rl, q, ex⟩ => ⟨F, rl, fun F1 v s1 M1 H1 e1 r1 w1 hb => ⟨_, hb.pe, F1, r1, fun F2 w s2 M2 H2 e2 r2 w2 ⟨xs, zs, v1, v2, hl, hQ⟩ => by
    obtain ⟨l, vs, rfl, h1, h2⟩ := v1.ok r2.hm (w1.mono e2)
    obtain ⟨b, us, rfl, h3, h4⟩ := v2.ok r2.hm w2
    refine ⟨l, b, vs, us, rfl, rfl, h1, h3, by rw [pair_len h2, pair_len h4]; exact Nat.le_trans hl (by decide), fun p hp => ?_⟩
    have h5 := r2.hm.newM hp (o := .lst (vs ++ us)) (m := .lst (xs ++ zs)) ⟨_, upd_same, pair_app h2 h4⟩
    exact q F2 _ (.ob p) _ _ (e1.trans e2) ⟨h5, r2.sl⟩ rfl (hQ p), ex.mono e1⟩, ex⟩⟩
end
end Mi

/-! Mi: which of two data is ahead; the greater and the lesser of two. -/
namespace Mi
open PySem PySem.Spec PyProof.Rows L2
def rOrdD (f : PyData → PyData → Bool) (K : PySem.W.Frag) : R2 := fun x y H Q => ∃ d e, Dp K H x d ∧ Dp K H y e ∧ PySem.W.alike d e = true ∧ d ≠ .none ∧ min d.depth e.depth ≤ 60 ∧ Q (.bl (f d e)) H
section
variable {X : Cx}
theorem op_ltD (hu : X.A.units + 64 < cLine) : OpR X (compareOp .Lt) (rOrdD (fun d e => PySem.W.dataLt d e) X.K) := by
  intro pins s σ H x y v u Q I rx ry h
  obtain ⟨d, e, hd, he, al, nn, dp, q⟩ := h
  obtain ⟨as, r1⟩ := Dp.reads I d x v hd rx
  obtain ⟨bs, r2⟩ := Dp.reads I e y u he ry
  exact PySem.W.lt_data r1 r2 al nn (by omega) ⟨.bl _, H, I, rfl, q⟩
theorem op_gtD (hu : X.A.units + 64 < cLine) : OpR X (compareOp .Gt) (rOrdD (fun d e => PySem.W.dataLt e d) X.K) := by
  intro pins s σ H x y v u Q I rx ry h
  obtain ⟨d, e, hd, he, al, nn, dp, q⟩ := h
  obtain ⟨as, r1⟩ := Dp.reads I d x v hd rx
  obtain ⟨bs, r2⟩ := Dp.reads I e y u he ry
  exact PySem.W.gt_data r1 r2 al nn (by omega) ⟨.bl _, H, I, rfl, q⟩
theorem op_leD (hu : X.A.units + 64 < cLine) : OpR X (compareOp .LtE) (rOrdD (fun d e => !PySem.W.dataLt e d) X.K) := by
  intro pins s σ H x y v u Q I rx ry h
  obtain ⟨d, e, hd, he, al, nn, dp, q⟩ := h
  obtain ⟨as, r1⟩ := Dp.reads I d x v hd rx
  obtain ⟨bs, r2⟩ := Dp.reads I e y u he ry
  exact PySem.W.le_data r1 r2 al nn (by omega) ⟨.bl _, H, I, rfl, q⟩
theorem op_geD (hu : X.A.units + 64 < cLine) : OpR X (compareOp .GtE) (rOrdD (fun d e => !PySem.W.dataLt d e) X.K) := by
  intro pins s σ H x y v u Q I rx ry h
  obtain ⟨d, e, hd, he, al, nn, dp, q⟩ := h
  obtain ⟨as, r1⟩ := Dp.reads I d x v hd rx
  obtain ⟨bs, r2⟩ := Dp.reads I e y u he ry
  exact PySem.W.ge_data r1 r2 al nn (by omega) ⟨.bl _, H, I, rfl, q⟩
end
section
variable {prog : Program} {w : World} {A : Around} {E : Value → Shared → Prop} {s : Shared} {a b : Value} {k : Bool} {Q : Value → Shared → Prop}
/-- of two values, the second one taken where it compares so: two turns of the loop, then its end -/
theorem max_pair (hh : A.handled = none) (hc : ∀ (g : Heap) (tk : Nat) (Q' E' : Value → Shared → Prop), (∀ c o, s.heap.get? c = some o → g.get? c = some o) → Q' (.bool k) { s with heap := g, toks := tk } → wpAny (model prog w) A.in1 (richCompare .Gt b a) Q' E' { s with heap := g, toks := tk })
    (h : ∀ (g : Heap) (tk : Nat), (∀ c o, s.heap.get? c = some o → g.get? c = some o) → Q (if k = true then b else a) { s with heap := g, toks := tk }) : wpAny (model prog w) A (call (.builtin "max") [a, b]) Q E s := by
  have nm2 : (toString "max" ++ toString ".loop" : String) = "max.loop" := by decide
  have tup : (s.heap.push { cls := .type "tuple", data := .seq #[a, b] }).IsTuple s.heap.objs.size #[a, b] := ⟨_, Heap.get?_push_size _ rfl, rfl, 0, rfl⟩
  have none2 : Builtin.Builtins.bindParams "max" ["key", "default"] 0 ⟨[], []⟩ = pure [none, none] := rfl
  refine call_function_tree F.kind_max F.plain_max F.entry_max (F.args_max2 a b) ?_
  show wpAny (model prog w) A.in1 (Builtin.Builtins.bindParams "max" ["key", "default"] 0 ⟨[], []⟩ >>= _) _ _ s
  refine wpAny_bind (wpAny_of_eq none2 ?_)
  show wpAny (model prog w) A.in1 (newTuple [a, b] >>= _) _ _ s
  refine wpAny_bind (wpAny_newObj_type (wpAny_bind (wpAny_pyIter_tuple tup ?_)))
  have k1 : ∀ c o, s.heap.get? c = some o → (s.heap.push { cls := .type "tuple", data := .seq #[a, b] }).get? c = some o := fun c o e => Heap.get?_push_of_some _ e
  have lt0 : ∀ c o, s.heap.get? c = some o → c < s.heap.objs.size := fun c o e => Heap.lt_size e
  have z1 : (s.heap.push { cls := .type "tuple", data := .seq #[a, b] }).objs.size = s.heap.objs.size + 1 := Heap.size_push ..
  generalize s.heap.objs.size = t at *
  generalize s.heap.push { cls := .type "tuple", data := .seq #[a, b] } = g1 at *
  have Wk := Walks.tuple (prog := prog) (w := w) (A := A.in1) hh (t + 1) t (Nat.ne_of_lt (Nat.lt_succ_self t)) #[a, b]
  refine wpAny_bind (wpAny_newObj_type ?_)
  rw [z1, nm2]
  have q2 : (g1.push { cls := .type "tuple_iterator", data := .fields #[.ref t, .int 0 0] }).get? (t + 1) = some { cls := .type "tuple_iterator", data := .fields #[.ref t, .int 0 0] } := by rw [← z1]; exact Heap.get?_push_size _ rfl
  have k2 : ∀ c o, g1.get? c = some o → (g1.push { cls := .type "tuple_iterator", data := .fields #[.ref t, .int 0 0] }).get? c = some o := fun c o e => Heap.get?_push_of_some _ e
  have z2 : (g1.push { cls := .type "tuple_iterator", data := .fields #[.ref t, .int 0 0] }).objs.size = t + 2 := (Heap.size_push ..).trans (by rw [z1])
  have it2 : (g1.push { cls := .type "tuple_iterator", data := .fields #[.ref t, .int 0 0] }).IsTupleIter (t + 1) t 0 := ⟨_, q2, rfl, rfl⟩
  have tup2 := tup.push { cls := .type "tuple_iterator", data := .fields #[.ref t, .int 0 0] }
  generalize g1.push { cls := .type "tuple_iterator", data := .fields #[.ref t, .int 0 0] } = g2 at *
  refine wpAny_pure ⟨plainId_quiet F.plain_max_loop _, ?_⟩
  have q3 : (g2.push { cls := .type "list", data := .seq #[] }).get? (t + 2) = some { cls := .type "list", dict := none, data := .seq #[] 0, slots := #[] } := by rw [← z2]; exact Heap.get?_push_size _ rfl
  have k3 : ∀ c o, g2.get? c = some o → (g2.push { cls := .type "list", data := .seq #[] }).get? c = some o := fun c o e => Heap.get?_push_of_some _ e
  show codeAny (model prog w) A (.builtin "max.loop" ⟨[.ref (t + 1), .none, .ref g2.objs.size], []⟩) _ { s with heap := g2.push { cls := .type "list", data := .seq #[] } }
  rw [z2]
  have st3 : (g2.push { cls := .type "list", data := .seq #[] }).IsTupleIter (t + 1) t 0 ∧ (g2.push { cls := .type "list", data := .seq #[] }).IsTuple t #[a, b] := ⟨it2.at fun o e => k3 _ o e, tup2.push _⟩
  have n1 : t + 2 ∉ [t + 1] := fun z => by have := List.mem_singleton.mp z; exact absurd (Nat.add_left_cancel this) (by decide)
  have o3 : ∀ c o, s.heap.get? c = some o → (g2.push { cls := .type "list", data := .seq #[] }).get? c = some o := fun c o e => k3 c o (k2 c o (k1 c o e))
  have far1 : ∀ c o, s.heap.get? c = some o → c ∉ [t + 1] := fun c o e z => by
    have h1 := List.mem_singleton.mp z
    have h2 := lt0 c o e
    rw [h1] at h2
    exact absurd h2 (Nat.not_lt.mpr (Nat.le_succ t))
  have far2 : ∀ c o, s.heap.get? c = some o → t + 2 ≠ c := fun c o e z => by
    have h2 := lt0 c o e
    rw [← z] at h2
    exact absurd h2 (Nat.not_lt.mpr (Nat.le_add_right t 2))
  generalize g2.push { cls := .type "list", data := .seq #[] } = g3 at *
  -- the first item
  refine codeAny_builtin (F.entry_max_loop) ?_; rw [Around.under_plainId (F.plain_max_loop) _]
  show wpAny (model prog w) A.in1 (seqItems? (.ref (t + 2)) >>= _) _ _ _
  refine wpAny_bind (wpAny_seqItems q3 rfl ?_)
  show wpAny (model prog w) A.in1 (tryCatch (pyNext (.ref (t + 1))) _ >>= _) _ _ _
  refine wpAny_bind (wpAny_tryCatch (Wk.item 0 _ _ _ (show (0 : Nat) < 2 by decide) st3 fun v1 g4 tk4 p1 st4 k4 => ?_))
  obtain rfl : a = v1 := Option.some.inj p1
  have q4 := k4 _ _ n1 q3
  show wpAny (model prog w) A.in1 (updateSeq (t + 2) (fun _ => #[a, a]) >>= _) _ _ _
  refine wpAny_bind (wpAny_updateSeq q4 rfl ?_); rw [nm2]
  have q5 := Heap.get?_update_self (Obj.mapSeq fun _ => #[a, a]) q4 rfl
  have k5 : ∀ c o, c ≠ t + 2 → g4.get? c = some o → (g4.update (t + 2) (Obj.mapSeq fun _ => #[a, a])).get? c = some o := fun c o e z => (Heap.get?_update_other _ _ (Ne.symm e)).trans z
  generalize g4.update (t + 2) (Obj.mapSeq fun _ => #[a, a]) = g5 at *
  have st5 : g5.IsTupleIter (t + 1) t 1 ∧ g5.IsTuple t #[a, b] := ⟨st4.1.at fun o e => k5 _ o (Nat.ne_of_lt (Nat.lt_succ_self (t + 1))) e, st4.2.at fun o e => k5 _ o (Nat.ne_of_lt (Nat.lt_add_of_pos_right (by decide))) e⟩
  have o5 : ∀ c o, s.heap.get? c = some o → g5.get? c = some o := fun c o e => k5 c o (Ne.symm (far2 c o e)) (k4 c o (far1 c o e) (o3 c o e))
  refine wpAny_pure ⟨plainId_quiet (F.plain_max_loop) _, ?_⟩
  -- the second item
  refine codeAny_builtin (F.entry_max_loop) ?_; rw [Around.under_plainId (F.plain_max_loop) _]
  show wpAny (model prog w) A.in1 (seqItems? (.ref (t + 2)) >>= _) _ _ _
  refine wpAny_bind (wpAny_seqItems q5 rfl ?_)
  show wpAny (model prog w) A.in1 (tryCatch (pyNext (.ref (t + 1))) _ >>= _) _ _ _
  refine wpAny_bind (wpAny_tryCatch (Wk.item 1 _ _ _ (show (1 : Nat) < 2 by decide) st5 fun v2 g6 tk6 p2 st6 k6 => ?_))
  obtain rfl : b = v2 := Option.some.inj p2
  have q6 := k6 _ _ n1 q5
  have o6 : ∀ c o, s.heap.get? c = some o → g6.get? c = some o := fun c o e => k6 c o (far1 c o e) (o5 c o e)
  show wpAny (model prog w) A.in1 (tryCatch (holding [b, b] (richCompare .Gt b a >>= _)) _ >>= _) _ _ _
  refine wpAny_bind (wpAny_tryCatch (wpAny_holding (wpAny_bind (hc g6 tk6 _ _ o6 (wpAny_bind (wpAny_holding (wpAny_truthy_bool ?_)))))))
  refine wpAny_bind (wpAny_letGo (wpAny_pure ?_))
  have last : ∀ (u : Value) (g7 : Heap), (∀ c o, s.heap.get? c = some o → g7.get? c = some o) → g7.IsTupleIter (t + 1) t 2 ∧ g7.IsTuple t #[a, b] → (∃ n, g7.get? (t + 2) = some { cls := .type "list", dict := none, data := .seq #[u, u] n, slots := #[] }) →
      (∀ (g : Heap) (tk : Nat), (∀ c o, s.heap.get? c = some o → g.get? c = some o) → Q u { s with heap := g, toks := tk }) →
      codeAny (model prog w) A (.builtin "max.loop" ⟨[.ref (t + 1), .none, .ref (t + 2)], []⟩) (fun r s' => match r with | .ok (.ret v) => Q v s' | .ok _ => False | .error e => E e s') { s with heap := g7, toks := tk6 } := by
    intro u g7 o7 st7 ⟨n, q7⟩ hQ
    refine codeAny_builtin (F.entry_max_loop) ?_; rw [Around.under_plainId (F.plain_max_loop) _]
    show wpAny (model prog w) A.in1 (seqItems? (.ref (t + 2)) >>= _) _ _ _
    refine wpAny_bind (wpAny_seqItems q7 rfl ?_)
    show wpAny (model prog w) A.in1 (tryCatch (pyNext (.ref (t + 1))) _ >>= _) _ _ _
    refine wpAny_bind (wpAny_tryCatch (Wk.done _ _ _ st7 fun g8 tk8 k8 => ?_))
    have q8 := k8 _ _ n1 q7
    show wpAny (model prog w) A.in1 (updateSeq (t + 2) (fun _ => #[]) >>= _) _ _ _
    refine wpAny_bind (wpAny_updateSeq q8 rfl (wpAny_bind (wpAny_letGo (wpAny_pure ?_))))
    exact hQ _ _ fun c o e => (Heap.get?_update_other _ _ (far2 c o e)).trans (k8 c o (far1 c o e) (o7 c o e))
  cases k with
  | true =>
    simp only [if_true]
    refine wpAny_bind (wpAny_updateSeq q6 rfl (wpAny_bind (wpAny_letGo ?_))); rw [nm2]
    have q7 := Heap.get?_update_self (Obj.mapSeq fun _ => #[b, b]) q6 rfl
    have k7 : ∀ c o, c ≠ t + 2 → g6.get? c = some o → (g6.update (t + 2) (Obj.mapSeq fun _ => #[b, b])).get? c = some o := fun c o e z => (Heap.get?_update_other _ _ (Ne.symm e)).trans z
    generalize g6.update (t + 2) (Obj.mapSeq fun _ => #[b, b]) = g7 at *
    refine wpAny_pure ⟨plainId_quiet (F.plain_max_loop) _, ?_⟩
    exact last b g7 (fun c o e => k7 c o (Ne.symm (far2 c o e)) (o6 c o e)) ⟨st6.1.at fun o e => k7 _ o (Nat.ne_of_lt (Nat.lt_succ_self (t + 1))) e, st6.2.at fun o e => k7 _ o (Nat.ne_of_lt (Nat.lt_add_of_pos_right (by decide))) e⟩ ⟨_, q7⟩ h
  | false =>
    simp only [Bool.false_eq_true, if_false] at h ⊢
    refine wpAny_bind (wpAny_letGo ?_); rw [nm2]
    refine wpAny_pure ⟨plainId_quiet (F.plain_max_loop) _, ?_⟩
    exact last a g6 o6 st6 ⟨_, q6⟩ h
/-- of two values, the second one taken where it compares so: two turns of the loop, then its end -/
theorem min_pair (hh : A.handled = none) (hc : ∀ (g : Heap) (tk : Nat) (Q' E' : Value → Shared → Prop), (∀ c o, s.heap.get? c = some o → g.get? c = some o) → Q' (.bool k) { s with heap := g, toks := tk } → wpAny (model prog w) A.in1 (richCompare .Lt b a) Q' E' { s with heap := g, toks := tk })
    (h : ∀ (g : Heap) (tk : Nat), (∀ c o, s.heap.get? c = some o → g.get? c = some o) → Q (if k = true then b else a) { s with heap := g, toks := tk }) : wpAny (model prog w) A (call (.builtin "min") [a, b]) Q E s := by
  have nm2 : (toString "min" ++ toString ".loop" : String) = "min.loop" := by decide
  have tup : (s.heap.push { cls := .type "tuple", data := .seq #[a, b] }).IsTuple s.heap.objs.size #[a, b] := ⟨_, Heap.get?_push_size _ rfl, rfl, 0, rfl⟩
  have none2 : Builtin.Builtins.bindParams "min" ["key", "default"] 0 ⟨[], []⟩ = pure [none, none] := rfl
  refine call_function_tree F.kind_min F.plain_min F.entry_min (F.args_min2 a b) ?_
  show wpAny (model prog w) A.in1 (Builtin.Builtins.bindParams "min" ["key", "default"] 0 ⟨[], []⟩ >>= _) _ _ s
  refine wpAny_bind (wpAny_of_eq none2 ?_)
  show wpAny (model prog w) A.in1 (newTuple [a, b] >>= _) _ _ s
  refine wpAny_bind (wpAny_newObj_type (wpAny_bind (wpAny_pyIter_tuple tup ?_)))
  have k1 : ∀ c o, s.heap.get? c = some o → (s.heap.push { cls := .type "tuple", data := .seq #[a, b] }).get? c = some o := fun c o e => Heap.get?_push_of_some _ e
  have lt0 : ∀ c o, s.heap.get? c = some o → c < s.heap.objs.size := fun c o e => Heap.lt_size e
  have z1 : (s.heap.push { cls := .type "tuple", data := .seq #[a, b] }).objs.size = s.heap.objs.size + 1 := Heap.size_push ..
  generalize s.heap.objs.size = t at *
  generalize s.heap.push { cls := .type "tuple", data := .seq #[a, b] } = g1 at *
  have Wk := Walks.tuple (prog := prog) (w := w) (A := A.in1) hh (t + 1) t (Nat.ne_of_lt (Nat.lt_succ_self t)) #[a, b]
  refine wpAny_bind (wpAny_newObj_type ?_)
  rw [z1, nm2]
  have q2 : (g1.push { cls := .type "tuple_iterator", data := .fields #[.ref t, .int 0 0] }).get? (t + 1) = some { cls := .type "tuple_iterator", data := .fields #[.ref t, .int 0 0] } := by rw [← z1]; exact Heap.get?_push_size _ rfl
  have k2 : ∀ c o, g1.get? c = some o → (g1.push { cls := .type "tuple_iterator", data := .fields #[.ref t, .int 0 0] }).get? c = some o := fun c o e => Heap.get?_push_of_some _ e
  have z2 : (g1.push { cls := .type "tuple_iterator", data := .fields #[.ref t, .int 0 0] }).objs.size = t + 2 := (Heap.size_push ..).trans (by rw [z1])
  have it2 : (g1.push { cls := .type "tuple_iterator", data := .fields #[.ref t, .int 0 0] }).IsTupleIter (t + 1) t 0 := ⟨_, q2, rfl, rfl⟩
  have tup2 := tup.push { cls := .type "tuple_iterator", data := .fields #[.ref t, .int 0 0] }
  generalize g1.push { cls := .type "tuple_iterator", data := .fields #[.ref t, .int 0 0] } = g2 at *
  refine wpAny_pure ⟨plainId_quiet F.plain_min_loop _, ?_⟩
  have q3 : (g2.push { cls := .type "list", data := .seq #[] }).get? (t + 2) = some { cls := .type "list", dict := none, data := .seq #[] 0, slots := #[] } := by rw [← z2]; exact Heap.get?_push_size _ rfl
  have k3 : ∀ c o, g2.get? c = some o → (g2.push { cls := .type "list", data := .seq #[] }).get? c = some o := fun c o e => Heap.get?_push_of_some _ e
  show codeAny (model prog w) A (.builtin "min.loop" ⟨[.ref (t + 1), .none, .ref g2.objs.size], []⟩) _ { s with heap := g2.push { cls := .type "list", data := .seq #[] } }
  rw [z2]
  have st3 : (g2.push { cls := .type "list", data := .seq #[] }).IsTupleIter (t + 1) t 0 ∧ (g2.push { cls := .type "list", data := .seq #[] }).IsTuple t #[a, b] := ⟨it2.at fun o e => k3 _ o e, tup2.push _⟩
  have n1 : t + 2 ∉ [t + 1] := fun z => by have := List.mem_singleton.mp z; exact absurd (Nat.add_left_cancel this) (by decide)
  have o3 : ∀ c o, s.heap.get? c = some o → (g2.push { cls := .type "list", data := .seq #[] }).get? c = some o := fun c o e => k3 c o (k2 c o (k1 c o e))
  have far1 : ∀ c o, s.heap.get? c = some o → c ∉ [t + 1] := fun c o e z => by
    have h1 := List.mem_singleton.mp z
    have h2 := lt0 c o e
    rw [h1] at h2
    exact absurd h2 (Nat.not_lt.mpr (Nat.le_succ t))
  have far2 : ∀ c o, s.heap.get? c = some o → t + 2 ≠ c := fun c o e z => by
    have h2 := lt0 c o e
    rw [← z] at h2
    exact absurd h2 (Nat.not_lt.mpr (Nat.le_add_right t 2))
  generalize g2.push { cls := .type "list", data := .seq #[] } = g3 at *
  -- the first item
  refine codeAny_builtin (F.entry_min_loop) ?_; rw [Around.under_plainId (F.plain_min_loop) _]
  show wpAny (model prog w) A.in1 (seqItems? (.ref (t + 2)) >>= _) _ _ _
  refine wpAny_bind (wpAny_seqItems q3 rfl ?_)
  show wpAny (model prog w) A.in1 (tryCatch (pyNext (.ref (t + 1))) _ >>= _) _ _ _
  refine wpAny_bind (wpAny_tryCatch (Wk.item 0 _ _ _ (show (0 : Nat) < 2 by decide) st3 fun v1 g4 tk4 p1 st4 k4 => ?_))
  obtain rfl : a = v1 := Option.some.inj p1
  have q4 := k4 _ _ n1 q3
  show wpAny (model prog w) A.in1 (updateSeq (t + 2) (fun _ => #[a, a]) >>= _) _ _ _
  refine wpAny_bind (wpAny_updateSeq q4 rfl ?_); rw [nm2]
  have q5 := Heap.get?_update_self (Obj.mapSeq fun _ => #[a, a]) q4 rfl
  have k5 : ∀ c o, c ≠ t + 2 → g4.get? c = some o → (g4.update (t + 2) (Obj.mapSeq fun _ => #[a, a])).get? c = some o := fun c o e z => (Heap.get?_update_other _ _ (Ne.symm e)).trans z
  generalize g4.update (t + 2) (Obj.mapSeq fun _ => #[a, a]) = g5 at *
  have st5 : g5.IsTupleIter (t + 1) t 1 ∧ g5.IsTuple t #[a, b] := ⟨st4.1.at fun o e => k5 _ o (Nat.ne_of_lt (Nat.lt_succ_self (t + 1))) e, st4.2.at fun o e => k5 _ o (Nat.ne_of_lt (Nat.lt_add_of_pos_right (by decide))) e⟩
  have o5 : ∀ c o, s.heap.get? c = some o → g5.get? c = some o := fun c o e => k5 c o (Ne.symm (far2 c o e)) (k4 c o (far1 c o e) (o3 c o e))
  refine wpAny_pure ⟨plainId_quiet (F.plain_min_loop) _, ?_⟩
  -- the second item
  refine codeAny_builtin (F.entry_min_loop) ?_; rw [Around.under_plainId (F.plain_min_loop) _]
  show wpAny (model prog w) A.in1 (seqItems? (.ref (t + 2)) >>= _) _ _ _
  refine wpAny_bind (wpAny_seqItems q5 rfl ?_)
  show wpAny (model prog w) A.in1 (tryCatch (pyNext (.ref (t + 1))) _ >>= _) _ _ _
  refine wpAny_bind (wpAny_tryCatch (Wk.item 1 _ _ _ (show (1 : Nat) < 2 by decide) st5 fun v2 g6 tk6 p2 st6 k6 => ?_))
  obtain rfl : b = v2 := Option.some.inj p2
  have q6 := k6 _ _ n1 q5
  have o6 : ∀ c o, s.heap.get? c = some o → g6.get? c = some o := fun c o e => k6 c o (far1 c o e) (o5 c o e)
  show wpAny (model prog w) A.in1 (tryCatch (holding [b, b] (richCompare .Lt b a >>= _)) _ >>= _) _ _ _
  refine wpAny_bind (wpAny_tryCatch (wpAny_holding (wpAny_bind (hc g6 tk6 _ _ o6 (wpAny_bind (wpAny_holding (wpAny_truthy_bool ?_)))))))
  refine wpAny_bind (wpAny_letGo (wpAny_pure ?_))
  have last : ∀ (u : Value) (g7 : Heap), (∀ c o, s.heap.get? c = some o → g7.get? c = some o) → g7.IsTupleIter (t + 1) t 2 ∧ g7.IsTuple t #[a, b] → (∃ n, g7.get? (t + 2) = some { cls := .type "list", dict := none, data := .seq #[u, u] n, slots := #[] }) →
      (∀ (g : Heap) (tk : Nat), (∀ c o, s.heap.get? c = some o → g.get? c = some o) → Q u { s with heap := g, toks := tk }) →
      codeAny (model prog w) A (.builtin "min.loop" ⟨[.ref (t + 1), .none, .ref (t + 2)], []⟩) (fun r s' => match r with | .ok (.ret v) => Q v s' | .ok _ => False | .error e => E e s') { s with heap := g7, toks := tk6 } := by
    intro u g7 o7 st7 ⟨n, q7⟩ hQ
    refine codeAny_builtin (F.entry_min_loop) ?_; rw [Around.under_plainId (F.plain_min_loop) _]
    show wpAny (model prog w) A.in1 (seqItems? (.ref (t + 2)) >>= _) _ _ _
    refine wpAny_bind (wpAny_seqItems q7 rfl ?_)
    show wpAny (model prog w) A.in1 (tryCatch (pyNext (.ref (t + 1))) _ >>= _) _ _ _
    refine wpAny_bind (wpAny_tryCatch (Wk.done _ _ _ st7 fun g8 tk8 k8 => ?_))
    have q8 := k8 _ _ n1 q7
    show wpAny (model prog w) A.in1 (updateSeq (t + 2) (fun _ => #[]) >>= _) _ _ _
    refine wpAny_bind (wpAny_updateSeq q8 rfl (wpAny_bind (wpAny_letGo (wpAny_pure ?_))))
    exact hQ _ _ fun c o e => (Heap.get?_update_other _ _ (far2 c o e)).trans (k8 c o (far1 c o e) (o7 c o e))
  cases k with
  | true =>
    simp only [if_true]
    refine wpAny_bind (wpAny_updateSeq q6 rfl (wpAny_bind (wpAny_letGo ?_))); rw [nm2]
    have q7 := Heap.get?_update_self (Obj.mapSeq fun _ => #[b, b]) q6 rfl
    have k7 : ∀ c o, c ≠ t + 2 → g6.get? c = some o → (g6.update (t + 2) (Obj.mapSeq fun _ => #[b, b])).get? c = some o := fun c o e z => (Heap.get?_update_other _ _ (Ne.symm e)).trans z
    generalize g6.update (t + 2) (Obj.mapSeq fun _ => #[b, b]) = g7 at *
    refine wpAny_pure ⟨plainId_quiet (F.plain_min_loop) _, ?_⟩
    exact last b g7 (fun c o e => k7 c o (Ne.symm (far2 c o e)) (o6 c o e)) ⟨st6.1.at fun o e => k7 _ o (Nat.ne_of_lt (Nat.lt_succ_self (t + 1))) e, st6.2.at fun o e => k7 _ o (Nat.ne_of_lt (Nat.lt_add_of_pos_right (by decide))) e⟩ ⟨_, q7⟩ h
  | false =>
    simp only [Bool.false_eq_true, if_false] at h ⊢
    refine wpAny_bind (wpAny_letGo ?_); rw [nm2]
    refine wpAny_pure ⟨plainId_quiet (F.plain_min_loop) _, ?_⟩
    exact last a g6 o6 st6 ⟨_, q6⟩ h
end
section
variable {X : Cx}
/-- max(x, y), min(x, y) of data that can be compared -/
def rMaxD (K : PySem.W.Frag) : List V → Hp → VK → Prop := fun xs H Q => ∃ x y d e, xs = [x, y] ∧ Dp K H x d ∧ Dp K H y e ∧ PySem.W.alike e d = true ∧ e ≠ .none ∧ min e.depth d.depth ≤ 60 ∧ Q (if PySem.W.dataLt d e = true then y else x) H
def rMinD (K : PySem.W.Frag) : List V → Hp → VK → Prop := fun xs H Q => ∃ x y d e, xs = [x, y] ∧ Dp K H x d ∧ Dp K H y e ∧ PySem.W.alike e d = true ∧ e ≠ .none ∧ min e.depth d.depth ≤ 60 ∧ Q (if PySem.W.dataLt e d = true then y else x) H
theorem call_maxD (hu : X.A.units + 70 < cLine) (hh : X.A.handled = none) : CallR X (.builtin "max") (rMaxD X.K) := by
  rintro pins s σ H xs us Q I r ⟨x, y, d, e, rfl, hd, he, al, nn, dp, q⟩
  obtain ⟨u1, u2, rfl, r1, r2⟩ := vals2 r
  obtain ⟨as, q1⟩ := Dp.reads I d x u1 hd r1
  obtain ⟨bs, q2⟩ := Dp.reads I e y u2 he r2
  refine max_pair (k := PySem.W.dataLt d e) hh (fun g tk Q' E' kp hq => PySem.W.rcGt_alike e d X.A.in1 _ u2 u1 bs as (Reads.keeps kp q2) (Reads.keeps kp q1) al nn (by rw [Around.in1_units]; omega) _ _ _ _ hq) fun g tk kp => ⟨_, H, I.kept kp, ?_, q⟩
  cases PySem.W.dataLt d e
  · exact r1
  · exact r2
theorem call_minD (hu : X.A.units + 70 < cLine) (hh : X.A.handled = none) : CallR X (.builtin "min") (rMinD X.K) := by
  rintro pins s σ H xs us Q I r ⟨x, y, d, e, rfl, hd, he, al, nn, dp, q⟩
  obtain ⟨u1, u2, rfl, r1, r2⟩ := vals2 r
  obtain ⟨as, q1⟩ := Dp.reads I d x u1 hd r1
  obtain ⟨bs, q2⟩ := Dp.reads I e y u2 he r2
  refine min_pair (k := PySem.W.dataLt e d) hh (fun g tk Q' E' kp hq => PySem.SeqAt.RcOp.of_lt (PySem.W.rcLt_alike e d X.A.in1 _ u2 u1 bs as (Reads.keeps kp q2) (Reads.keeps kp q1) al nn (by rw [Around.in1_units]; omega)) _ _ _ _ hq) fun g tk kp => ⟨_, H, I.kept kp, ?_, q⟩
  cases PySem.W.dataLt e d
  · exact r1
  · exact r2
end
section
variable {Y : Ct} {γ γ' : List S} {M M1 M2 M3 : MM} {s s1 s2 s3 : S} {e a b c it tg : Expr} {pos p p2 : Pos} {es : List Expr} {d d1 d2 : PyData} {z : Bool}
theorem rv_ordD {K : PySem.W.Frag} {f : PyData → PyData → Bool} (v1 : Vw M s1 d1) (v2 : Vw M s2 d2) (h1 : PySem.W.alike d1 d2 = true) (h2 : d1 ≠ .none) (h3 : min d1.depth d2.depth ≤ 60) (hz : f d1 d2 = z) : RV K (rOrdD f K) s1 s2 M (.d (.bool z)) M :=
  ⟨fun F v w H Q hm r1 r2 q => ⟨d1, d2, v1.ok hm r1, v2.ok hm r2, h1, h2, h3, q F _ H (Same.refl F) hm (hz ▸ .bl _)⟩⟩
theorem t_gtD {k : Nat} (hr : Room k Y.X.A) (ha : EV Y a γ M s1 M1) (hb : EV Y b γ M1 s2 M2) (v1 : Vw M2 s1 d1) (v2 : Vw M2 s2 d2) (h1 : PySem.W.alike d1 d2 = true) (h2 : d1 ≠ .none) (h3 : min d1.depth d2.depth ≤ 60) (hz : PySem.W.dataLt d2 d1 = z) : ET Y (.Compare a [.Gt] [b] pos) γ M z M2 :=
  t_bin (fun h1 h2 => pt_cmpR (op_gtD hr.units) h1 h2 (nomark _)) ha hb (rv_ordD (f := fun d e => PySem.W.dataLt e d) v1 v2 h1 h2 h3 hz)
theorem t_ltD {k : Nat} (hr : Room k Y.X.A) (ha : EV Y a γ M s1 M1) (hb : EV Y b γ M1 s2 M2) (v1 : Vw M2 s1 d1) (v2 : Vw M2 s2 d2) (h1 : PySem.W.alike d1 d2 = true) (h2 : d1 ≠ .none) (h3 : min d1.depth d2.depth ≤ 60) (hz : PySem.W.dataLt d1 d2 = z) : ET Y (.Compare a [.Lt] [b] pos) γ M z M2 :=
  t_bin (fun h1 h2 => pt_cmpR (op_ltD hr.units) h1 h2 (nomark _)) ha hb (rv_ordD (f := fun d e => PySem.W.dataLt d e) v1 v2 h1 h2 h3 hz)
theorem e_max2D {k : Nat} {z : PyData} (hr : Room k Y.X.A) (hg : Gl Y.X "max" := by rfl) (hm : Y.X.mg "max" = none) (ha : EA Y (e :: es) γ M [.d d1, .d d2] M1) (h1 : PySem.W.alike d2 d1 = true) (h2 : d2 ≠ .none) (h3 : min d2.depth d1.depth ≤ 60) (hz : (if PySem.W.dataLt d1 d2 = true then d2 else d1) = z)
    (he : starEach (e :: es) Y.X.env = (false, eval e Y.X.env) :: starEach es Y.X.env := by rfl) (hpl : (backTo pos (starEach es Y.X.env)).any (·.1) = false := by rfl) : EV Y (.Call (.Name "max" p) (e :: es) [] pos) γ M (.d z) M1 :=
  e_callB (call_maxD (by have := hr.un; omega) hr.hd) hg hm (by decide +kernel) ha (he := he) (hpl := hpl) (hr := ⟨fun F vs H Q hm' g q => by
    obtain ⟨v, w, rfl, g1, g2⟩ := pair_two g
    refine ⟨v, w, d1, d2, rfl, dp_mono hm'.fh _ _ g1, dp_mono hm'.fh _ _ g2, h1, h2, h3, q F _ H (Same.refl F) hm' ?_⟩
    subst hz
    cases PySem.W.dataLt d1 d2
    · exact g1
    · exact g2⟩)
theorem e_min2D {k : Nat} {z : PyData} (hr : Room k Y.X.A) (hg : Gl Y.X "min" := by rfl) (hm : Y.X.mg "min" = none) (ha : EA Y (e :: es) γ M [.d d1, .d d2] M1) (h1 : PySem.W.alike d2 d1 = true) (h2 : d2 ≠ .none) (h3 : min d2.depth d1.depth ≤ 60) (hz : (if PySem.W.dataLt d2 d1 = true then d2 else d1) = z)
    (he : starEach (e :: es) Y.X.env = (false, eval e Y.X.env) :: starEach es Y.X.env := by rfl) (hpl : (backTo pos (starEach es Y.X.env)).any (·.1) = false := by rfl) : EV Y (.Call (.Name "min" p) (e :: es) [] pos) γ M (.d z) M1 :=
  e_callB (call_minD (by have := hr.un; omega) hr.hd) hg hm (by decide +kernel) ha (he := he) (hpl := hpl) (hr := ⟨fun F vs H Q hm' g q => by
    obtain ⟨v, w, rfl, g1, g2⟩ := pair_two g
    refine ⟨v, w, d1, d2, rfl, dp_mono hm'.fh _ _ g1, dp_mono hm'.fh _ _ g2, h1, h2, h3, q F _ H (Same.refl F) hm' ?_⟩
    subst hz
    cases PySem.W.dataLt d2 d1
    · exact g1
    · exact g2⟩)
/-- two tuples of two numbers -/
theorem lt_int (a b : Int) : PySem.W.dataLt (.int a) (.int b) = decide (a < b) := by
  unfold PySem.W.dataLt PySem.W.keyToks
  by_cases h : a = b
  · subst h
    rw [lex_self (O := itemOrd)]
    rw [decide_eq_false (Int.lt_irrefl a)]
    rfl
  · rw [lex_diff (O := itemOrd) (fun z => h (Sum.inl.inj z))]
    rfl
theorem lt_tcons {x y : PyData} (xs ys : List PyData) (h : PySem.W.alike x y = true) : PySem.W.dataLt (.tuple (x :: xs)) (.tuple (y :: ys)) = if PyData.eqv x y = true then PySem.W.dataLt (.tuple xs) (.tuple ys) else PySem.W.dataLt x y := by
  obtain ⟨h1, h2⟩ := PySem.W.toks_eqv x y h
  unfold PySem.W.dataLt
  rw [PySem.W.keyToks, PySem.W.keyToks, PySem.W.keyToks, PySem.W.keyToks, PySem.W.toks_all_cons, PySem.W.toks_all_cons, lex_self (O := itemOrd)]
  cases e : PyData.eqv x y with
  | true => rw [h1 e, PySem.W.lex_pre]; rfl
  | false => rw [h2 e]; rfl
theorem lt_tnil : PySem.W.dataLt (.tuple []) (.tuple []) = false := by decide +kernel
theorem lt_tone (y : PyData) (ys : List PyData) : PySem.W.dataLt (.tuple []) (.tuple (y :: ys)) = true := by
  unfold PySem.W.dataLt
  rw [PySem.W.keyToks, PySem.W.keyToks, PySem.W.keyToksAll, PySem.W.keyToksAll, lex_diff (O := itemOrd) (by decide)]
  rfl
theorem lt_tone' (y : PyData) (ys : List PyData) : PySem.W.dataLt (.tuple (y :: ys)) (.tuple []) = false := by
  unfold PySem.W.dataLt
  rw [PySem.W.keyToks, PySem.W.keyToks, PySem.W.keyToksAll, PySem.W.keyToksAll, lex_diff (O := itemOrd) (by decide)]
  rfl
theorem lt_ints (a b c d : Int) : PySem.W.dataLt (.tuple [.int a, .int b]) (.tuple [.int c, .int d]) = (decide (a < c) || (decide (a = c) && decide (b < d))) := by
  rw [lt_tcons _ _ rfl, lt_tcons _ _ rfl, lt_tnil, lt_int, lt_int, eqv_int, eqv_int]
  by_cases h1 : a = c <;> by_cases h2 : b = d <;> simp [h1, h2]
/-- a target of a comprehension: what it does to the slots -/
structure TgOk (Y : Ct) (g : TG) (js : List Nat) (γ : List S) (x : S) (γ2 : List S) : Prop where
  run : ∀ M F σ H v (Q : L2.St → Hp → Prop), Rl Y.X.K γ M F σ H → SR Y.X.K F v x → (∀ σ2, wipe σ2 js = wipe σ js → Rl Y.X.K γ2 M F σ2 H → Q σ2 H) → g v (wipe σ js) H Q
def compG2 (γ : List S) (i j : Nat) (x y : S) : List S := (((γ.set j .no).set i .no).set i x).set j y
theorem tg_pair (i j : Nat) (hij : i ≠ j) {d1 d2 : PyData} : TgOk Y (gTup Y.X.K 2 (gCons (gName i) (gCons (gName j) gNil))) [i, j] γ (.d (.tuple [d1, d2])) (compG2 γ i j (.d d1) (.d d2)) := by
  refine ⟨fun M F σ H v Q r sv q => ?_⟩
  cases sv with
  | @tup _ _ ws h1 h2 =>
    cases h2 with
    | @cons v1 t1 _ _ z1 h3 =>
      cases h3 with
      | @cons v2 t2 _ _ z2 h4 =>
        cases h4
        refine ⟨_, _, rfl, same_t r.hm.fh h1, rfl, v1, _, rfl, v2, _, rfl, rfl, ?_⟩
        refine q _ ?_ ⟨r.hm, pair_set (sr_or (s := .d d2) z2) j (pair_set (sr_or (s := .d d1) z1) i (pair_set (R := OR Y.X.K F) (y := S.no) trivial i (pair_set (R := OR Y.X.K F) (y := S.no) trivial j r.sl)))⟩
        show (((((σ.set j none).set i none).set i (some v1)).set j (some v2)).set j none).set i none = (σ.set j none).set i none
        rw [List.set_set, List.set_comm _ _ hij, List.set_set, List.set_comm _ _ hij, List.set_set, List.set_set]
section
variable {Y : Ct} {γ : List S} {M M1 : MM} {elt it tg : Expr} {ifs : List Expr} {xs : List S} {scope : Scope}
/-- [elt for tg in it if ifs], tg any target -/
theorem q_compG {own : List (Str × Nat)} {g : TG} {G : Nat → S → List S} {Sd : MM → Prop} {Q : S → MM → Prop} {cpos : Pos} (hc : Y.X.calm = true) (hN : Y.X.N.Nodup) (hI : EI Y tg it γ M xs Sd M1) (ok : BlkOk Y.X.N Y.X.env.scope scope own)
    (hg : ∀ (s : Shared) (H : Hp) (C : Addr) (cl : List (Str × Addr)) (fp : List Addr), PG (Y.X.blk s H scope (compEnvC scope cl C Y.X.env) fp) tg g)
    (ht : ∀ (i : Nat) x, xs[i]? = some x → TgOk Y g (own.map (·.2)) γ x (G i x))
    (Iv : Nat → MM → List S → Prop) (h0 : Iv 0 M1 []) (hS : ∀ i M' acc, Iv i M' acc → acc.length ≤ 99999 ∧ ∀ D, Sd (M' ++ [(D, .lst acc)]))
    (turn : ∀ (i : Nat) x M' acc (D : Addr), xs[i]? = some x → Iv i M' acc → ∃ b M2, (∀ s H C cl fp, PTs (Y.blk scope s H C cl fp).X ifs (tET Y.un (G i x) (M' ++ [(D, .lst acc)]) b (M2 ++ [(D, .lst acc)]))) ∧
      (b = true → ∀ s H C cl fp, EQ (Y.blk scope s H C cl fp) elt (G i x) (M2 ++ [(D, .lst acc)]) fun y M3 => ∃ M4, M3 = M4 ++ [(D, .lst acc)] ∧ Iv (i + 1) M4 (acc ++ [y])) ∧ (b = false → Iv (i + 1) M2 acc))
    (done : ∀ D M' acc, Iv xs.length M' acc → Q (.ob D) (M' ++ [(D, .lst acc)]))
    (hs : ∀ x, foldedSetIterable it Y.X.env x = pure x := by intro _; rfl) : EQ Y (.ListComp elt [⟨tg, it, ifs, 0⟩] scope cpos) γ M Q := by
  obtain ⟨wi, hw, run⟩ := hI.ex
  refine ⟨PE.imp (pe_lc (g := g) (tt := uTb Y.X scope ifs) (te := uEb Y.X scope elt) hc hN hw ok hg uTb_ok uEb_ok hs) fun σ H R ⟨F, r, q, ex⟩ => ?_⟩
  refine run F σ H _ r ex fun F1 H1 J e1 r1 Wk => ?_
  intro D hD
  have r0 : Rl Y.X.K γ (M1 ++ [(D, .lst [])]) F1 σ (upd H1 D (.lst [])) := ⟨r1.hm.newM hD ⟨[], upd_same, .nil⟩, r1.sl⟩
  refine ⟨fun i m H' => m = xs.length - i ∧ i ≤ xs.length ∧ ∃ M' acc F', Iv i M' acc ∧ Same F1 F' ∧ Rl Y.X.K γ (M' ++ [(D, .lst acc)]) F' σ H', ⟨xs.length, by simp, Nat.zero_le _, M1, [], F1, h0, Same.refl F1, r0⟩, ?_⟩
  rintro i m H' ⟨rfl, hi, M', acc, F', w, e2, r2⟩
  obtain ⟨hacc, hSd⟩ := hS i M' acc w
  by_cases hlt : i < xs.length
  · refine .inr ⟨Wk.go i H' F' _ e2 r2.hm (hSd D) hlt, fun H3 => ∃ M' acc F', Iv (i + 1) M' acc ∧ Same F1 F' ∧ Rl Y.X.K γ (M' ++ [(D, .lst acc)]) F' σ H3, fun H3 z => ⟨xs.length - (i + 1), by omega, rfl, hlt, z⟩, fun v H'' y => ?_⟩
    obtain ⟨x, hx⟩ : ∃ x, xs[i]? = some x := ⟨xs[i], by simp [hlt]⟩
    obtain ⟨F2, e3, r3, sv⟩ := Wk.yld i H' v H'' x F' γ _ σ hx e2 r2 (hSd D) y
    obtain ⟨b, M2, ht2, hyes, hno⟩ := turn i x M' acc D hx w
    refine (ht i x hx).run _ F2 σ H'' v _ r3 sv fun σ2 hw2 r4 => ?_
    have back : ∀ {F' M' H'}, Same F2 F' → Rl Y.X.K (G i x) M' F' σ2 H' → Rl Y.X.K γ M' F' σ H' := fun {F' M' H'} e r => ⟨r.hm, sl_mono e r3.sl⟩
    refine ⟨hw2, tET ⟨Y.X, fun _ _ _ _ => False, fun _ _ _ => False⟩ (G i x) (M' ++ [(D, MO.lst acc)]) b (M2 ++ [(D, MO.lst acc)]), fun s H C cl fp => ht2 s H C cl fp, F2, r4, fun F3 H3 e4 r5 => ?_, fun _ _ _ _ _ _ _ _ z => z.elim⟩
    cases b with
    | true =>
      refine iteT ?_
      refine ⟨tEQ ⟨Y.X, fun _ _ _ _ => False, fun _ _ _ => False⟩ (G i x) (M2 ++ [(D, MO.lst acc)]) (fun y M3 => ∃ M4, M3 = M4 ++ [(D, MO.lst acc)] ∧ Iv (i + 1) M4 (acc ++ [y])), fun s H C cl fp => (hyes rfl s H C cl fp).pe, F3, r5, fun F4 y' s' M5 H4 e5 r6 sy ⟨M4, e6, w4⟩ => ?_, fun _ _ _ _ _ _ _ _ z => z.elim⟩
      subst e6
      have hk : (M4 ++ [(D, MO.lst acc)])[M4.length]? = some (D, .lst acc) := by simp
      obtain ⟨_, vs, g1, g2⟩ := r6.hm.mo _ _ (List.mem_of_getElem? hk)
      refine ⟨vs, g1, by rw [pair_len g2]; exact Nat.lt_of_le_of_lt hacc (by decide), M4, acc ++ [s'], F4, w4, ((e2.trans e3).trans e4).trans e5, ?_⟩
      have hM := r6.hm.setM hk (o := .lst (vs ++ [y'])) (m := .lst (acc ++ [s'])) ⟨_, upd_same, pair_app g2 (.cons sy .nil)⟩
      have eM : (M4 ++ [(D, MO.lst acc)]).set M4.length (D, MO.lst (acc ++ [s'])) = M4 ++ [(D, MO.lst (acc ++ [s']))] := by simp
      rw [eM] at hM
      exact ⟨hM, (back (e4.trans e5) r6).sl⟩
    | false =>
      refine iteF ?_
      exact ⟨M2, acc, F3, hno rfl, (e2.trans e3).trans e4, back e4 r5⟩
  · have hil : i = xs.length := by omega
    subst hil
    exact .inl ⟨Wk.stop _ H' F' _ e2 r2.hm (hSd D) (Nat.le_refl _), q F' (.ref D) (.ob D) _ H' (e1.trans e2) r2 rfl (done D M' acc w)⟩
/-- .. over pairs, to two names; each element changes nothing; ys what is made -/
theorem n_compT {α : Type} (i j : Nat) {n1 n2 : Str} {p1 p2 tp cpos : Pos} {kt : Nat} (l : List α) (f1 f2 : α → PyData) (h : α → PyData) (hij : i ≠ j) (hc : Y.X.calm = true) (hN : Y.X.N.Nodup) (hI : EI Y (.Tuple [.Name n1 p1, .Name n2 p2] kt tp) it γ M ((l.map fun a => .tuple [f1 a, f2 a]).map S.d) (fun _ => True) M1) (ok : BlkOk Y.X.N Y.X.env.scope scope [(n1, i), (n2, j)]) (hn : Nat.ble l.length 99999 = true)
    (turn : ∀ a ∈ l, ∀ M' s H C cl fp, EV (Y.blk scope s H C cl fp) elt (compG2 γ i j (.d (f1 a)) (.d (f2 a))) M' (.d (h a)) M')
    (hg : ∀ (s : Shared) (H : Hp) (C : Addr) (cl : List (Str × Addr)) (fp : List Addr), PG (Y.X.blk s H scope (compEnvC scope cl C Y.X.env) fp) (.Tuple [.Name n1 p1, .Name n2 p2] kt tp) (gTup Y.X.K 2 (gCons (gName i) (gCons (gName j) gNil))) := by exact fun _ _ _ _ _ => pg_tup rfl (pgs_cons (pg_name (by assumption) rfl (Or.inl rfl)) (pgs_cons (pg_name (by assumption) rfl (Or.inl rfl)) pgs_nil)))
    (hs : ∀ x, foldedSetIterable it Y.X.env x = pure x := by intro _; rfl) : EN Y (.ListComp elt [⟨.Tuple [.Name n1 p1, .Name n2 p2] kt tp, it, [], 0⟩] scope cpos) γ M (.lst ((l.map h).map S.d)) M1 := by
  have hz : ∀ (k : Nat) x, ((l.map fun a => PyData.tuple [f1 a, f2 a]).map S.d)[k]? = some x → ∃ a, l[k]? = some a ∧ x = S.d (.tuple [f1 a, f2 a]) := fun k x hx => by
    rw [List.getElem?_map, List.getElem?_map] at hx
    cases e : l[k]? with
    | none => rw [e] at hx; cases hx
    | some a => rw [e] at hx; cases hx; exact ⟨a, rfl, rfl⟩
  have hq := q_compG (Q := fun s M' => ∃ q, s = .ob q ∧ M' = M1 ++ [(q, .lst ((l.map h).map S.d))]) (elt := elt) (cpos := cpos) (ifs := []) (own := [(n1, i), (n2, j)]) (G := fun k _ => match l[k]? with | some a => compG2 γ i j (.d (f1 a)) (.d (f2 a)) | none => γ) hc hN hI ok hg
    (fun k x hx => by
      obtain ⟨a, ha, rfl⟩ := hz k x hx
      rw [ha]
      exact tg_pair i j hij)
    (fun k M' acc => M' = M1 ∧ acc = ((l.take k).map h).map S.d ∧ k ≤ l.length) ⟨rfl, rfl, Nat.zero_le _⟩
    (fun k M' acc ⟨_, h2, h3⟩ => ⟨by rw [h2, List.length_map, List.length_map, List.length_take]; have := Nat.le_of_ble_eq_true hn; omega, fun _ => trivial⟩)
    (fun k x M' acc D hx ⟨h1, h2, h3⟩ => by
      obtain ⟨a, ha, rfl⟩ := hz k x hx
      obtain ⟨hlt, _⟩ := List.getElem?_eq_some_iff.mp ha
      refine ⟨true, M', ptsB, fun _ s H C cl fp => ?_, fun z => nomatch z⟩
      rw [ha]
      refine (turn a (List.mem_of_getElem? ha) _ s H C cl fp).q ⟨M', rfl, h1, ?_, hlt⟩
      rw [h2, List.take_add_one, ha, List.map_append, List.map_append]
      rfl)
    (fun D M' acc ⟨h1, h2, _⟩ => ⟨D, rfl, by rw [List.length_map, List.length_map, List.take_length] at h2; rw [h1, h2]⟩) hs
  exact ⟨PE.imp hq.pe fun σ H Q ⟨F, r, q, ex⟩ => ⟨F, r, fun F' v s M' H' e1 r1 sv ⟨a, h1, h2⟩ => by
    subst h1 h2
    cases sv
    exact q F' a H' e1 r1, ex⟩⟩
end
section
variable {Y : Ct} {γ : List S} {M : MM} {e o a : Expr} {pos tp : Pos} {P : Po}
/-- o[i] = e, e not told by one term -/
theorem s_setIQ (he : EQ Y e γ M fun s M1 => ∃ (q : Addr) (j : Int) (k jj : Nat) (xs : List S) (M2 M3 : MM), EV Y o γ M1 (.ob q) M2 ∧ EV Y a γ M2 (.d (.int j)) M3 ∧ M3[k]? = some (q, .lst xs) ∧ ixN xs.length j = some jj ∧ P.nx γ (M3.set k (q, .lst (xs.set jj s))))
    (hs : swapsWithSole [.Subscript o a tp] e pos.line Y.X.env = pure false := by rfl) (hw : swappedStores [.Subscript o a tp] e Y.X.env = pure none := by rfl)
    (h1 : (assignEach [.Subscript o a tp] Y.X.env).map (·.2) = [assign (.Subscript o a tp) Y.X.env] := by rfl)
    (ha : ∀ v, assign (.Subscript o a tp) Y.X.env v = (do
      let ov ← holding [v] (eval o Y.X.env); let iv ← holding [v, ov] (eval a Y.X.env)
      standAt tp; holding [v, ov, iv] (setItem ov iv v)
      release [v, ov, iv] []) := by intro _; rfl) : ST Y (.Assign [.Subscript o a tp] e pos) γ M P :=
  ⟨PS.imp (ps_asg he.pe uG_ok hs hw h1) fun D σ H ⟨F, r, qq, ex⟩ => ⟨F, r, fun F1 v s M1 H1 e1 r1 v1 ⟨q, j, k, jj, xs, M2, M3, ho, hi, hk, hj, kk⟩ => ⟨_, pg_sub ho.pe hi.pe set_list ha, F1, r1, fun F2 v2 H2 e2 r2 sv2 => ⟨F2, r2, fun F3 v3 H3 e3 r3 sv3 => by
    cases sv2; cases sv3
    obtain ⟨_, us, f1, f2⟩ := r3.hm.mo _ _ (List.mem_of_getElem? hk)
    refine ⟨q, us, j, jj, rfl, rfl, f1, by rw [pair_len f2]; exact hj, ?_⟩
    have hM := r3.hm.setM hk (o := .lst (us.set jj v)) (m := .lst (xs.set jj s)) ⟨_, upd_same, pair_set ((v1.mono e2).mono e3) jj f2⟩
    exact qq.nx γ _ F3 σ _ ((e1.trans e2).trans e3) ⟨hM, r3.sl⟩ kk, (ex.mono e1).mono e2⟩, ex.mono e1⟩, ex⟩⟩
end
theorem alike_ints (a b c d : Int) : PySem.W.alike (.tuple [.int a, .int b]) (.tuple [.int c, .int d]) = true := rfl
end
end Mi

/-! Mi: instances: fields, methods, new ones; defaults. -/
namespace Mi
open PySem PySem.Spec PyProof.Rows L2
theorem HM.other {K : PySem.W.Frag} {F H : Hp} {M : MM} (h : HM K F M H) {p : Addr} (hp : H p = none) (o : HO) : HM K F M (upd H p o) := by
  refine ⟨fun b u q => ?_, fun a o' m => ?_, h.nd⟩
  · rw [upd_ne (ne_of_none q (h.fh.free hp))]; exact h.fh b u q
  · obtain ⟨h1, h2⟩ := h.mo a o' m
    obtain ⟨u, hu⟩ := h2.there
    exact ⟨h1, h2.mono (Same.refl F) (upd_ne (ne_of_none hu hp))⟩
theorem HM.inst {K : PySem.W.Frag} {F H : Hp} {M : MM} (h : HM K F M H) {x dx C : Addr} (hx : H x = none) (hd : H dx = none) (hne : dx ≠ x) : HM K F (M ++ [(x, .ins C [])]) (upd (upd H dx (.own x)) x (.ins C dx [])) :=
  (h.other hd (.own x)).newM (p := x) (by rw [upd_ne hne.symm]; exact hx) ⟨dx, [], upd_same, .nil⟩
def putS (f : Str) (s : S) : List (Str × S) → List (Str × S)
  | [] => [(f, s)]
  | (g, x) :: r => if g = f then (g, s) :: r else (g, x) :: putS f s r
abbrev FR (K : PySem.W.Frag) (F : Hp) : List (Str × V) → List (Str × S) → Prop := Paired (fun (p : Str × V) (q : Str × S) => p.1 = q.1 ∧ SR K F p.2 q.2)
theorem fr_some {K : PySem.W.Frag} {F : Hp} {f : Str} {s : S} : ∀ {vs : List (Str × V)} {fs : List (Str × S)}, FR K F vs fs → fs.lookup f = some s → ∃ v, vs.lookup f = some v ∧ SR K F v s
  | _, _, .nil, h => nomatch h
  | (a, v) :: vs, (b, x) :: fs, .cons ⟨h1, h2⟩ t, h => by
    cases (show a = b from h1)
    rw [List.lookup_cons] at h ⊢
    cases e : f == a with
    | true => rw [e] at h; cases h; exact ⟨v, rfl, h2⟩
    | false => rw [e] at h; exact fr_some t h
theorem fr_none {K : PySem.W.Frag} {F : Hp} {f : Str} : ∀ {vs : List (Str × V)} {fs : List (Str × S)}, FR K F vs fs → fs.lookup f = none → vs.lookup f = none
  | _, _, .nil, h => rfl
  | (a, v) :: vs, (b, x) :: fs, .cons ⟨h1, h2⟩ t, h => by
    cases (show a = b from h1)
    rw [List.lookup_cons] at h ⊢
    cases e : f == a with
    | true => rw [e] at h; cases h
    | false => rw [e] at h; exact fr_none t h
theorem fr_put {K : PySem.W.Frag} {F : Hp} {f : Str} {v : V} {s : S} (r : SR K F v s) : ∀ {vs : List (Str × V)} {fs : List (Str × S)}, FR K F vs fs → FR K F (putF f v vs) (putS f s fs)
  | _, _, .nil => .cons ⟨rfl, r⟩ .nil
  | (a, w) :: vs, (b, x) :: fs, .cons ⟨h1, h2⟩ t => by
    cases (show a = b from h1)
    unfold putF putS
    split
    · exact .cons ⟨rfl, r⟩ t
    · exact .cons ⟨rfl, h2⟩ (fr_put r t)
section
variable {Y : Ct} {γ γ' : List S} {M M1 M2 M3 : MM} {s : S} {e o : Expr} {pos apos p : Pos} {f m x : Str} {q C : Addr} {fs : List (Str × S)} {P : Po} {es : List Expr} {Q : S → MM → Prop} {k n : Nat}
/-- o.f -/
theorem e_fld (h : EV Y o γ M (.ob q) M1) (hk : M1[n]? = some (q, .ins C fs)) (c : Cls Y.X.K C) (na : NoAttr Y.X.K C f) (hl : fs.lookup f = some s) (hb : attributeBase o f Y.X.env (eval o Y.X.env) = eval o Y.X.env := by rfl) : EV Y (.Attribute o f pos) γ M s M1 :=
  ⟨PE.imp (pe_fld h.pe hb) fun σ H R ⟨F, r, qq, ex⟩ => ⟨F, r, fun F1 v H1 e1 r1 v1 => by
    cases v1
    obtain ⟨_, dx, vs, g1, g2⟩ := r1.hm.mo _ _ (List.mem_of_getElem? hk)
    obtain ⟨w, g3, g4⟩ := fr_some g2 hl
    exact ⟨q, C, dx, vs, w, rfl, g1, c, na, g3, qq F1 w H1 e1 r1 g4⟩, ex⟩⟩
/-- o.f = e -/
theorem s_fldQ {fp : Pos} (h : EQ Y e γ M fun s M1 => ∃ (q C : Addr) (n : Nat) (fs : List (Str × S)) (M2 : MM), EV Y o γ M1 (.ob q) M2 ∧ M2[n]? = some (q, .ins C fs) ∧ Cls Y.X.K C ∧ NoAttr Y.X.K C f ∧ fs.length < 1000 ∧ P.nx γ (M2.set n (q, .ins C (putS f s fs))))
    (hs : swapsWith e (some (.Attribute o f fp)) pos.line Y.X.env = pure false := by rfl) : ST Y (.Assign [.Attribute o f fp] e pos) γ M P :=
  ⟨PS.imp (ps_fld uE_ok h.pe hs) fun D σ H ⟨F, r, qq, ex⟩ => ⟨F, r, fun F1 v s M1 H1 e1 r1 v1 ⟨q, C, n, fs, M2, ho, hk, c, na, hl, kk⟩ => ⟨_, ho.pe, F1, r1, fun F2 v2 H2 e2 r2 sv2 => by
    cases sv2
    obtain ⟨_, dx, vs, g1, g2⟩ := r2.hm.mo _ _ (List.mem_of_getElem? hk)
    refine ⟨q, C, dx, vs, rfl, g1, c, na, by rw [pair_len g2]; exact hl, ?_⟩
    have hM := r2.hm.setM hk (o := .ins C dx (putF f v vs)) (m := .ins C (putS f s fs)) ⟨dx, _, upd_same, fr_put (v1.mono e2) g2⟩
    exact qq.nx γ _ F2 σ _ (e1.trans e2) ⟨hM, r2.sl⟩ kk, ex.mono e1⟩, ex⟩⟩
theorem s_fld {fp : Pos} (h : EV Y e γ M s M1) (ho : EV Y o γ M1 (.ob q) M2) (hk : M2[n]? = some (q, .ins C fs)) (c : Cls Y.X.K C) (na : NoAttr Y.X.K C f) (kk : P.nx γ (M2.set n (q, .ins C (putS f s fs)))) (hl : fs.length < 1000 := by decide)
    (hs : swapsWith e (some (.Attribute o f fp)) pos.line Y.X.env = pure false := by rfl) : ST Y (.Assign [.Attribute o f fp] e pos) γ M P :=
  s_fldQ (h.q ⟨q, C, n, fs, M2, ho, hk, c, na, hl, kk⟩) hs
end
section
variable {X : Cx} {CX : CXT} {k : Nat} {f C : Addr} {fd : FuncData} {ps : List Str} {sp : Sp} {E : L2.St → XK} {x m : Str} {p pos apos : Pos} {e o : Expr} {es : List Expr} {ta : TE} {t : TA} {dvs : List V} {ds : List Value}
/-- o.m(e, ..), what is raised wished for at the caller's slots -/
theorem pe_methX {pl : Sem Bool} (he : PE X o ta) (c : Cls X.K C) (hm : Meth X.K C m f) (F : FnOk X.prog X.w X.K X.mg X.base CX k f fd ps sp) (hr : Room k X.A) (hb : Binds X.K fd ps []) (hx : ∀ σ, PassesAt CX X σ (E σ)) (ha : PA X (e :: es) t)
    (hst : starEach (e :: es) X.env = (false, eval e X.env) :: starEach es X.env := by rfl) (hpl : (backTo pos (starEach es X.env)).any (·.1) = false := by rfl)
    (ht : eval (.Call (.Attribute o m apos) (e :: es) [] pos) X.env = (do let ov ← eval o X.env; standAt apos.atName; let (f, first) ← holding [ov] (getMethod ov m pl); callWith pos f first (backTo pos (starEach (e :: es) X.env)) (backToKw pos (keywordEach [] X.env))) := by rfl) :
    PE X (.Call (.Attribute o m apos) (e :: es) [] pos) (fun σ H Q => ta σ H fun x H1 => ∃ a dx fs, x = .ref a ∧ H1 a = some (.ins C dx fs) ∧ fs.lookup m = none ∧ t σ H1 fun vs H2 => sp (x :: vs) H2 Q (E σ)) := by
  refine ⟨fun pins s σ H Q I h => PySem.W.methodCall_KW (pl := pl) (thn (he.run pins s σ H _ I h) fun u s1 ⟨x, H1, I1, rx, a, dx, fs, ex, ea, l, q⟩ => ?_) ht⟩
  subst ex
  cases (show u = Value.ref a from rx)
  refine getmeth_ok I1 ea c hm l (PySem.W.callWith_K (first := [.ref a]) (h₀ := X.base) I1.ok.mod.kin hm.kp (thn (ha.run pos pins s1 σ H1 _ I1 q) fun us s2 ⟨vs, H2, I2, r, q2⟩ => ⟨I2.kIn, ?_⟩) hst hpl)
  exact run_fnS (us := .ref a :: us) (vs := .ref a :: vs) F hr hb (hx σ) I2 (.cons rfl r) q2
theorem pe_methX0 {pl : Sem Bool} (he : PE X o ta) (c : Cls X.K C) (hm : Meth X.K C m f) (F : FnOk X.prog X.w X.K X.mg X.base CX k f fd ps sp) (hr : Room k X.A) (hb : Binds X.K fd ps []) (hx : ∀ σ, PassesAt CX X σ (E σ))
    (ht : eval (.Call (.Attribute o m apos) [] [] pos) X.env = (do let ov ← eval o X.env; standAt apos.atName; let (f, first) ← holding [ov] (getMethod ov m pl); callWith pos f first (backTo pos (starEach [] X.env)) (backToKw pos (keywordEach [] X.env))) := by rfl) :
    PE X (.Call (.Attribute o m apos) [] [] pos) (fun σ H Q => ta σ H fun x H1 => ∃ a dx fs, x = .ref a ∧ H1 a = some (.ins C dx fs) ∧ fs.lookup m = none ∧ sp [x] H1 Q (E σ)) := by
  refine ⟨fun pins s σ H Q I h => PySem.W.methodCall_KW (pl := pl) (thn (he.run pins s σ H _ I h) fun u s1 ⟨x, H1, I1, rx, a, dx, fs, ex, ea, l, q⟩ => ?_) ht⟩
  subst ex
  cases (show u = Value.ref a from rx)
  exact getmeth_ok I1 ea c hm l (PySem.W.callWith_K0 (first := [.ref a]) I1.kIn hm.kp (run_fnS (us := [.ref a]) (vs := [.ref a]) F hr hb (hx σ) I1 (.cons rfl .nil) q))
end
section
variable {Y : Ct} {γ γ' : List S} {M M1 M2 M3 : MM} {s : S} {e o : Expr} {pos apos p : Pos} {m x : Str} {q C f : Addr} {P : Po} {es : List Expr} {Q : S → MM → Prop} {k : Nat} {fd : FuncData} {ps : List Str} {cn : Con}
/-- o.m(e, ..) -/
theorem q_meth {pl : Sem Bool} (G : FnOk Y.X.prog Y.X.w Y.X.K Y.X.mg Y.X.base (L2.CX Y.X.prog Y.X.w) k f fd ps (spD Y.X.K cn)) (hr : Room k Y.X.A) (c : Cls Y.X.K C) (hm : Meth Y.X.K C m f) (hb : Binds Y.X.K fd ps []) (tk : Takes Y.X Y.Er)
    (ho : EQ Y o γ M fun s M1 => ∃ (q : Addr) (n : Nat) (fs : List (Str × S)), s = .ob q ∧ M1[n]? = some (q, .ins C fs) ∧ fs.lookup m = none ∧ EAQ Y (e :: es) γ M1 fun ss M2 => cn (.ob q :: ss) M2 Q (fun cls M' => Y.Rx cls γ M'))
    (hst : starEach (e :: es) Y.X.env = (false, eval e Y.X.env) :: starEach es Y.X.env := by rfl) (hpl : (backTo pos (starEach es Y.X.env)).any (·.1) = false := by rfl)
    (ht : eval (.Call (.Attribute o m apos) (e :: es) [] pos) Y.X.env = (do let ov ← eval o Y.X.env; standAt apos.atName; let (f, first) ← holding [ov] (getMethod ov m pl); callWith pos f first (backTo pos (starEach (e :: es) Y.X.env)) (backToKw pos (keywordEach [] Y.X.env))) := by rfl) : EQ Y (.Call (.Attribute o m apos) (e :: es) [] pos) γ M Q :=
  ⟨PE.imp (pe_methX (pl := pl) ho.pe c hm G hr hb (fun σ => passAt tk σ) uA_ok hst hpl ht) fun σ H R ⟨F, rl, qq, ex⟩ => ⟨F, rl, fun F1 v s M1 H1 e1 r1 v1 ⟨q, n, fs, hs, hk, hl, ha⟩ => by
    subst hs
    cases v1
    obtain ⟨_, dx, vs, g1, g2⟩ := r1.hm.mo _ _ (List.mem_of_getElem? hk)
    refine ⟨q, dx, vs, rfl, g1, fr_none g2 hl, _, ha.pa, F1, r1, fun F2 us ss M2 H2 e2 r2 v2 h => ?_, ex.mono e1⟩
    refine ⟨F2, M2, .ob q :: ss, _, _, .cons rfl v2, r2.hm, h, fun F' v r M' H' e3 h3 v3 hR => qq F' v r M' H' ((e1.trans e2).trans e3) (r2.ext e3 h3) v3 hR, fun cls M' F' H' e3 h3 hR => ex cls γ M' F' σ H' ((e1.trans e2).trans e3) (r2.ext e3 h3) hR⟩, ex⟩⟩
theorem q_meth0 {pl : Sem Bool} (G : FnOk Y.X.prog Y.X.w Y.X.K Y.X.mg Y.X.base (L2.CX Y.X.prog Y.X.w) k f fd ps (spD Y.X.K cn)) (hr : Room k Y.X.A) (c : Cls Y.X.K C) (hm : Meth Y.X.K C m f) (hb : Binds Y.X.K fd ps []) (tk : Takes Y.X Y.Er)
    (ho : EQ Y o γ M fun s M1 => ∃ (q : Addr) (n : Nat) (fs : List (Str × S)), s = .ob q ∧ M1[n]? = some (q, .ins C fs) ∧ fs.lookup m = none ∧ cn [.ob q] M1 Q (fun cls M' => Y.Rx cls γ M'))
    (ht : eval (.Call (.Attribute o m apos) [] [] pos) Y.X.env = (do let ov ← eval o Y.X.env; standAt apos.atName; let (f, first) ← holding [ov] (getMethod ov m pl); callWith pos f first (backTo pos (starEach [] Y.X.env)) (backToKw pos (keywordEach [] Y.X.env))) := by rfl) : EQ Y (.Call (.Attribute o m apos) [] [] pos) γ M Q :=
  ⟨PE.imp (pe_methX0 (pl := pl) ho.pe c hm G hr hb (fun σ => passAt tk σ) ht) fun σ H R ⟨F, rl, qq, ex⟩ => ⟨F, rl, fun F1 v s M1 H1 e1 r1 v1 ⟨q, n, fs, hs, hk, hl, h⟩ => by
    subst hs
    cases v1
    obtain ⟨_, dx, vs, g1, g2⟩ := r1.hm.mo _ _ (List.mem_of_getElem? hk)
    refine ⟨q, dx, vs, rfl, g1, fr_none g2 hl, F1, M1, [.ob q], _, _, .cons rfl .nil, r1.hm, h, fun F' v r M' H' e3 h3 v3 hR => qq F' v r M' H' (e1.trans e3) (r1.ext e3 h3) v3 hR, fun cls M' F' H' e3 h3 hR => ex cls γ M' F' σ H' (e1.trans e3) (r1.ext e3 h3) hR⟩, ex⟩⟩
/-- C(e, ..), nothing raised in __init__ -/
theorem q_make (Mk0 : Mk Y.X.K C f) (G : FnOk Y.X.prog Y.X.w Y.X.K Y.X.mg Y.X.base (L2.CX Y.X.prog Y.X.w) k f fd ps (spD Y.X.K cn)) (hr : Room (k + 1) Y.X.A) (hm : Y.X.mg x = some (.ref C)) (hb : Binds Y.X.K fd ps []) (tk : Takes Y.X Y.Er)
    (ha : EAQ Y (e :: es) γ M fun ss M1 => ∀ a, cn (.ob a :: ss) (M1 ++ [(a, .ins C [])]) (fun r M' => r = .d .none ∧ Q (.ob a) M') (fun _ _ => False)) (hg : Gl Y.X x := by rfl) (hdb : (x == ("__debug__" : Str)) = false := by decide)
    (he : starEach (e :: es) Y.X.env = (false, eval e Y.X.env) :: starEach es Y.X.env := by rfl) (hpl : (backTo pos (starEach es Y.X.env)).any (·.1) = false := by rfl) : EQ Y (.Call (.Name x p) (e :: es) [] pos) γ M Q :=
  ⟨PE.imp (pe_make Mk0 G hr hg hm hb .nil (E := fun _ _ _ => False) (fun pins σ H s e s' => passes_call tk (fun _ _ _ _ z => z.elim) pins σ H s e s') ha.pa hdb he hpl) fun σ H R ⟨F, rl, qq, ex⟩ => ⟨F, rl, fun F1 vs ss M1 H1 e1 r1 v1 h a dx hx hd hne => by
    refine ⟨F1, M1 ++ [(a, .ins C [])], .ob a :: ss, _, _, .cons rfl (by rw [List.append_nil]; exact v1), r1.hm.inst hx hd hne, h a, fun F' v r M' H' e3 h3 v3 hR => ?_, fun cls M' F' H' e3 h3 hR => hR⟩
    obtain ⟨rfl, hQ⟩ := hR
    cases v3
    exact ⟨rfl, qq F' (.ref a) (.ob a) M' H' (e1.trans e3) (r1.ext e3 h3) rfl hQ⟩, ex⟩⟩
theorem q_make0 (Mk0 : Mk Y.X.K C f) (G : FnOk Y.X.prog Y.X.w Y.X.K Y.X.mg Y.X.base (L2.CX Y.X.prog Y.X.w) k f fd ps (spD Y.X.K cn)) (hr : Room (k + 1) Y.X.A) (hm : Y.X.mg x = some (.ref C)) (hb : Binds Y.X.K fd ps []) (tk : Takes Y.X Y.Er)
    (h : ∀ a, cn [.ob a] (M ++ [(a, .ins C [])]) (fun r M' => r = .d .none ∧ Q (.ob a) M') (fun _ _ => False)) (hg : Gl Y.X x := by rfl) (hdb : (x == ("__debug__" : Str)) = false := by decide) : EQ Y (.Call (.Name x p) [] [] pos) γ M Q :=
  ⟨PE.imp (pe_make0 Mk0 G hr hg hm hb .nil (E := fun _ _ _ => False) (fun pins σ H s e s' => passes_call tk (fun _ _ _ _ z => z.elim) pins σ H s e s') hdb) fun σ H R ⟨F, rl, qq, ex⟩ => by
    intro a dx hx hd hne
    refine ⟨F, M ++ [(a, .ins C [])], [.ob a], _, _, .cons rfl .nil, rl.hm.inst hx hd hne, h a, fun F' v r M' H' e3 h3 v3 hR => ?_, fun cls M' F' H' e3 h3 hR => hR⟩
    obtain ⟨rfl, hQ⟩ := hR
    cases v3
    exact ⟨rfl, qq F' (.ref a) (.ob a) M' H' e3 (rl.ext e3 h3) rfl hQ⟩⟩
/-- a new list that isn't changed any more -/
theorem EQ.frz (h : EQ Y e γ M fun s M1 => ∃ (q : Addr) (ds : List PyData) (M2 : MM), s = .ob q ∧ M1 = M2 ++ [(q, .lst (ds.map S.d))] ∧ Q (.d (.list ds)) M2) : EQ Y e γ M Q :=
  ⟨PE.imp h.pe fun σ H R ⟨F, r, qq, ex⟩ => ⟨F, r, fun F1 v s M1 H1 e1 r1 v1 ⟨q, ds, M2, hs, hM, k⟩ => by
    subst hs hM
    cases v1
    obtain ⟨vs, g1, g2, g3, g4⟩ := r1.hm.frz
    exact qq _ (.ref q) (.d (.list ds)) M2 H1 (e1.trans g3) (r1.ext g3 g4) (.lst (.inl (.inl upd_same)) (dps_mono g3 _ _ g2)) k, ex⟩⟩
theorem q_extend (ho : EV Y o γ M (.ob q) M1) (hk1 : ∃ (k1 : Nat) (ys : List S), M1[k1]? = some (q, MO.lst ys))
    (he : EQ Y e γ M1 fun s M2 => ∃ (q2 : Addr) (k k2 : Nat) (xs zs : List S), s = .ob q2 ∧ M2[k]? = some (q, .lst xs) ∧ M2[k2]? = some (q2, .lst zs) ∧ xs.length + zs.length ≤ 100000 ∧ Q (.d .none) (M2.set k (q, .lst (xs ++ zs))))
    (hbase : attributeBase o "extend" Y.X.env (eval o Y.X.env) = eval o Y.X.env := by rfl)
    (hfew : ((backTo pos (starEach [e] Y.X.env)).all (fun x => !x.1) && (backToKw pos (keywordEach [] Y.X.env)).all (fun x => x.1.isSome) && decide ([e].length + ([] : List Keyword).length + (if ([] : List Keyword).isEmpty then 0 else 1) < 30)) = true := by rfl)
    (hline : (apos.endLine == pos.line) = true := by rfl) (hs : starEach [e] Y.X.env = (false, eval e Y.X.env) :: starEach [] Y.X.env := by rfl) (hplain : (backTo pos (starEach [] Y.X.env)).any (·.1) = false := by rfl) :
    EQ Y (.Call (.Attribute o "extend" apos) [e] [] pos) γ M Q :=
  ⟨PE.imp (pe_bm PySem.F.plainAttrs_list PySem.F.slot_list_extend PySem.F.type_list_extend mt_extend ho.pe (pa_cons he.pe pa_nil hs) hbase hfew hline hs hplain) fun σ H R ⟨F, r, qq, ex⟩ => ⟨F, r, fun F1 v H1 e1 r1 v1 => by
    cases v1
    obtain ⟨k1, ys, hk1⟩ := hk1
    obtain ⟨_, ws, g1, _⟩ := r1.hm.mo _ _ (List.mem_of_getElem? hk1)
    refine ⟨Or.inl ⟨rfl, ws, .of g1⟩, F1, r1, fun F2 v s M2 H2 e2 r2 sv ⟨q2, k, k2, xs, zs, hs2, hk, hkz, hl, hQ⟩ => ?_, ex.mono e1⟩
    subst hs2
    cases sv
    obtain ⟨_, us, f1, f2⟩ := r2.hm.mo _ _ (List.mem_of_getElem? hk)
    obtain ⟨_, ts, f3, f4⟩ := r2.hm.mo _ _ (List.mem_of_getElem? hkz)
    refine ⟨q, q2, us, ts, rfl, rfl, f1, f3, by rw [pair_len f2, pair_len f4]; exact Nat.le_trans hl (by decide), ?_⟩
    have hM := r2.hm.setM hk (o := .lst (us ++ ts)) (m := .lst (xs ++ zs)) ⟨_, upd_same, pair_app f2 f4⟩
    exact qq F2 .non (.d .none) _ _ (e1.trans e2) ⟨hM, r2.sl⟩ Dp.non hQ, ex⟩⟩
/-- f(e, ..), the last parameters by their defaults -/
theorem q_callD {ds : List Value} {dvs : List V} {dd : List S} (G : FnOk Y.X.prog Y.X.w Y.X.K Y.X.mg Y.X.base (L2.CX Y.X.prog Y.X.w) k f fd ps (spD Y.X.K cn)) (hr : Room k Y.X.A) (hm : Y.X.mg x = some (.ref f)) (hk : PySem.W.keepIn Y.X.K (.ref f) = true) (hb : Binds Y.X.K fd ps ds) (hd : Vals dvs ds) (hdd : ∀ F, Paired (SR Y.X.K F) dvs dd)
    (tk : Takes Y.X Y.Er) (ha : EAQ Y (e :: es) γ M fun ss M1 => cn (ss ++ dd) M1 Q (fun cls M' => Y.Rx cls γ M')) (hg : Gl Y.X x := by rfl) (hdb : (x == ("__debug__" : Str)) = false := by decide)
    (he : starEach (e :: es) Y.X.env = (false, eval e Y.X.env) :: starEach es Y.X.env := by rfl) (hpl : (backTo pos (starEach es Y.X.env)).any (·.1) = false := by rfl) : EQ Y (.Call (.Name x p) (e :: es) [] pos) γ M Q :=
  ⟨PE.imp (pe_callSD G hr hg hm hk hb hd (fun σ => passAt tk σ) ha.pa hdb he hpl) fun σ H R ⟨F, rl, q, ex⟩ => ⟨F, rl, fun F1 vs ss M1 H1 e1 r1 v1 h => by
    refine ⟨F1, M1, ss ++ dd, _, _, pair_app v1 (hdd F1), r1.hm, h, fun F' v r M' H' e2 h2 v2 hR => ?_, fun cls M' F' H' e2 h2 hR => ex cls γ M' F' σ H' (e1.trans e2) (r1.ext e2 h2) hR⟩
    exact q F' v r M' H' (e1.trans e2) (r1.ext e2 h2) v2 hR, ex⟩⟩
end
end Mi

/-! Mi: in tuples. -/
namespace Mi
open PySem PySem.Spec PyProof.Rows L2
section
variable {X : Cx}
def rInT (K : PySem.W.Frag) : R2 := fun x y H Q => ∃ d ds, Dp K H x d ∧ Dp K H y (.tuple ds) ∧ SeqAt.shaped d = true ∧ SeqAt.shaped (.tuple ds) = true ∧ Q (.bl (ds.any fun z => PyData.eqv z d)) H
def rNotInT (K : PySem.W.Frag) : R2 := fun x y H Q => ∃ d ds, Dp K H x d ∧ Dp K H y (.tuple ds) ∧ SeqAt.shaped d = true ∧ SeqAt.shaped (.tuple ds) = true ∧ Q (.bl (!ds.any fun z => PyData.eqv z d)) H
theorem op_inT (hu : X.A.units + 65 < cLine) : OpR X (compareOp .In) (rInT X.K) := by
  intro pins s σ H x y v u Q I rx ry h
  obtain ⟨d, ds, hd, he, sd, se, q⟩ := h
  obtain ⟨as, r1⟩ := Dp.reads I d x v hd rx
  obtain ⟨bs, r2⟩ := Dp.reads I (.tuple ds) y u he ry
  exact SeqAt.in_tuple_reads r2 r1 (SeqAt.canLay_of_shaped se) (SeqAt.canLay_of_shaped sd) (room_in_shaped sd hu) ⟨.bl _, H, I, rfl, q⟩
theorem op_notInT (hu : X.A.units + 65 < cLine) : OpR X (compareOp .NotIn) (rNotInT X.K) := by
  intro pins s σ H x y v u Q I rx ry h
  obtain ⟨d, ds, hd, he, sd, se, q⟩ := h
  obtain ⟨as, r1⟩ := Dp.reads I d x v hd rx
  obtain ⟨bs, r2⟩ := Dp.reads I (.tuple ds) y u he ry
  exact SeqAt.notIn_tuple_reads r2 r1 (SeqAt.canLay_of_shaped se) (SeqAt.canLay_of_shaped sd) (room_in_shaped sd hu) ⟨.bl _, H, I, rfl, q⟩
end
section
variable {Y : Ct} {γ γ' : List S} {M M1 M2 M3 : MM} {s s1 s2 s3 : S} {a b c : Expr} {pos p p2 : Pos} {i n : Int}
theorem rv_inT {K : PySem.W.Frag} {d : PyData} {ds : List PyData} {z : Bool} (v1 : Vw M s1 d) (v2 : Vw M s2 (.tuple ds)) (h1 : SeqAt.shaped d = true) (h2 : SeqAt.shaped (.tuple ds) = true) (hz : ds.any (fun z => PyData.eqv z d) = z) : RV K (rInT K) s1 s2 M (.d (.bool z)) M :=
  ⟨fun F v w H Q hm r1 r2 q => ⟨d, ds, v1.ok hm r1, v2.ok hm r2, h1, h2, q F _ H (Same.refl F) hm (hz ▸ .bl _)⟩⟩
theorem rv_notInT {K : PySem.W.Frag} {d : PyData} {ds : List PyData} {z : Bool} (v1 : Vw M s1 d) (v2 : Vw M s2 (.tuple ds)) (h1 : SeqAt.shaped d = true) (h2 : SeqAt.shaped (.tuple ds) = true) (hz : ds.any (fun z => PyData.eqv z d) = z) : RV K (rNotInT K) s1 s2 M (.d (.bool (!z))) M :=
  ⟨fun F v w H Q hm r1 r2 q => ⟨d, ds, v1.ok hm r1, v2.ok hm r2, h1, h2, q F _ H (Same.refl F) hm (hz ▸ .bl _)⟩⟩
section
variable {k : Nat} (hr : Room k Y.X.A) {d : PyData} {ds : List PyData} {z : Bool} (ha : EV Y a γ M s1 M1) (hb : EV Y b γ M1 s2 M2) (v1 : Vw M2 s1 d) (h1 : SeqAt.shaped d = true)
include hr ha hb v1 h1
theorem t_inT (v2 : Vw M2 s2 (.tuple ds)) (h2 : SeqAt.shaped (.tuple ds) = true) (hz : ds.any (fun z => PyData.eqv z d) = z) (hmk : behindInMarks .In b = false := by with_unfolding_all rfl) : ET Y (.Compare a [.In] [b] pos) γ M z M2 :=
  t_bin (fun h1 h2 => pt_cmpR (op_inT (room65 hr)) h1 h2 hmk) ha hb (rv_inT v1 v2 h1 h2 hz)
theorem t_notInT (v2 : Vw M2 s2 (.tuple ds)) (h2 : SeqAt.shaped (.tuple ds) = true) (hz : ds.any (fun z => PyData.eqv z d) = z) (hmk : behindInMarks .NotIn b = false := by with_unfolding_all rfl) : ET Y (.Compare a [.NotIn] [b] pos) γ M (!z) M2 :=
  t_bin (fun h1 h2 => pt_cmpR (op_notInT (room65 hr)) h1 h2 hmk) ha hb (rv_notInT v1 v2 h1 h2 hz)
theorem e_inT (v2 : Vw M2 s2 (.tuple ds)) (h2 : SeqAt.shaped (.tuple ds) = true) (hz : ds.any (fun z => PyData.eqv z d) = z) (hmk : behindInMarks .In b = false := by with_unfolding_all rfl) : EV Y (.Compare a [.In] [b] pos) γ M (.d (.bool z)) M2 :=
  e_bin (f := fun _ _ => pure .none) (fun h1 h2 => pe_cmpR (op_inT (room65 hr)) h1 h2 hmk) ha hb (rv_inT v1 v2 h1 h2 hz)
theorem e_inD (v2 : Vw M2 s2 (.list ds)) (h2 : SeqAt.shaped (.list ds) = true) (hz : ds.any (fun z => PyData.eqv z d) = z) (hmk : behindInMarks .In b = false := by with_unfolding_all rfl) : EV Y (.Compare a [.In] [b] pos) γ M (.d (.bool z)) M2 :=
  e_bin (f := fun _ _ => pure .none) (fun h1 h2 => pe_cmpR (op_inD (room65 hr)) h1 h2 hmk) ha hb (rv_inD v1 v2 h1 h2 hz)
end
end
/-! ### enumerate; name += i; is True -/
def enumS (ds : List PyData) : List S := ds.mapIdx fun k d => S.d (.tuple [.int (k : Nat), d])
theorem enumS_at {ds : List PyData} {i : Nat} {x : S} (h : (enumS ds)[i]? = some x) : ∃ d, ds[i]? = some d ∧ x = .d (.tuple [.int (i : Nat), d]) := by
  unfold enumS at h
  rw [List.getElem?_mapIdx] at h
  cases e : ds[i]? with
  | none => rw [e] at h; cases h
  | some d => rw [e] at h; cases h; exact ⟨d, rfl, rfl⟩
theorem enumS_len (ds : List PyData) : (enumS ds).length = ds.length := by simp [enumS]
theorem walks_el {K : PySem.W.Frag} {F1 : Hp} {a : Addr} {vs : List V} {ds : List PyData} (h1 : SqL K F1 a vs) (h2 : DpAll K F1 vs ds) : Walks K (Ite K a) F1 (enumS ds) (fun _ => True) := by
  have hl : vs.length = ds.length := dps_len h2
  refine ⟨fun i H' F' M' e hm _ hi => ?_, fun i H' v H'' x F' γ' M' σ' hx e r _ y => ?_, fun i H' F' M' e hm _ hi => ?_⟩
  · rw [enumS_len] at hi
    exact ⟨vs, vs[i]'(by omega), (e.trans hm.fh).seq h1, by simp⟩
  · obtain ⟨T, x1, rfl, hT, rfl, hx1⟩ := y
    have e4 := hx1 vs ((e.trans r.hm.fh).seq h1)
    obtain ⟨d, hd, rfl⟩ := enumS_at hx
    obtain ⟨d2, hd2, dp1⟩ := dps_getV h2 e4
    rw [hd] at hd2; cases hd2
    obtain ⟨e6, h6⟩ := r.hm.newF hT (.tup [.int (i : Nat), x1])
    exact ⟨_, e6, r.ext e6 h6, .tup (.inl (.inl upd_same)) (.cons (.int _) (.cons (dp_mono (e.trans e6) _ _ dp1) .nil))⟩
  · rw [enumS_len] at hi
    exact ⟨vs, (e.trans hm.fh).seq h1, by omega⟩
section
variable {X : Cx}
theorem rel_true {x : V} {v : Value} (r : RelV x v) : (v == Value.bool true) = decide (x = .bl true) := by
  cases x with
  | non => cases r; rfl
  | bl b => cases r; cases b <;> rfl
  | int _ => obtain ⟨t, rfl⟩ := r; rfl
  | str _ => obtain ⟨t, rfl⟩ := r; rfl
  | byt _ => obtain ⟨t, rfl⟩ := r; rfl
  | flt _ => obtain ⟨t, rfl⟩ := r; rfl
  | ref _ => cases r; rfl
  | ty _ => cases r; rfl
theorem is_true_rel {M : Model} {A : Around} {E : Value → Shared → Prop} {s : Shared} {Q : Value → Shared → Prop} {x : V} {v : Value} (r : RelV x v) (h : Q (.bool (v == .bool true)) s) : wpAny M A (compareOp .Is v (.bool true)) Q E s := by
  cases x with
  | non => cases r; exact wpAny_pure h
  | bl b => cases r; exact wpAny_pure h
  | int _ => obtain ⟨t, rfl⟩ := r; exact wpAny_pure h
  | str _ => obtain ⟨t, rfl⟩ := r; exact wpAny_pure h
  | byt _ => obtain ⟨t, rfl⟩ := r; exact wpAny_pure h
  | flt _ => obtain ⟨t, rfl⟩ := r; exact wpAny_pure h
  | ref _ => cases r; exact wpAny_pure h
  | ty _ => cases r; exact wpAny_pure h
theorem pc_isT {a : Expr} {ta : TE} {j : Nat} {pos' : Pos} (ha : PE X a ta) : PC X .Is a (.Constant (.bool true) j pos') (fun σ H Q => ta σ H fun x H1 => Q (.bl (decide (x = .bl true))) H1) := by
  refine ⟨fun pins s σ H Q I h => ?_⟩
  refine thn (ha.run pins s σ H _ I h) fun v s1 ⟨x, H1, I1, r1, q1⟩ => ?_
  exact Constant_bool (is_true_rel r1 ⟨.bl _, H1, I1, by rw [rel_true r1]; rfl, q1⟩)
end
def isTru : PyData → Bool
  | .bool b => b
  | _ => false
theorem dp_tru {K : PySem.W.Frag} {F : Hp} {v : V} {d : PyData} (h : Dp K F v d) : decide (v = .bl true) = isTru d := by
  cases h with
  | bl b => cases b <;> rfl
  | _ => exact decide_eq_false (fun z => nomatch z)
section
variable {Y : Ct} {γ γ' : List S} {M M1 M2 M3 : MM} {s s1 s2 s3 : S} {a b c e : Expr} {pos p p2 tpos : Pos} {i n : Int} {elts : List Expr} {P : Po} {x : Str}
theorem i_enumL {kk : Nat} {ds : List PyData} (hg : Gl Y.X "enumerate" := by rfl) (hm : Y.X.mg "enumerate" = none) (ha : EA Y [a] γ M [.d (.list ds)] M1) (hs : starEach [a] Y.X.env = [(false, eval a Y.X.env)] := by rfl) :
    EI Y (.Tuple elts kk tpos) (.Call (.Name "enumerate" p) [a] [] pos) γ M (enumS ds) (fun _ => True) M1 :=
  ⟨_, pi_enum hg hm ha.pa hs, fun F σ H R r ex k => ⟨F, r, fun F1 vs H1 e1 r1 v1 => by
    obtain ⟨v, rfl, h1⟩ := pair_one v1
    cases h1 with
    | lst g1 g2 => exact ⟨_, _, rfl, r1.hm.fh.seq g1, k F1 H1 _ e1 r1 (walks_el g1 g2)⟩, ex⟩⟩
theorem t_isT {d : PyData} {k : Nat} (ha : EV Y a γ M (.d d) M1) : ET Y (.Compare a [.Is] [.Constant (.bool true) k p2] pos) γ M (isTru d) M1 :=
  ⟨PT.imp (pt_cmp (pc_isT ha.pe) rfl) fun σ H Q ⟨F, r, q, ex⟩ => ⟨F, r, fun F1 v H1 e1 r1 v1 => ⟨_, rfl, by rw [dp_tru v1]; exact q F1 H1 e1 r1⟩, ex⟩⟩
/-- name += e, of ints -/
theorem s_augI (j : Nat) {pos' : Pos} {m : Int} (hN : Y.X.N.Nodup) (hs : γ[j]? = some (.d (.int i))) (he : EV Y e γ M (.d (.int m)) M1) (h : P.nx (γ.set j (.d (.int (i + m)))) M1) (hi : Y.X.N[j]? = some x := by rfl) (hx : Loc Y.X.env.scope x := by first | exact Or.inl rfl | exact Or.inr rfl)
    (hf : Y.X.fn x = true ∨ Y.X.env.scope.names.lookup x = some .local := by first | exact .inl rfl | exact .inr rfl) : ST Y (.AugAssign (.Name x pos') .Add e pos) γ M P :=
  ⟨PS.imp (ps_aug hN hi hx he.pe ip_add hf) fun D σ H ⟨F, r, q, ex⟩ => by
    obtain ⟨o, h1, h2⟩ := pair_get r.sl hs
    obtain ⟨v, rfl, h3⟩ := h2.val rfl
    cases h3
    refine ⟨_, h1, F, r, fun F1 w H1 e1 r1 w1 => ?_, ex⟩
    cases w1
    refine ⟨i, m, rfl, rfl, ?_⟩
    exact q.nx _ _ F1 _ H1 e1 ⟨r1.hm, pair_set (sr_or (s := .d (.int (i + m))) (Dp.int _)) j r1.sl⟩ h⟩
end
end Mi

/-! Mi: a tuple that holds a list which may change. -/
namespace Mi
open PySem PySem.Spec PyProof.Rows L2
section
variable {Y : Ct} {γ γ' : List S} {M M1 M2 M3 : MM} {s s1 s2 s3 : S} {ss : List S} {a b c : Expr} {es : List Expr} {pos p p2 : Pos} {i n : Int}
theorem n_tup {k} (h : EA Y es γ M ss M1) (hn : Nat.ble ss.length 100000 = true := by rfl) : EN Y (.Tuple es k pos) γ M (.tup ss) M1 :=
  ⟨PE.imp (pe_tup h.pa) fun σ H Q ⟨F, r, q, ex⟩ => ⟨F, r, fun F1 vs H1 e1 r1 v1 => ⟨by rw [pair_len v1]; exact small hn, fun p hp => by
    have h2 := r1.hm.newM hp (o := .tup vs) (m := .tup ss) ⟨vs, upd_same, v1⟩
    exact q F1 p _ e1 ⟨h2, r1.sl⟩⟩, ex⟩⟩
theorem rv_ixU {K : PySem.W.Frag} {k : Nat} {q : Addr} {xs : List S} (hk : M[k]? = some (q, .tup xs)) (h : atI xs i = some s) : RV K (rIx K) (.ob q) (.d (.int i)) M s M :=
  ⟨fun F v w H Q hm h1 h2 qq => by
    cases h2
    cases h1
    obtain ⟨_, vs, g1, g2⟩ := hm.mo _ _ (List.mem_of_getElem? hk)
    obtain ⟨v', j, e1, e2, e3⟩ := atI_of (pair_len g2) h fun j hj => let ⟨v, hv, _⟩ := pair_get g2 hj; ⟨v, hv⟩
    obtain ⟨v'', f1, f2⟩ := pair_get g2 e3
    rw [e2] at f1; cases f1
    exact .inr (.inl ⟨_, _, i, v', rfl, rfl, .inl (.inl g1), e1, qq F _ H (Same.refl F) hm f2⟩)⟩
theorem e_ixU {k : Nat} {q : Addr} {xs : List S} (ha : EV Y a γ M (.ob q) M1) (hb : EV Y b γ M1 (.d (.int i)) M2) (hk : M2[k]? = some (q, .tup xs)) (h : atI xs i = some s) (hs : PlainIx b := by exact fun _ _ => rfl) : EV Y (.Subscript a b pos) γ M s M2 :=
  e_bin (f := fun _ _ => pure .none) (fun h1 h2 => pe_ix ix_seq h1 h2 hs) ha hb (rv_ixU hk h)
end
end Mi

/-! Mi: dicts with text keys (the module's, and new ones); any changing list is left as it is; calls with defaults. -/
namespace Mi
open PySem PySem.Spec PyProof.Rows L2
section
variable {Y : Ct} {γ γ' : List S} {M M1 M2 M3 : MM} {s s1 s2 s3 : S} {ss : List S} {a b c o e : Expr} {es : List Expr} {pos p p2 tp : Pos} {i n : Int} {P : Po} {Q : S → MM → Prop} {x : Str}
/-! ### the module's -/
theorem rv_kd {K : PySem.W.Frag} {w : World} {C : Addr} {esD : Array DictEntry} {nD : Nat} {u : Value} {v : V} {d : PyData} {z : Str} (D : KDict K w C esD nD) (hz : PySem.W.nsIn K C z = some (some u)) (r : RelV v u) (hv : ∀ F, Dp K F v d) : RV K (rIxD K w) (.ob C) (.d (.str z)) M (.d d) M :=
  ⟨fun F v1 w1 H Q hm h1 h2 q => by
    cases h2
    cases h1
    exact ⟨C, z, v, rfl, rfl, ⟨esD, nD, u, D.at_, D.lit, hz, r⟩, q F v H (Same.refl F) hm (hv F)⟩⟩
/-- D[text], D a dict of the module -/
theorem e_ixKD {C : Addr} {esD : Array DictEntry} {nD : Nat} {u : Value} {v : V} {d : PyData} {z : Str} (D : KDict Y.X.K Y.X.w C esD nD) (hz : PySem.W.nsIn Y.X.K C z = some (some u)) (r : RelV v u) (hv : ∀ F, Dp Y.X.K F v d)
    (ho : EV Y o γ M (.ob C) M1) (ha : EV Y a γ M1 (.d (.str z)) M2) (hs : PlainIx a := by exact fun _ _ => rfl) : EV Y (.Subscript o a pos) γ M (.d d) M2 :=
  e_bin (f := fun _ _ => pure .none) (fun h1 h2 => pe_ix ix_kdict h1 h2 hs) ho ha (rv_kd D hz r hv)
theorem rv_kdIn {K : PySem.W.Frag} {C : Addr} {z : Str} {r : Option Value} (hz : PySem.W.nsIn K C z = some r) : RV K (fun x y H Q => ∃ (z : Str) (r : Option Value), x = .str z ∧ y = .ref C ∧ PySem.W.nsIn K C z = some r ∧ Q (.bl r.isSome) H) (.d (.str z)) (.ob C) M (.d (.bool r.isSome)) M :=
  ⟨fun F v1 w1 H Q hm h1 h2 q => by
    cases h1
    cases h2
    exact ⟨z, r, rfl, rfl, hz, q F _ H (Same.refl F) hm (.bl _)⟩⟩
theorem rv_kdNotIn {K : PySem.W.Frag} {C : Addr} {z : Str} {r : Option Value} (hz : PySem.W.nsIn K C z = some r) : RV K (fun x y H Q => ∃ (z : Str) (r : Option Value), x = .str z ∧ y = .ref C ∧ PySem.W.nsIn K C z = some r ∧ Q (.bl (!r.isSome)) H) (.d (.str z)) (.ob C) M (.d (.bool (!r.isSome))) M :=
  ⟨fun F v1 w1 H Q hm h1 h2 q => by
    cases h1
    cases h2
    exact ⟨z, r, rfl, rfl, hz, q F _ H (Same.refl F) hm (.bl _)⟩⟩
section
variable {C : Addr} {esD : Array DictEntry} {nD : Nat} {z : Str} {r : Option Value} (D : KDict Y.X.K Y.X.w C esD nD) (hz : PySem.W.nsIn Y.X.K C z = some r) (ha : EV Y a γ M (.d (.str z)) M1) (hb : EV Y b γ M1 (.ob C) M2)
include D hz ha hb
theorem t_inKD (hmk : behindInMarks .In b = false := by with_unfolding_all rfl) : ET Y (.Compare a [.In] [b] pos) γ M r.isSome M2 :=
  t_bin (fun h1 h2 => pt_cmpR (op_in_kd D) h1 h2 hmk) ha hb (rv_kdIn hz)
theorem t_notInKD (hmk : behindInMarks .NotIn b = false := by with_unfolding_all rfl) : ET Y (.Compare a [.NotIn] [b] pos) γ M (!r.isSome) M2 :=
  t_bin (fun h1 h2 => pt_cmpR (op_notIn_kd D) h1 h2 hmk) ha hb (rv_kdNotIn hz)
end
/-! ### new ones -/
def valS (kvs : List (Key × S)) (k : Key) : Option S := (kvs.find? fun kv => decide (kv.1 = k)).map (·.2)
abbrev KR (K : PySem.W.Frag) (F : Hp) : List (Key × V) → List (Key × S) → Prop := Paired (fun (p : Key × V) (q : Key × S) => p.1 = q.1 ∧ SR K F p.2 q.2)
theorem kr_val {K : PySem.W.Frag} {F : Hp} {k : Key} : ∀ {vs : List (Key × V)} {kvs : List (Key × S)}, KR K F vs kvs → (∀ s, valS kvs k = some s → ∃ v, valV vs k = some v ∧ SR K F v s) ∧ (valS kvs k = none → valV vs k = none)
  | _, _, .nil => ⟨fun s h => (nomatch h), fun _ => rfl⟩
  | (a, v) :: vs, (b, x) :: kvs, .cons ⟨h1, h2⟩ t => by
    cases (show a = b from h1)
    obtain ⟨g1, g2⟩ := kr_val (k := k) t
    by_cases e : a = k
    · refine ⟨fun s h => ⟨v, valV_pos e, ?_⟩, fun h => ?_⟩
      · have e2 : valS ((a, x) :: kvs) k = some x := by simp [valS, List.find?_cons, e]
        rw [e2] at h; cases h; exact h2
      · have e2 : valS ((a, x) :: kvs) k = some x := by simp [valS, List.find?_cons, e]
        rw [e2] at h; cases h
    · have e2 : valS ((a, x) :: kvs) k = valS kvs k := by simp [valS, List.find?_cons, e]
      have e3 : valV ((a, v) :: vs) k = valV vs k := valV_neg e
      rw [e2, e3]
      exact ⟨g1, g2⟩
theorem kr_keys {K : PySem.W.Frag} {F : Hp} : ∀ {vs : List (Key × V)} {kvs : List (Key × S)}, KR K F vs kvs → vs.map (·.1) = kvs.map (·.1)
  | _, _, .nil => rfl
  | _, _, .cons h t => by rw [List.map_cons, List.map_cons, kr_keys t, h.1]
theorem valV_none {k : Key} : ∀ {vs : List (Key × V)}, k ∉ vs.map (·.1) → valV vs k = none
  | [], _ => rfl
  | p :: r, h => by
    rw [List.map_cons, List.mem_cons, not_or] at h
    rw [valV_neg (fun z => h.1 z.symm)]
    exact valV_none h.2
theorem merge_nd : ∀ (more kvs : List (Key × V)), ((kvs ++ more).map (·.1)).Nodup → mergeK kvs more = kvs ++ more
  | [], kvs, _ => by rw [List.append_nil]; rfl
  | p :: r, kvs, h => by
    have h1 : p.1 ∉ kvs.map (·.1) := fun hm => by
      rw [List.map_append, List.map_cons] at h
      exact (List.nodup_append.mp h).2.2 _ hm _ List.mem_cons_self rfl
    show mergeK (putK kvs p.1 p.2) r = _
    rw [putK_new p.2 (valV_none h1)]
    have e : kvs ++ [(p.1, p.2)] ++ r = kvs ++ p :: r := by rw [List.append_assoc]; rfl
    rw [merge_nd r _ (by rw [e]; exact h), e]
/-- the pairs of a display, keys written texts -/
structure ED (Y : Ct) (pos : Pos) (keys : List (Option Expr)) (values : List Expr) (trs : List (TE × TE)) (γ : List S) (M : MM) (kvs : List (Str × S)) (M' : MM) : Prop where
  pp : PPs Y.X pos keys values trs
  run : ∀ F σ H (Q : List (V × V) → Hp → Prop), Rl Y.X.K γ M F σ H → ExOk Y F →
    (∀ F' ps H', Same F F' → Rl Y.X.K γ M' F' σ H' → Paired (fun (p : V × V) (q : Str × S) => p.1 = .str q.1 ∧ SR Y.X.K F' p.2 q.2) ps kvs → Q ps H') → tPairs trs σ H Q
theorem ed_nil : ED Y pos [] [] [] γ M [] M := ⟨pps_nil, fun F σ H Q r _ q => q F [] H (Same.refl F) r .nil⟩
theorem ed_cons {k : Str} {j : Nat} {v : Expr} {ks : List (Option Expr)} {vs : List Expr} {trs : List (TE × TE)} {kvs : List (Str × S)} (h : EV Y v γ M s M1) (t : ED Y pos ks vs trs γ M1 kvs M2) :
    ED Y pos (some (.Constant (.str k) j p) :: ks) (v :: vs) ((tC (.str k), uE Y.X v) :: trs) γ M ((k, s) :: kvs) M2 :=
  ⟨pps_cons pe_str uE_ok t.pp, fun F σ H Q r ex q => ⟨_, h.pe, F, r, fun F1 y H1 e1 r1 v1 =>
    t.run F1 σ H1 _ r1 (ex.mono e1) fun F2 ps H2 e2 r2 v2 => q F2 _ H2 (e1.trans e2) r2 (.cons ⟨rfl, v1.mono e2⟩ v2), ex⟩⟩
def keyd (kvs : List (Str × S)) : List (Key × S) := kvs.map fun q => (.inr q.1, q.2)
theorem keyd_of {K : PySem.W.Frag} {F : Hp} : ∀ {ps : List (V × V)} {kvs : List (Str × S)}, Paired (fun (p : V × V) (q : Str × S) => p.1 = .str q.1 ∧ SR K F p.2 q.2) ps kvs →
    ∃ kv : List (Key × V), ps = kv.map (fun kv => (kV kv.1, kv.2)) ∧ KR K F kv (keyd kvs)
  | _, _, .nil => ⟨[], rfl, .nil⟩
  | (a1, a2) :: as, (b1, b2) :: bs, .cons ⟨h1, h2⟩ t => by
    obtain ⟨kv, i1, i2⟩ := keyd_of t
    cases (show a1 = V.str b1 from h1)
    exact ⟨(.inr b1, a2) :: kv, by rw [i1]; rfl, .cons ⟨rfl, h2⟩ i2⟩
/-- {text: e, ..} -/
theorem n_disp {keys : List (Option Expr)} {values : List Expr} {trs : List (TE × TE)} {kvs : List (Str × S)} (h : ∀ q, ED Y pos keys values trs γ (M ++ [(q, .dct [])]) kvs (M ++ [(q, .dct [])])) (hall : keys.all (·.isSome) = true := by rfl) (hl : keys.length = values.length := by rfl) (h0 : keys ≠ [] := by exact fun z => nomatch z)
    (h15 : Nat.ble keys.length 15 = true := by rfl) (h16 : Nat.ble kvs.length 15 = true := by rfl) (hnd : (kvs.map fun q => (.inr q.1 : Key)).Nodup := by decide +kernel) : EN Y (.Dict keys values pos) γ M (.dct (keyd kvs)) M :=
  ⟨PE.imp (pe_disp (h 0).pp hall hl h0 (Nat.le_of_ble_eq_true h15)) fun σ H Q ⟨F, r, qq, ex⟩ => by
    intro p hp
    have h3 := r.hm.newM hp (o := .dK []) (m := .dct []) ⟨[], upd_same, .nil⟩
    refine (h p).run F σ _ _ ⟨h3, r.sl⟩ ex fun F2 ps H2 e2 r2 v2 => ?_
    have hk : (M ++ [(p, MO.dct [])])[M.length]? = some (p, .dct []) := by simp
    obtain ⟨_, vs0, k1, k2⟩ := r2.hm.mo _ _ (List.mem_of_getElem? hk)
    cases k2
    obtain ⟨kv, w1, w2⟩ := keyd_of v2
    have hlen : kv.length = kvs.length := by
      have e1 := pair_len w2
      rw [show (keyd kvs).length = kvs.length from List.length_map _] at e1
      exact e1
    have hm : mergeK [] kv = kv := by
      rw [merge_nd kv [] ?_]
      · rfl
      · rw [List.nil_append, kr_keys w2]
        show ((kvs.map fun q => ((.inr q.1 : Key), q.2)).map (·.1)).Nodup
        rw [List.map_map]
        exact hnd
    refine ⟨k1, kv, w1, by rw [hlen]; exact Nat.le_of_ble_eq_true h16, ?_⟩
    rw [hm]
    have hM := r2.hm.setM hk (o := .dK kv) (m := .dct (keyd kvs)) ⟨kv, upd_same, w2⟩
    rw [show (M ++ [(p, MO.dct [])]).set M.length (p, MO.dct (keyd kvs)) = M ++ [(p, MO.dct (keyd kvs))] by simp] at hM
    exact qq F2 _ _ e2 ⟨hM, r2.sl⟩⟩
section
variable {k kk : Nat} {q : Addr} {kvs : List (Key × S)} {z : Str}
/-- d[text] -/
theorem e_dget (hr : Room kk Y.X.A) (ho : EV Y o γ M (.ob q) M1) (ha : EV Y a γ M1 (.d (.str z)) M2) (hk : M2[k]? = some (q, .dct kvs)) (hz : valS kvs (.inr z) = some s) (hs : NoSl a := by exact fun _ _ => rfl) : EV Y (.Subscript o a pos) γ M s M2 :=
  ⟨PE.imp (pe_dget (by have := hr.un; omega) ho.pe ha.pe hs) fun σ H Q ⟨F, r, qq, ex⟩ => ⟨F, r, fun F1 v1 H1 e1 r1 sv1 => ⟨F1, r1, fun F2 v2 H2 e2 r2 sv2 => by
    cases sv1
    cases sv2
    obtain ⟨_, vs, g1, g2⟩ := r2.hm.mo _ _ (List.mem_of_getElem? hk)
    obtain ⟨v, g3, g4⟩ := (kr_val g2).1 s hz
    exact ⟨q, v, rfl, by rw [← g3]; exact DGet.k (k := .inr z) g1, qq F2 v H2 (e1.trans e2) r2 g4⟩, ex.mono e1⟩, ex⟩⟩
/-- text in d -/
theorem t_din (hr : Room kk Y.X.A) (ha : EV Y a γ M (.d (.str z)) M1) (ho : EV Y o γ M1 (.ob q) M2) (hk : M2[k]? = some (q, .dct kvs)) (hmk : behindInMarks .In o = false := by with_unfolding_all rfl) : ET Y (.Compare a [.In] [o] pos) γ M (valS kvs (.inr z)).isSome M2 :=
  ⟨PT.imp (pt_cmp (pc_din (by have := hr.un; omega) ha.pe ho.pe) hmk) fun σ H Q ⟨F, r, qq, ex⟩ => ⟨F, r, fun F1 v1 H1 e1 r1 sv1 => ⟨F1, r1, fun F2 v2 H2 e2 r2 sv2 => by
    cases sv1
    cases sv2
    obtain ⟨_, vs, g1, g2⟩ := r2.hm.mo _ _ (List.mem_of_getElem? hk)
    refine ⟨q, _, rfl, DGet.k (k := .inr z) g1, _, rfl, ?_⟩
    have e : (valV vs (.inr z)).isSome = (valS kvs (.inr z)).isSome := by
      obtain ⟨k1, k2⟩ := kr_val (k := .inr z) g2
      cases h : valS kvs (.inr z) with
      | none => rw [k2 h] <;> rfl
      | some s => obtain ⟨v, h1, _⟩ := k1 s h; rw [h1] <;> rfl
    rw [e]
    exact qq F2 H2 (e1.trans e2) r2, ex.mono e1⟩, ex⟩⟩
/-- d[text] = e, a new key -/
theorem s_dput (hr : Room kk Y.X.A) (he : EV Y e γ M s M1) (ho : EV Y o γ M1 (.ob q) M2) (ha : EV Y a γ M2 (.d (.str z)) M3) (hk : M3[k]? = some (q, .dct kvs)) (hz : valS kvs (.inr z) = none) (hl : Nat.ble kvs.length 100000 = true) (kk : P.nx γ (M3.set k (q, .dct (kvs ++ [(.inr z, s)]))))
    (hs : swapsWith e (some (.Subscript o a tp)) pos.line Y.X.env = pure false := by rfl) : ST Y (.Assign [.Subscript o a tp] e pos) γ M P :=
  ⟨PS.imp (ps_dput (by have := hr.un; omega) ho.pe ha.pe he.pe hs) fun D σ H ⟨F, r, qq, ex⟩ => ⟨F, r, fun F1 v H1 e1 r1 v1 => ⟨F1, r1, fun F2 v2 H2 e2 r2 sv2 => ⟨F2, r2, fun F3 v3 H3 e3 r3 sv3 => by
    cases sv2
    cases sv3
    obtain ⟨_, vs, g1, g2⟩ := r3.hm.mo _ _ (List.mem_of_getElem? hk)
    refine ⟨q, _, rfl, DPut.k (k := .inr z) (v := v) g1 (by rw [pair_len g2]; exact Nat.lt_of_le_of_lt (Nat.le_of_ble_eq_true hl) (by decide)), ?_⟩
    rw [putK_new v ((kr_val g2).2 hz)]
    have hM := r3.hm.setM hk (o := .dK (vs ++ [(.inr z, v)])) (m := .dct (kvs ++ [(.inr z, s)])) ⟨_, upd_same, pair_app g2 (.cons ⟨rfl, (v1.mono e2).mono e3⟩ .nil)⟩
    exact qq.nx γ _ F3 σ _ ((e1.trans e2).trans e3) ⟨hM, r3.sl⟩ kk, (ex.mono e1).mono e2⟩, ex.mono e1⟩, ex⟩⟩
end
/-! ### any changing list changes no more -/
theorem HM.perm {K : PySem.W.Frag} {F H : Hp} {M M' : MM} (h : HM K F M H) (p : M.Perm M') : HM K F M' H := ⟨h.fh, fun a o z => h.mo a o (p.mem_iff.mpr z), (p.map _).nodup_iff.mp h.nd⟩
theorem perm_out {α : Type} {x : α} : ∀ {l : List α} {k : Nat}, l[k]? = some x → l.Perm (l.eraseIdx k ++ [x])
  | [], _, h => by simp at h
  | y :: ys, 0, h => by
    simp at h
    subst h
    exact (List.perm_append_comm (l₁ := [y]) (l₂ := ys))
  | y :: ys, k + 1, h => by
    simp at h
    exact (perm_out h).cons y
theorem EQ.frzAt (h : EQ Y e γ M fun s M1 => ∃ (q : Addr) (ds : List PyData) (k : Nat), s = .ob q ∧ M1[k]? = some (q, .lst (ds.map S.d)) ∧ Q (.d (.list ds)) (M1.eraseIdx k)) : EQ Y e γ M Q :=
  ⟨PE.imp h.pe fun σ H R ⟨F, r, qq, ex⟩ => ⟨F, r, fun F1 v s M1 H1 e1 r1 v1 ⟨q, ds, k, hs, hk, kk⟩ => by
    subst hs
    cases v1
    obtain ⟨vs, g1, g2, g3, g4⟩ := (r1.hm.perm (perm_out hk)).frz
    exact qq _ (.ref q) (.d (.list ds)) _ H1 (e1.trans g3) (r1.ext g3 g4) (.lst (.inl (.inl upd_same)) (dps_mono g3 _ _ g2)) kk, ex⟩⟩
theorem b_frzAt (i k : Nat) {q : Addr} {ds : List PyData} {sts : List Stmt} (hi : γ[i]? = some (.ob q)) (hk : M[k]? = some (q, .lst (ds.map S.d))) (h : BL Y sts (γ.set i (.d (.list ds))) (M.eraseIdx k) P) : BL Y sts γ M P :=
  ⟨PSs.imp h.ps fun D σ H ⟨F, r, qq, ex⟩ => by
    have r' : Rl Y.X.K γ (M.eraseIdx k ++ [(q, .lst (ds.map S.d))]) F σ H := ⟨r.hm.perm (perm_out hk), r.sl⟩
    obtain ⟨vs, g1, g2, g3, g4⟩ := r'.hm.frz
    obtain ⟨o, h1, h2⟩ := pair_get r.sl hi
    obtain ⟨v, rfl, h3⟩ := h2.val rfl
    cases h3
    have r2 := r'.ext g3 g4
    have hv : SR Y.X.K (upd F q (.lst vs)) (.ref q) (.d (.list ds)) := .lst (.inl (.inl upd_same)) (dps_mono g3 _ _ g2)
    have r3 := pair_set (sr_or hv) i r2.sl
    rw [set_at h1] at r3
    exact ⟨_, ⟨r2.hm, r3⟩, qq.mono g3, ex.mono g3⟩⟩
/-- a tuple of items that may change -/
theorem q_tupM {kk} (h : EAQ Y es γ M fun ss M1 => Nat.ble ss.length 100000 = true ∧ ∀ q, Q (.ob q) (M1 ++ [(q, .tup ss)])) : EQ Y (.Tuple es kk pos) γ M Q :=
  ⟨PE.imp (pe_tup h.pa) fun σ H R ⟨F, r, q, ex⟩ => ⟨F, r, fun F1 vs ss M1 H1 e1 r1 v1 ⟨hn, hQ⟩ => ⟨by rw [pair_len v1]; exact small hn, fun p hp => by
    have h2 := r1.hm.newM hp (o := .tup vs) (m := .tup ss) ⟨vs, upd_same, v1⟩
    exact q F1 _ (.ob p) _ _ e1 ⟨h2, r1.sl⟩ rfl (hQ p)⟩, ex⟩⟩
/-! ### a call, the last parameters by their defaults -/
theorem e_callD {k : Nat} {f : Addr} {fd : FuncData} {ps : List Str} {cn : Con} {ds : List Value} {dvs : List V} {dd : List S} (G : FnOk Y.X.prog Y.X.w Y.X.K Y.X.mg Y.X.base (L2.CX Y.X.prog Y.X.w) k f fd ps (spD Y.X.K cn)) (hr : Room k Y.X.A) (hm : Y.X.mg x = some (.ref f)) (hk : PySem.W.keepIn Y.X.K (.ref f) = true) (hb : Binds Y.X.K fd ps ds) (hd : Vals dvs ds) (hdd : ∀ F, Paired (SR Y.X.K F) dvs dd)
    (tk : Takes Y.X Y.Er) (ha : EA Y (e :: es) γ M ss M1) (h : cn (ss ++ dd) M1 (fun r M' => r = s ∧ M' = M2) (fun cls M' => Y.Rx cls γ M')) (hg : Gl Y.X x := by rfl) (hdb : (x == ("__debug__" : Str)) = false := by decide)
    (he : starEach (e :: es) Y.X.env = (false, eval e Y.X.env) :: starEach es Y.X.env := by rfl) (hpl : (backTo pos (starEach es Y.X.env)).any (·.1) = false := by rfl) : EV Y (.Call (.Name x p) (e :: es) [] pos) γ M s M2 :=
  ⟨PE.imp (pe_callSD G hr hg hm hk hb hd (fun σ => passAt tk σ) ha.pa hdb he hpl) fun σ H Q ⟨F, rl, q, ex⟩ => ⟨F, rl, fun F1 vs H1 e1 r1 v1 => by
    refine ⟨F1, M1, ss ++ dd, _, _, pair_app v1 (hdd F1), r1.hm, h, fun F' v r M' H' e2 h2 v2 hR => ?_, fun cls M' F' H' e2 h2 hR => ex cls γ M' F' σ H' (e1.trans e2) (r1.ext e2 h2) hR⟩
    obtain ⟨rfl, rfl⟩ := hR
    exact q F' v H' (e1.trans e2) (r1.ext e2 h2) v2, ex⟩⟩
end
/-! ### a def with defaults -/
theorem FunD.okD {P : Program} {w : World} {K : PySem.W.Frag} {mg : Str → Option Value} {base : Heap} {x qual : Str} {params : Arguments} {body : List Stmt} {scope : Scope} {dvs : List V} {kws : List (Str × V)} {f : Addr} {fd : FuncData} {N ps : List Str} {k : Nat} {c : Con} (Fn : FunD K x qual params body scope dvs kws f fd) (Sc : FnScope N ps scope) (len : ∀ ss M R Rx, c ss M R Rx → ss.length = ps.length)
    (hbody : ∀ (cdv : Value) (A : Around) (outer : List Env) (s : Shared) (H : Hp) (E : XK) (ss : List S) (M : MM) (R : S → MM → Prop) (Rx : Value → MM → Prop), c ss M R Rx → Room k (A.deeper (envOfC qual scope s.heap.objs.size f cdv)) →
      Takes (cxOf (L2.CX P w) P w K mg base N qual scope f cdv A outer s H E) (fun cls d _ H => E cls d H) →
      BL ⟨cxOf (L2.CX P w) P w K mg base N qual scope f cdv A outer s H E, fun cls d _ H => E cls d H, fun cls _ M => Rx cls M⟩ body (ss ++ List.replicate (N.length - ss.length) .no) M
        { nx := fun _ M' => R (.d .none) M', rt := R, bk := fun _ _ => False, ct := fun _ _ => False }) : FnOk P w K mg base (L2.CX P w) (k + 1) f fd ps (spD K c) := by
  refine FunD.ok Fn Sc (fun vs H Q E h => ?_) (fun cdv A outer s H vs Q E hr h => ?_)
  · obtain ⟨F, M, ss, R, Rx, h1, h2, h3, h4, h5⟩ := h
    exact (pair_len h1).trans (len _ _ _ _ h3)
  · obtain ⟨F, M, ss, R, Rx, h1, h2, h3, h4, h5⟩ := h
    have hb := hbody cdv A outer s H E ss M R Rx h3 hr (takes_of rfl rfl rfl rfl)
    refine ⟨_, hb.ps, F, ⟨h2, start_ok h1⟩, ⟨fun γ' M' F' σ' H' e r z => ?_, fun s' M' F' v H' e hm sr z => ?_, fun _ _ _ _ _ _ _ z => z.elim, fun _ _ _ _ _ _ _ z => z.elim⟩, fun cls γ' M' F' σ' H' e r z => ?_⟩
    · exact h4 F' .non (.d .none) M' H' e r.hm Dp.non z
    · exact h4 F' v s' M' H' e hm sr z
    · exact h5 cls M' F' H' e r.hm z
/-- one default, a whole number -/
theorem dfl_int {K : PySem.W.Frag} {a : Addr} {od : Option Addr} {i : Int} {tk : Tok} {nn : Nat} {sl : Array (Option Value)} (h : K.lookup a = some ⟨.type "tuple", od, .seq #[.int i tk] nn, sl⟩) : DflV K (.ref a) [.int i] :=
  .inr ⟨fun z => (nomatch z), a, _, [.int i tk], nn, rfl, h, rfl, .cons ⟨tk, rfl⟩ .nil⟩
theorem dd_int {K : PySem.W.Frag} {i : Int} : ∀ F, Paired (SR K F) [V.int i] [S.d (.int i)] := fun F => .cons (Dp.int i) .nil
end Mi

/-! Mi: zip of two lists, either of which may change later. -/
namespace Mi
open PySem PySem.Spec PyProof.Rows L2 RZ
theorem walks_zv {K : PySem.W.Frag} {F1 : Hp} {a b : Addr} {s1 s2 : S} {ds es : List PyData} (k1 : SR K F1 (.ref a) s1) (k2 : SR K F1 (.ref b) s2) : Walks K (Itz K a b) F1 (zipS ds es) (fun M' => VL M' s1 (ds.map S.d) ∧ VL M' s2 (es.map S.d)) := by
  refine ⟨fun i H' F' M' e hm ⟨v1, v2⟩ hi => ?_, fun i H' v H'' x F' γ' M' σ' hx e r ⟨v1, v2⟩ y => ?_, fun i H' F' M' e hm ⟨v1, v2⟩ hi => ?_⟩
  · obtain ⟨_, vs, e1, h1, h2⟩ := v1.ok hm (k1.mono e)
    obtain ⟨_, ws, e2, g1, g2⟩ := v2.ok hm (k2.mono e)
    cases e1
    cases e2
    have hl := dps_len (all_d h2)
    have gl := dps_len (all_d g2)
    rw [zipS_len] at hi
    exact ⟨vs, ws, vs[i]'(by omega), ws[i]'(by omega), h1, g1, by simp, by simp⟩
  · obtain ⟨_, vs, e1, h1, h2⟩ := v1.ok r.hm (k1.mono e)
    obtain ⟨_, ws, e2, g1, g2⟩ := v2.ok r.hm (k2.mono e)
    cases e1
    cases e2
    obtain ⟨T, x1, y1, rfl, hT, rfl, hx1, hy1⟩ := y
    have e4 := hx1 vs h1
    have e5 := hy1 ws g1
    obtain ⟨d, e', hd, he, rfl⟩ := zipS_at hx
    obtain ⟨d2, hd2, dp1⟩ := dps_getV (all_d h2) e4
    obtain ⟨d3, hd3, dp2⟩ := dps_getV (all_d g2) e5
    rw [hd] at hd2; cases hd2
    rw [he] at hd3; cases hd3
    obtain ⟨e6, h6⟩ := r.hm.newF hT (.tup [x1, y1])
    exact ⟨_, e6, r.ext e6 h6, .tup (.inl (.inl upd_same)) (.cons (dp_mono e6 _ _ dp1) (.cons (dp_mono e6 _ _ dp2) .nil))⟩
  · obtain ⟨_, vs, e1, h1, h2⟩ := v1.ok hm (k1.mono e)
    obtain ⟨_, ws, e2, g1, g2⟩ := v2.ok hm (k2.mono e)
    cases e1
    cases e2
    have hl := dps_len (all_d h2)
    have gl := dps_len (all_d g2)
    rw [zipS_len] at hi
    exact ⟨vs, ws, h1, g1, by omega⟩
section
variable {Y : Ct} {γ : List S} {M M1 : MM} {s1 s2 : S} {a b : Expr} {pos p tpos : Pos} {elts : List Expr}
theorem i_zipV {kk : Nat} {ds es : List PyData} (hg : Gl Y.X "zip" := by rfl) (hm : Y.X.mg "zip" = none) (ha : EA Y [a, b] γ M [s1, s2] M1) (v1 : VL M1 s1 (ds.map S.d)) (v2 : VL M1 s2 (es.map S.d))
    (hs : starEach [a, b] Y.X.env = (false, eval a Y.X.env) :: starEach [b] Y.X.env := by rfl) (hpl : (backTo pos (starEach [b] Y.X.env)).any (·.1) = false := by rfl) :
    EI Y (.Tuple elts kk tpos) (.Call (.Name "zip" p) [a, b] [] pos) γ M (zipS ds es) (fun M' => VL M' s1 (ds.map S.d) ∧ VL M' s2 (es.map S.d)) M1 :=
  ⟨_, pi_zipA hg hm ha.pa hs hpl, fun F σ H R r ex k => ⟨F, r, fun F1 vs H1 e1 r1 w1 => by
    obtain ⟨v, w, rfl, h1, h2⟩ := pair_two w1
    obtain ⟨x, vs, rfl, g1, g2⟩ := v1.ok r1.hm h1
    obtain ⟨y, ws, rfl, g3, g4⟩ := v2.ok r1.hm h2
    exact ⟨_, _, _, _, rfl, .inl ⟨g1, g3, k F1 H1 _ e1 r1 (walks_zv h1 h2)⟩⟩, ex⟩⟩
end
section
variable {Y : Ct} {γ γ' : List S} {M : MM} {pos : Pos}
/-- a, b, .. = a tuple that holds what may change -/
theorem g_tupU {k kk : Nat} {es : List Expr} {q : Addr} {xs : List S} {n : Nat} (hk : M[kk]? = some (q, .tup xs)) (hc : Y.X.calm = true) (h : GTs Y es γ xs M γ') (hl : xs.length = n := by rfl) (hn : (assignEach es Y.X.env).length = n := by rfl) (hst : (assignEach es Y.X.env).findIdx? (·.1) = none := by rfl) :
    GT Y (.Tuple es k pos) γ (.ob q) M γ' := by
  obtain ⟨g, p, qq⟩ := h.ex
  refine ⟨_, pg_tup hc p hn hst, fun F σ H v Q r h q' => ?_⟩
  cases h
  obtain ⟨_, vs, h1, h2⟩ := r.hm.mo _ _ (List.mem_of_getElem? hk)
  exact ⟨_, _, rfl, .inl (.inl h1), (pair_len h2).trans hl, qq F σ H _ Q r h2 q'⟩
/-- tuples put together, the second one not told by one term -/
theorem q_catT {a b : Expr} {M1 : MM} {xs : List PyData} {Q : S → MM → Prop} (ha : EV Y a γ M (.d (.tuple xs)) M1) (hb : EQ Y b γ M1 fun s M2 => ∃ ys : List PyData, s = .d (.tuple ys) ∧ xs.length + ys.length ≤ 100000 ∧ Q (.d (.tuple (xs ++ ys))) M2) : EQ Y (.BinOp a .Add b pos) γ M Q :=
  ⟨PE.imp (pe_op op_catA ha.pe hb.pe) fun σ H R ⟨F, rl, q, ex⟩ => ⟨F, rl, fun F1 v H1 e1 r1 w1 => ⟨F1, r1, fun F2 w s M2 H2 e2 r2 w2 ⟨ys, hs, hl, hQ⟩ => by
    subst hs
    have w1' := w1.mono e2
    cases w1' with
    | tup h1 h2 =>
      rename_i l vs
      cases w2 with
      | tup h3 h4 =>
        rename_i l2 us
        have e5 := dps_len h2
        have e6 := dps_len h4
        refine ⟨l, l2, vs, us, rfl, rfl, same_t r2.hm.fh h1, same_t r2.hm.fh h3, by rw [e5, e6]; exact Nat.le_trans hl (by decide), fun hv => ?_, fun hv hu => ?_, fun hv hu p hp => ?_⟩
        · subst hv
          cases h2
          exact q F2 _ (.d (.tuple ys)) M2 H2 (e1.trans e2) r2 (Dp.tup h3 h4) hQ
        · subst hu
          cases h4
          rw [List.append_nil] at hQ
          exact q F2 _ (.d (.tuple xs)) M2 H2 (e1.trans e2) r2 (Dp.tup h1 h2) hQ
        · obtain ⟨e7, h7⟩ := r2.hm.newF hp (.tup (vs ++ us))
          have h8 : DpAll Y.X.K F2 (vs ++ us) (xs ++ ys) := all_d (by rw [List.map_append]; exact pair_app (d_all h2) (d_all h4))
          exact q _ _ (.d (.tuple (xs ++ ys))) M2 _ ((e1.trans e2).trans e7) (r2.ext e7 h7) (Dp.tup (.inl (.inl upd_same)) (dps_mono e7 _ _ h8)) hQ, ex.mono e1⟩, ex⟩⟩
/-- tuple(e), e a list not told by one term -/
theorem q_tupleQ {e : Expr} {p : Pos} {Q : S → MM → Prop} (hg : Gl Y.X "tuple" := by rfl) (hm : Y.X.mg "tuple" = none) (h : EQ Y e γ M fun s M1 => ∃ ds : List PyData, VL M1 s (ds.map S.d) ∧ Q (.d (.tuple ds)) M1)
    (he : starEach [e] Y.X.env = (false, eval e Y.X.env) :: starEach [] Y.X.env := by rfl) (hpl : (backTo pos (starEach [] Y.X.env)).any (·.1) = false := by rfl) : EQ Y (.Call (.Name "tuple" p) [e] [] pos) γ M Q :=
  ⟨PE.imp (pe_callTy call_tuple_of hg hm (by decide +kernel) (pa_cons h.pe pa_nil he) (by decide) (by decide) he hpl) fun σ H R ⟨F, r, q, ex⟩ => ⟨F, r, fun F1 v s M1 H1 e1 r1 v1 ⟨ds, hv, hQ⟩ => by
    obtain ⟨a, ws, rfl, h1, h2⟩ := hv.ok r1.hm v1
    refine ⟨a, ws, rfl, .inl ⟨h1, fun l hl => ?_⟩⟩
    obtain ⟨e2, h3⟩ := r1.hm.newF hl (.tup ws)
    exact q _ _ (.d (.tuple ds)) M1 _ (e1.trans e2) (r1.ext e2 h3) (Dp.tup (.inl (.inl upd_same)) (dps_mono e2 _ _ (all_d h2))) hQ, ex⟩⟩
end
end Mi

/-! Mi: the last item taken out of a list; a list so often; len of a list that may change; rows as a list or a tuple. -/
namespace Mi
open PySem PySem.Spec PyProof.Rows L2 RZ
section
variable {Y : Ct} {γ γ' : List S} {M M1 M2 M3 : MM} {s s1 s2 s3 : S} {e a b c o it tg : Expr} {pos p p2 : Pos} {x : Str} {es : List Expr} {ss : List S} {P : Po} {Q : S → MM → Prop}
theorem pair_unsnoc {α β : Type} {R : α → β → Prop} {y : β} : ∀ {xs : List α} {ys : List β}, Paired R xs (ys ++ [y]) → ∃ zs z, xs = zs ++ [z] ∧ Paired R zs ys ∧ R z y
  | _, [], h => by
    obtain ⟨v, rfl, r⟩ := pair_one h
    exact ⟨[], v, rfl, .nil, r⟩
  | _, b :: bs, h => by
    cases h with
    | cons r t =>
      obtain ⟨zs, z, rfl, h1, h2⟩ := pair_unsnoc t
      exact ⟨_ :: zs, z, rfl, .cons r h1, h2⟩
theorem q_pop {q : Addr} {k : Nat} {xs : List S} {apos : Pos} (ho : EV Y o γ M (.ob q) M1) (hk : M1[k]? = some (q, .lst (xs ++ [s]))) (hQ : Q s (M1.set k (q, .lst xs)))
    (hbase : attributeBase o "pop" Y.X.env (eval o Y.X.env) = eval o Y.X.env := by rfl) (hline : (apos.endLine == pos.line) = true := by rfl) : EQ Y (.Call (.Attribute o "pop" apos) [] [] pos) γ M Q :=
  ⟨PE.imp (pe_bm0 PySem.F.plainAttrs_list PySem.F.slot_list_pop PySem.F.type_list_pop mt_pop ho.pe hbase hline) fun σ H R ⟨F, r, qq, ex⟩ => ⟨F, r, fun F1 v H1 e1 r1 v1 => by
    cases v1
    obtain ⟨_, ws, g1, g2⟩ := r1.hm.mo _ _ (List.mem_of_getElem? hk)
    obtain ⟨zs, z, rfl, h1, h2⟩ := pair_unsnoc g2
    refine ⟨Or.inl ⟨rfl, _, .of g1⟩, q, _, z, rfl, rfl, g1, by simp, ?_⟩
    rw [List.dropLast_concat]
    have hM := r1.hm.setM hk (o := .lst zs) (m := .lst xs) ⟨_, upd_same, h1⟩
    exact qq F1 z s _ _ e1 ⟨hM, r1.sl⟩ h2 hQ, ex⟩⟩
theorem pair_rep {α β : Type} {R : α → β → Prop} {xs : List α} {ys : List β} (h : Paired R xs ys) : ∀ n : Nat, Paired R (List.replicate n xs).flatten (List.replicate n ys).flatten
  | 0 => .nil
  | n + 1 => by
    rw [List.replicate_succ, List.replicate_succ, List.flatten_cons, List.flatten_cons]
    exact pair_app h (pair_rep h n)
theorem q_rep (ha : EQ Y a γ M fun s1 M1 => ∃ (q : Addr) (xs : List S) (n k : Nat), s1 = .ob q ∧ M1[n]? = some (q, .lst xs) ∧ EV Y b γ M1 (.d (.int k)) M1 ∧ xs.length * k ≤ 100000 ∧ k < 2 ^ 62 ∧ ∀ p, Q (.ob p) (M1 ++ [(p, .lst (List.replicate k xs).flatten)])) : EQ Y (.BinOp a .Mult b pos) γ M Q :=
  ⟨PE.imp (pe_op op_rep ha.pe uE_ok) fun σ H R ⟨F, rl, q, ex⟩ => ⟨F, rl, fun F1 v s1 M1 H1 e1 r1 w1 ⟨q1, xs, n, k, hs, hk, hb, hl, hk2, hQ⟩ => ⟨_, hb.pe, F1, r1, fun F2 w H2 e2 r2 w2 => by
    subst hs
    cases w1
    cases w2
    obtain ⟨_, vs, h1, h2⟩ := r2.hm.mo _ _ (List.mem_of_getElem? hk)
    refine ⟨q1, (k : Int), vs, rfl, rfl, h1, by omega, by omega, ?_, fun p hp => ?_⟩
    · rw [pair_len h2, Int.toNat_natCast]
      exact Nat.le_trans hl (by decide)
    · rw [Int.toNat_natCast]
      have h5 := r2.hm.newM hp (o := .lst (List.replicate k vs).flatten) (m := .lst (List.replicate k xs).flatten) ⟨_, upd_same, pair_rep h2 k⟩
      exact q F2 _ (.ob p) _ _ (e1.trans e2) ⟨h5, r2.sl⟩ rfl (hQ p), ex.mono e1⟩, ex⟩⟩
theorem e_lenV {xs : List S} {n : Nat} (hg : Gl Y.X "len" := by rfl) (hm : Y.X.mg "len" = none) (ha : EA Y (e :: es) γ M [s] M1) (hv : VL M1 s xs) (hn : xs.length = n)
    (he : starEach (e :: es) Y.X.env = (false, eval e Y.X.env) :: starEach es Y.X.env := by rfl) (hpl : (backTo pos (starEach es Y.X.env)).any (·.1) = false := by rfl) : EV Y (.Call (.Name "len" p) (e :: es) [] pos) γ M (.d (.int n)) M1 :=
  e_callB call_len hg hm PySem.boot_len ha (he := he) (hpl := hpl) (hr := ⟨fun F vs H Q hm' g q => by
    obtain ⟨v, rfl, g0⟩ := pair_one g
    obtain ⟨a, ws, rfl, h1, h2⟩ := hv.ok hm' g0
    exact ⟨_, n, rfl, .inl ⟨_, h1, by rw [← hn, pair_len h2]⟩, q F _ H (Same.refl F) hm' (.int _)⟩⟩)
theorem EI.imp {xs : List S} {Sd Sd' : MM → Prop} (h : EI Y tg it γ M xs Sd M1) (k : ∀ M', Sd' M' → Sd M') : EI Y tg it γ M xs Sd' M1 := by
  obtain ⟨wi, h1, h2⟩ := h.ex
  refine ⟨wi, h1, fun F σ H R r ex q => h2 F σ H R r ex fun F1 H1 J e1 r1 W => q F1 H1 J e1 r1 ?_⟩
  obtain ⟨w1, w2, w3⟩ := W
  exact ⟨fun i H' F' M' e hm hs hi => w1 i H' F' M' e hm (k _ hs) hi, fun i H' v H'' x F' γ' M' σ' hx e r hs y => w2 i H' v H'' x F' γ' M' σ' hx e r (k _ hs) y, fun i H' F' M' e hm hs hi => w3 i H' F' M' e hm (k _ hs) hi⟩
/-- rows: a list or a tuple, seen as its items -/
def SqV (M : MM) (s : S) (ds : List PyData) : Prop := s = .d (.tuple ds) ∨ VL M s (ds.map S.d)
theorem SqV.t {ds : List PyData} : SqV M (.d (.tuple ds)) ds := .inl rfl
theorem SqV.l {ds : List PyData} : SqV M (.d (.list ds)) ds := .inr .d
theorem i_sq {ds : List PyData} (h : EV Y it γ M s M1) (v : SqV M1 s ds) : EI Y tg it γ M (ds.map S.d) (fun M' => SqV M' s ds) M1 := by
  rcases v with rfl | v
  · exact (i_tup h).imp fun _ _ => trivial
  · revert v
    generalize hx : ds.map S.d = xs
    intro v
    cases v with
    | d =>
      rename_i ys
      have : ds = ys := List.map_inj_right (fun a b e => by cases e; rfl) |>.mp hx
      subst this
      exact (i_list h).imp fun _ _ => trivial
    | l hk =>
      refine (i_listM h hk).imp fun M' v' => ?_
      rcases v' with v' | v'
      · cases v'
      · rw [hx] at v'
        cases v' with
        | l h => exact ⟨_, h⟩
end
end Mi

/-! Mi: a tuple so often, any number of times. -/
namespace Mi
open PySem PySem.Spec PyProof.Rows L2 RZ
theorem tuple_mul1 (l : Addr) (items : Array Value) (n : Nat) (dd : Option Addr) (sl : Array (Option Value)) (x : Int) (u : Tok) (c0 : (decide (x < -2 ^ 63) || decide (x ≥ 2 ^ 63)) = false) (c1 : (items.isEmpty || x == 1) = true) :
    Meets (Builtin.«tuple.__mul__» { pos := [Value.ref l, Value.int x u] }) fun _ R s => s.heap.get? l = some { cls := Value.type "tuple", dict := dd, data := Data.seq items n, slots := sl } ∧ R (Except.ok (Flow.ret (Value.ref l))) s :=
  Meets.of_wp fun prog w A R s h => by
    obtain ⟨hp, g, d, tk, os⟩ := s
    obtain ⟨hl, h⟩ := h
    have f1 := AutoSeq1.idx_int
    refine wpAny_ite_false (by rw [c0]; rfl) ?_
    refine wpAny_bind ?_
    refine wpAny_bind ?_
    refine wpAny_bind (wpAny_load' hl ?_)
    refine wpAny_pure (wpAny_pure ?_)
    refine wpAny_ite_true (c := (items.isEmpty || x == 1) = true) (decide_eq_true c1) ?_
    refine wpAny_bind (wpAny_bind (wpAny_bind ?_))
    refine wpAny_loadPart' hl (wpAny_pure (wpAny_pure ?_))
    refine wpAny_ite_true rfl (wpAny_bind (wpAny_rule ?_))
    exact wpAny_pure ⟨_, rfl, h⟩
theorem tuple_mul0 (l : Addr) (items : Array Value) (n : Nat) (dd : Option Addr) (sl : Array (Option Value)) (x : Int) (u : Tok) (c0 : (decide (x < -2 ^ 63) || decide (x ≥ 2 ^ 63)) = false) (c1 : (items.isEmpty || x == 1) = false) (c2 : (decide (x ≤ 0) || items.isEmpty) = true) :
    Meets (Builtin.«tuple.__mul__» { pos := [Value.ref l, Value.int x u] }) fun _ R s => s.heap.get? l = some { cls := Value.type "tuple", dict := dd, data := Data.seq items n, slots := sl } ∧ R (Except.ok (Flow.ret (Value.ref s.heap.objs.size))) { heap := s.heap.push { cls := Value.type "tuple", data := Data.seq #[] }, gens := s.gens, drawn := s.drawn, toks := s.toks, os := s.os } :=
  Meets.of_wp fun prog w A R s h => by
    obtain ⟨hp, g, d, tk, os⟩ := s
    obtain ⟨hl, h⟩ := h
    have f1 := AutoSeq1.idx_int
    refine wpAny_ite_false (by rw [c0]; rfl) ?_
    refine wpAny_bind ?_
    refine wpAny_bind ?_
    refine wpAny_bind (wpAny_load' hl ?_)
    refine wpAny_pure (wpAny_pure ?_)
    refine wpAny_ite_false (c := (items.isEmpty || x == 1) = true) (by rw [c1]; rfl) ?_
    refine wpAny_ite_true (c := (decide (x ≤ 0) || items.isEmpty) = true) (decide_eq_true c2) ?_
    refine wpAny_bind ?_
    refine wpAny_bind ?_
    refine wpAny_alloc' ?_
    exact wpAny_pure (wpAny_pure ⟨_, rfl, h⟩)
section
variable {X : Cx}
def rRepA (K : PySem.W.Frag) : R2 := fun x y H Q => ∃ l k xs, x = V.ref l ∧ y = V.int k ∧ SqT K H l xs ∧ 0 ≤ k ∧ k ≤ 1000 ∧ k.toNat * xs.length ≤ 100000 ∧ ((xs = [] ∨ k = 1) → Q (.ref l) H) ∧ ((xs ≠ [] ∧ k = 0) → ∀ p, H p = none → Q (.ref p) (upd H p (.tup []))) ∧ ((xs ≠ [] ∧ 2 ≤ k) → ∀ p, H p = none → Q (.ref p) (upd H p (.tup (List.replicate k.toNat xs).flatten)))
theorem op_repA : OpR X (binaryOp .Mult) (rRepA X.K) := by
  intro pins s σ H x y v u Q I rx ry h
  obtain ⟨l, k, xs, rfl, rfl, hT, h0, h1, hl, q1, q0, q2⟩ := h
  cases rx
  obtain ⟨t, rfl⟩ := ry
  obtain ⟨its, r, p1, z1⟩ := I.tuple hT
  obtain ⟨⟨cls, dd, data, sl⟩, ho, hc, n, hd⟩ := p1
  simp only at hc hd
  subst hc hd
  have c0 : (decide (k < -2 ^ 63) || decide (k ≥ 2 ^ 63)) = false := by
    rw [decide_eq_false (by omega), decide_eq_false (by omega)]; rfl
  have hlen := r.length
  by_cases c2 : xs ≠ [] ∧ 2 ≤ k
  · obtain ⟨hne, hk⟩ := c2
    have e0 : its.toArray.isEmpty = false := by
      cases its with
      | nil => cases xs with
        | nil => exact absurd rfl hne
        | cons a as => cases hlen
      | cons a as => rfl
    have e1 : (its.toArray.isEmpty || k == 1) = false := by
      rw [e0, Bool.false_or]
      exact beq_eq_false_iff_ne.mpr (by omega)
    have e2 : (decide (k ≤ 0) || its.toArray.isEmpty) = false := by
      rw [e0, Bool.or_false]
      exact decide_eq_false (by omega)
    have hz : ((its.toArray.size : Nat) : Int) * k ≤ 100000 := by
      rw [List.size_toArray, ← hlen]
      have : ((k.toNat * xs.length : Nat) : Int) ≤ 100000 := by omega
      rw [Int.natCast_mul, Int.toNat_of_nonneg h0, Int.mul_comm] at this
      exact this
    have e4 : Builtin.Tuple.tupleTooMany (((its.toArray.size : Nat) : Int) * k) = false := decide_eq_false (by
      have h9 : ((100000 : Nat) : Int) ≤ ((sizeLine : Nat) : Int) := Int.ofNat_le.mpr (by decide)
      omega)
    have hsz : (List.foldl (fun x1 x2 => x1 ++ x2) #[] (List.replicate k.toNat its.toArray)).size ≤ sizeLine := by
      rw [size_rep its k.toNat, List.size_toArray, PyProof.Rows.lm_len_rep_flat, ← hlen]
      exact Nat.le_trans hl (by decide)
    have hl2 : (List.replicate k.toNat xs).flatten.length ≤ sizeLine := by
      rw [PyProof.Rows.lm_len_rep_flat]
      exact Nat.le_trans hl (by decide)
    refine wpAny_binaryOp_repeat_ref (by decide) ⟨_, ho, rfl⟩ (fun s' => typeIs_int s' k t) noFill_tuple_mul F.fills_int_mul F.slot_int_rmul repeat_tuple F.slot_int_index.lookup
      (call_meets F.slot_int_rmul (typeIs_int s k t) F.entry_int_rmul (F.args_int_rmul_2 _ _) (int_rmul_tuple k t l its.toArray n dd sl)
        ⟨ho, rfl, ⟨_, ho, rfl⟩, call_meets F.slot_tuple_mul ⟨_, ho, rfl⟩ F.entry_tuple_mul (F.args_tuple_mul_2 _ _) (tuple_mulW l its.toArray n dd sl k t c0 e1 e2 (fun z => by omega) e4 hsz) ⟨ho, ?_⟩⟩)
    rw [size_rep its k.toNat]
    exact ⟨.ref s.heap.objs.size, _, I.laid (o := .tup (List.replicate k.toNat xs).flatten) (fun b ob q => Heap.get?_push_of_some _ q) (Nat.le_refl _) (show (List.replicate k.toNat xs).flatten.length ≤ sizeLine ∧ _ from ⟨hl2, (List.replicate k.toNat its).flatten, Vals.rep r k.toNat, PyProof.Rows.IsTup.new s.heap _⟩), rfl, q2 ⟨hne, hk⟩ _ (HOk.fresh I.hok (Nat.le_refl _))⟩
  · by_cases c1 : xs = [] ∨ k = 1
    · have e1 : (its.toArray.isEmpty || k == 1) = true := by
        rcases c1 with c1 | c1
        · subst c1
          cases its with
          | nil => rfl
          | cons a as => cases hlen
        · subst c1
          rw [beq_self_eq_true, Bool.or_true]
      exact wpAny_binaryOp_repeat_ref (by decide) ⟨_, ho, rfl⟩ (fun s' => typeIs_int s' k t) noFill_tuple_mul F.fills_int_mul F.slot_int_rmul repeat_tuple F.slot_int_index.lookup
        (call_meets F.slot_int_rmul (typeIs_int s k t) F.entry_int_rmul (F.args_int_rmul_2 _ _) (int_rmul_tuple k t l its.toArray n dd sl)
          ⟨ho, rfl, ⟨_, ho, rfl⟩, call_meets F.slot_tuple_mul ⟨_, ho, rfl⟩ F.entry_tuple_mul (F.args_tuple_mul_2 _ _) (tuple_mul1 l its.toArray n dd sl k t c0 e1) ⟨ho, .ref l, H, I, rfl, q1 c1⟩⟩)
    · have hne : xs ≠ [] := fun z => c1 (.inl z)
      have hk : k = 0 := by
        have : ¬ 2 ≤ k := fun z => c2 ⟨hne, z⟩
        have : ¬ k = 1 := fun z => c1 (.inr z)
        omega
      subst hk
      have e1 : (its.toArray.isEmpty || (0 : Int) == 1) = false := by
        cases its with
        | nil => cases xs with
          | nil => exact absurd rfl hne
          | cons a as => cases hlen
        | cons a as => rfl
      exact wpAny_binaryOp_repeat_ref (by decide) ⟨_, ho, rfl⟩ (fun s' => typeIs_int s' 0 t) noFill_tuple_mul F.fills_int_mul F.slot_int_rmul repeat_tuple F.slot_int_index.lookup
        (call_meets F.slot_int_rmul (typeIs_int s 0 t) F.entry_int_rmul (F.args_int_rmul_2 _ _) (int_rmul_tuple 0 t l its.toArray n dd sl)
          ⟨ho, rfl, ⟨_, ho, rfl⟩, call_meets F.slot_tuple_mul ⟨_, ho, rfl⟩ F.entry_tuple_mul (F.args_tuple_mul_2 _ _) (tuple_mul0 l its.toArray n dd sl 0 t c0 e1 rfl) ⟨ho, .ref s.heap.objs.size, _, I.laid (o := .tup []) (fun b ob q => Heap.get?_push_of_some _ q) (Nat.le_refl _) (show ([] : List V).length ≤ sizeLine ∧ _ from ⟨Nat.zero_le _, [], .nil, PyProof.Rows.IsTup.new s.heap #[]⟩), rfl, q0 ⟨hne, rfl⟩ _ (HOk.fresh I.hok (Nat.le_refl _))⟩⟩)
end
section
variable {Y : Ct} {γ γ' : List S} {M M1 M2 : MM} {s s1 s2 : S} {a b : Expr} {pos : Pos} {Q : S → MM → Prop}
/-- a tuple so often -/
theorem q_repT (ha : EQ Y a γ M fun s1 M1 => ∃ (ds : List PyData) (k : Nat) (M2 : MM), s1 = .d (.tuple ds) ∧ EV Y b γ M1 (.d (.int k)) M2 ∧ k ≤ 1000 ∧ k * ds.length ≤ 100000 ∧ Q (.d (.tuple (List.replicate k ds).flatten)) M2) : EQ Y (.BinOp a .Mult b pos) γ M Q :=
  ⟨PE.imp (pe_op op_repA ha.pe uE_ok) fun σ H R ⟨F, rl, q, ex⟩ => ⟨F, rl, fun F1 v s1 M1 H1 e1 r1 w1 ⟨ds, k, M2, hs, hb, hk, hl, hQ⟩ => ⟨_, hb.pe, F1, r1, fun F2 w H2 e2 r2 w2 => by
    subst hs
    have w1' := w1.mono e2
    cases w1' with
    | tup h1 h2 =>
      rename_i l vs
      cases w2
      have e5 := dps_len h2
      refine ⟨l, (k : Int), vs, rfl, rfl, same_t r2.hm.fh h1, by omega, by omega, by rw [e5, Int.toNat_natCast]; exact hl, fun c => ?_, fun c p hp => ?_, fun c p hp => ?_⟩
      · have e : (List.replicate k ds).flatten = ds := by
          rcases c with c | c
          · subst c
            cases h2
            induction k with
            | zero => rfl
            | succ k ih => rw [List.replicate_succ, List.flatten_cons, List.nil_append]; simp
          · have : k = 1 := by omega
            subst this
            simp
        rw [e] at hQ
        exact q F2 _ (.d (.tuple ds)) M2 H2 (e1.trans e2) r2 (Dp.tup h1 h2) hQ
      · obtain ⟨e7, h7⟩ := r2.hm.newF hp (.tup [])
        have : k = 0 := by omega
        subst this
        exact q _ _ (.d (.tuple [])) M2 _ ((e1.trans e2).trans e7) (r2.ext e7 h7) (Dp.tup (.inl (.inl upd_same)) .nil) hQ
      · obtain ⟨e7, h7⟩ := r2.hm.newF hp (.tup (List.replicate (k : Int).toNat vs).flatten)
        have h8 : DpAll Y.X.K F2 (List.replicate k vs).flatten (List.replicate k ds).flatten := all_d (by
          have := pair_rep (d_all h2) k
          rw [List.map_flatten, List.map_replicate]
          exact this)
        rw [Int.toNat_natCast] at *
        exact q _ _ (.d (.tuple (List.replicate k ds).flatten)) M2 _ ((e1.trans e2).trans e7) (r2.ext e7 h7) (Dp.tup (.inl (.inl upd_same)) (dps_mono e7 _ _ h8)) hQ, ex.mono e1⟩, ex⟩⟩
theorem e_repT {ds : List PyData} {k : Nat} (ha : EV Y a γ M (.d (.tuple ds)) M1) (hb : EV Y b γ M1 (.d (.int k)) M2) (hk : k ≤ 1000) (hl : k * ds.length ≤ 100000) : EV Y (.BinOp a .Mult b pos) γ M (.d (.tuple (List.replicate k ds).flatten)) M2 :=
  EV.ofQ (q_repT (ha.q ⟨ds, k, M2, rfl, hb, hk, hl, rfl, List.Sublist.refl _⟩))
end
section
variable {Y : Ct} {γ γ' : List S} {M M1 M2 : MM} {s s1 s2 : S} {a b c : Expr} {pos : Pos} {b1 : Bool}
/-- a if c else b -/
theorem e_ifE (hc : ET Y c γ M b1 M1) (h1 : b1 = true → EV Y a γ M1 s M2) (h2 : b1 = false → EV Y b γ M1 s M2) : EV Y (.IfExp c a b pos) γ M s M2 := by
  cases b1 with
  | true =>
    exact ⟨PE.imp (pe_ifExp hc.pt (h1 rfl).pe PE.never) fun σ H Q ⟨F, r, q, ex⟩ => ⟨F, r, fun F1 H1 e1 r1 => by
      refine iteT ?_
      exact ⟨F1, r1, fun F2 v H2 e2 r2 v2 => q F2 v H2 (e1.trans e2) r2 v2, ex.mono e1⟩, ex⟩⟩
  | false =>
    exact ⟨PE.imp (pe_ifExp hc.pt PE.never (h2 rfl).pe) fun σ H Q ⟨F, r, q, ex⟩ => ⟨F, r, fun F1 H1 e1 r1 => by
      refine iteF ?_
      exact ⟨F1, r1, fun F2 v H2 e2 r2 v2 => q F2 v H2 (e1.trans e2) r2 v2, ex.mono e1⟩, ex⟩⟩
end
end Mi

/-! Mi: dicts with nested keys; sorted(data). -/
namespace Mi
open PySem PySem.Spec PyProof.Rows L2
section
variable {X : Cx} {pins : List (Addr × Obj)} {σ : L2.St} {H F : Hp} {s : Shared}
mutual
theorem nested_is (I : Inv X pins σ H s) : ∀ (d : PyData) (v : V) (u : Value), Dp X.K H v d → RelV v u → kd d = true → NestedIs s.heap (keyOf d) u
  | .int i, _, _, h, r, _ => by
    cases h
    obtain ⟨t, rfl⟩ := r
    exact NestedIs.int i t
  | .str x, _, _, h, r, _ => by
    cases h
    obtain ⟨t, rfl⟩ := r
    exact NestedIs.text x t
  | .tuple ds, _, _, h, r, k => by
    cases h with
    | tup hs ha =>
      cases r
      obtain ⟨its, rv, ⟨o, ho, hc, n, hd⟩, _⟩ := I.tuple hs
      exact NestedIs.tup ho hc hd (by simpa using nested_all I ds _ its ha rv (by simpa [kd] using k))
  | .none, _, _, _, _, k => by cases k
  | .bool _, _, _, _, _, k => by cases k
  | .list _, _, _, _, _, k => by cases k
  | .dict _, _, _, _, _, k => by cases k
theorem nested_all (I : Inv X pins σ H s) : ∀ (ds : List PyData) (vs : List V) (us : List Value), DpAll X.K H vs ds → Vals vs us → kds ds = true → NestedAll s.heap (keysOf ds) us
  | [], _, _, h, r, _ => by
    cases h
    cases r
    exact NestedAll.nil
  | d :: ds, _, _, h, r, k => by
    cases h with
    | cons h1 h2 =>
      cases r with
      | cons r1 r2 =>
        rw [kds, Bool.and_eq_true] at k
        exact NestedAll.cons (nested_is I d _ _ h1 r1 k.1) (nested_all I ds _ _ h2 r2 k.2)
end
mutual
theorem key_inj : ∀ (d e : PyData), kd d = true → kd e = true → keyOf d = keyOf e → d = e
  | .int i, .int j, _, _, h => by rw [keyOf, keyOf] at h; injection h with h; rw [h]
  | .int i, .str j, _, _, h => by rw [keyOf, keyOf] at h; cases h
  | .int i, .tuple j, _, _, h => by rw [keyOf, keyOf] at h; cases h
  | .str i, .int j, _, _, h => by rw [keyOf, keyOf] at h; cases h
  | .str i, .str j, _, _, h => by rw [keyOf, keyOf] at h; injection h with h; rw [h]
  | .str i, .tuple j, _, _, h => by rw [keyOf, keyOf] at h; cases h
  | .tuple i, .int j, _, _, h => by rw [keyOf, keyOf] at h; cases h
  | .tuple i, .str j, _, _, h => by rw [keyOf, keyOf] at h; cases h
  | .tuple i, .tuple j, a, b, h => by
    rw [keyOf, keyOf] at h
    injection h with h
    rw [keys_inj i j (by simpa [kd] using a) (by simpa [kd] using b) h]
  | .none, _, a, _, _ => by cases a
  | .bool _, _, a, _, _ => by cases a
  | .list _, _, a, _, _ => by cases a
  | .dict _, _, a, _, _ => by cases a
  | .int _, .none, _, b, _ => by cases b
  | .int _, .bool _, _, b, _ => by cases b
  | .int _, .list _, _, b, _ => by cases b
  | .int _, .dict _, _, b, _ => by cases b
  | .str _, .none, _, b, _ => by cases b
  | .str _, .bool _, _, b, _ => by cases b
  | .str _, .list _, _, b, _ => by cases b
  | .str _, .dict _, _, b, _ => by cases b
  | .tuple _, .none, _, b, _ => by cases b
  | .tuple _, .bool _, _, b, _ => by cases b
  | .tuple _, .list _, _, b, _ => by cases b
  | .tuple _, .dict _, _, b, _ => by cases b
theorem keys_inj : ∀ (ds es : List PyData), kds ds = true → kds es = true → keysOf ds = keysOf es → ds = es
  | [], [], _, _, _ => rfl
  | [], e :: es, _, _, h => by rw [keysOf, keysOf] at h; cases h
  | d :: ds, [], _, _, h => by rw [keysOf, keysOf] at h; cases h
  | d :: ds, e :: es, a, b, h => by
    rw [keysOf, keysOf] at h
    rw [kds, Bool.and_eq_true] at a b
    injection h with h1 h2
    rw [key_inj d e a.1 b.1 h1, keys_inj ds es a.2 b.2 h2]
end
abbrev KN (K : PySem.W.Frag) (F : Hp) : List NV → List (PyData × S) → Prop := Paired (fun (p : NV) (q : PyData × S) => p.1 = keyOf q.1 ∧ Dp K F (.ref p.2.1) q.1 ∧ KdT q.1 ∧ SR K F p.2.2 q.2)
abbrev NR : List NV → List (NestedKey × Addr × Value) → Prop := Paired (fun (p : NV) (q : NestedKey × Addr × Value) => p.1 = q.1 ∧ p.2.1 = q.2.1 ∧ RelV p.2.2 q.2.2)
theorem pair_left {α β : Type} {R : α → β → Prop} : ∀ {as : List α} {bs : List β}, Paired R as bs → ∀ b ∈ bs, ∃ a ∈ as, R a b
  | _, _, .nil, b, h => nomatch h
  | _, _, .cons r t, b, h => by
    rcases List.mem_cons.mp h with rfl | h
    · exact ⟨_, List.mem_cons_self, r⟩
    · obtain ⟨a, h1, h2⟩ := pair_left t b h
      exact ⟨a, List.mem_cons_of_mem _ h1, h2⟩
theorem pair_right {α β : Type} {R : α → β → Prop} : ∀ {as : List α} {bs : List β}, Paired R as bs → ∀ a ∈ as, ∃ b ∈ bs, R a b
  | _, _, .nil, b, h => nomatch h
  | _, _, .cons r t, b, h => by
    rcases List.mem_cons.mp h with rfl | h
    · exact ⟨_, List.mem_cons_self, r⟩
    · obtain ⟨a, h1, h2⟩ := pair_right t b h
      exact ⟨a, List.mem_cons_of_mem _ h1, h2⟩
theorem dko_mk {P : Program} {w : World} {H' : Hp} {h : Heap} {a : Addr} {xs : List NV} {ys : List (NestedKey × Addr × Value)} (hl : xs.length ≤ sizeLine) (hs : (a == sysModules) = false) (pr : NR xs ys) {o : Obj} {es : Array DictEntry} {ep : Nat}
    (h1 : h.get? a = some o) (h2 : o.ExactDict) (h3 : o.data = .dict es ep) (h4 : es.toList = ys.map (fun x => (⟨x.1.hash w, .ref x.2.1, x.2.2⟩ : DictEntry))) (h5 : (ys.map (·.1)).Nodup) : ObjOk P w H' h a (DKO w a xs) :=
  ⟨⟨hl, hs, ys, pr, o, es, ep, h1, h2, h3, h4, h5⟩, ⟨o, h1⟩, fun g1 g2 ⟨hl, hs, ys, pr, o, es, ep, h1, h2, h3, h4, h5⟩ k => ⟨hl, hs, ys, pr, o, es, ep, k _ h1, h2, h3, h4, h5⟩⟩
theorem dko_of {a : Addr} {xs : List NV} {kvs : List (PyData × S)} (I : Inv X pins σ H s) (hF : Same F H) (e : H a = some (DKO X.w a xs)) (p : KN X.K F xs kvs) :
    ∃ ys, NR xs ys ∧ s.heap.DictOfH (nestedKind X.prog X.w) a ys ∧ (a == sysModules) = false ∧ xs.length ≤ sizeLine := by
  obtain ⟨⟨hl, hs, ys, pr, o, es, ep, h1, h2, h3, h4, h5⟩, _⟩ := (show ObjOk X.prog X.w H s.heap a (DKO X.w a xs) from I.hok a _ e)
  refine ⟨ys, pr, ⟨o, es, ep, h1, h2, h3, h4, fun y hy => ?_, h5⟩, hs, hl⟩
  obtain ⟨x, hx, r1, r2, _⟩ := pair_left pr y hy
  obtain ⟨q, _, q1, q2, q3, _⟩ := pair_right p x hx
  rw [← r1, ← r2, q1]
  exact ⟨nested_is I q.1 _ _ (dp_mono hF _ _ q2) rfl q3.2.1, q3.2.2⟩
def putN (xs : List NV) (k : NestedKey) (b : Addr) (v : V) : List NV := if xs.any (fun x => decide (x.1 = k)) then xs.map (fun x => if x.1 = k then (x.1, x.2.1, v) else x) else xs ++ [(k, b, v)]
def putD (kvs : List (PyData × S)) (d : PyData) (z : S) : List (PyData × S) := if kvs.any (fun x => decide (keyOf x.1 = keyOf d)) then kvs.map (fun x => if keyOf x.1 = keyOf d then (x.1, z) else x) else kvs ++ [(d, z)]
def valN (kvs : List (PyData × S)) (d : PyData) : Option S := (kvs.find? fun x => decide (keyOf x.1 = keyOf d)).map (·.2)
theorem any_pair {α β : Type} {R : α → β → Prop} {f : α → Bool} {g : β → Bool} (h : ∀ a b, R a b → f a = g b) : ∀ {as : List α} {bs : List β}, Paired R as bs → as.any f = bs.any g
  | _, _, .nil => rfl
  | _, _, .cons r t => by rw [List.any_cons, List.any_cons, h _ _ r, any_pair h t]
theorem map_pair {α β γ δ : Type} {R : α → β → Prop} {R' : γ → δ → Prop} {f : α → γ} {g : β → δ} (h : ∀ a b, R a b → R' (f a) (g b)) : ∀ {as : List α} {bs : List β}, Paired R as bs → Paired R' (as.map f) (bs.map g)
  | _, _, .nil => .nil
  | _, _, .cons r t => .cons (h _ _ r) (map_pair h t)
theorem find_any {α : Type} (p : α → Bool) : ∀ l : List α, (l.find? p).isSome = l.any p
  | [] => rfl
  | a :: l => by rw [List.find?_cons, List.any_cons, ← find_any p l]; cases p a <;> rfl
theorem atKey_any (ys : List (NestedKey × Addr × Value)) (k : NestedKey) : (atKey ys k).isSome = ys.any (fun x => decide (x.1 = k)) := by
  unfold atKey
  rw [Option.isSome_map, find_any]
theorem nr_put {xs : List NV} {ys : List (NestedKey × Addr × Value)} (p : NR xs ys) (k : NestedKey) (b : Addr) {v : V} {u : Value} (r : RelV v u) : NR (putN xs k b v) (storedH ys k b u) := by
  unfold putN storedH
  rw [atKey_any, any_pair (g := fun x => decide (x.1 = k)) (fun a b h => by rw [h.1]) p]
  cases ys.any fun x => decide (x.1 = k) with
  | true =>
    rw [if_pos rfl, if_pos rfl]
    refine map_pair (fun x y h => ?_) p
    unfold putAt
    obtain ⟨h1, h2, h3⟩ := h
    by_cases e : x.1 = k
    · rw [if_pos e, if_pos (h1 ▸ e)]
      exact ⟨h1, h2, r⟩
    · rw [if_neg e, if_neg (h1 ▸ e)]
      exact ⟨h1, h2, h3⟩
  | false =>
    rw [if_neg (by decide), if_neg (by decide)]
    exact pair_app p (.cons ⟨rfl, rfl, r⟩ .nil)
theorem kn_put {K : PySem.W.Frag} {xs : List NV} {kvs : List (PyData × S)} (p : KN K F xs kvs) {d : PyData} {b : Addr} {v : V} {z : S} (hb : Dp K F (.ref b) d) (hd : KdT d) (r : SR K F v z) : KN K F (putN xs (keyOf d) b v) (putD kvs d z) := by
  unfold putN putD
  rw [any_pair (g := fun x => decide (keyOf x.1 = keyOf d)) (fun a b h => by rw [h.1]) p]
  cases kvs.any fun x => decide (keyOf x.1 = keyOf d) with
  | true =>
    rw [if_pos rfl, if_pos rfl]
    refine map_pair (fun x y h => ?_) p
    obtain ⟨h1, h2, h3, h4⟩ := h
    by_cases e : x.1 = keyOf d
    · rw [if_pos e, if_pos (h1 ▸ e)]
      exact ⟨h1, h2, h3, r⟩
    · rw [if_neg e, if_neg (h1 ▸ e)]
      exact ⟨h1, h2, h3, h4⟩
  | false =>
    rw [if_neg (by decide), if_neg (by decide)]
    exact pair_app p (.cons ⟨rfl, hb, hd, r⟩ .nil)
theorem putN_len (xs : List NV) (k : NestedKey) (b : Addr) (v : V) : (putN xs k b v).length ≤ xs.length + 1 := by
  unfold putN
  split
  · rw [List.length_map]; omega
  · rw [List.length_append]; exact Nat.le_refl _
end
/-! ### {} -/
theorem pe_dnewN {X : Cx} {pos : Pos} : PE X (.Dict [] [] pos) (fun _ H Q => ∀ p, H p = none → Q (.ref p) (upd H p (DKO X.w p []))) := ⟨fun pins s σ H Q I h =>
  wpAny_Dict_empty ⟨.ref s.heap.objs.size, _, I.laid (a := s.heap.objs.size) (o := DKO X.w s.heap.objs.size []) (t' := s.toks) (fun _ _ q => Heap.get?_push_of_some _ q) (Nat.le_refl _)
    (dko_mk (ys := []) (Nat.zero_le _) (beq_eq_false_iff_ne.mpr (Ne.symm (Nat.ne_of_lt I.big))) .nil (Heap.get?_push_size _ rfl) ⟨rfl, rfl, rfl⟩ rfl rfl List.nodup_nil), rfl, h _ (I.hok.fresh (Nat.le_refl _))⟩⟩
/-! ### d[k] = v -/
def sNPut (K : PySem.W.Frag) (w : World) (td ty tv : TE) : TS := fun D σ H => tv σ H fun v H1 => td σ H1 fun x H2 => ty σ H2 fun y H3 => ∃ (a b : Addr) (d : PyData) (xs : List NV) (kvs : List (PyData × S)) (F : Hp),
  x = .ref a ∧ y = .ref b ∧ Same F H3 ∧ H3 a = some (DKO w a xs) ∧ KN K F xs kvs ∧ Dp K F (.ref b) d ∧ KdT d ∧ xs.length < sizeLine ∧ D.nx σ (upd H3 a (DKO w a (putN xs (keyOf d) b v)))
theorem room_nest {A : Around} (hu : A.units + 9 < cLine) {prog : Program} {w : World} : (nestedKind prog w).room A.in1 := by
  show A.in1.units + 8 < cLine
  rw [Around.in1_units]
  omega
theorem dn_write {X : Cx} {pins : List (Addr × Obj)} {σ : L2.St} {H : Hp} {s : Shared} {a b : Addr} {xs : List NV} {ys : List (NestedKey × Addr × Value)} {k : NestedKey} {v : V} {u : Value} {h' : Heap} {t' : Nat} (I : Inv X pins σ H s) (e : H a = some (DKO X.w a xs)) (pr : NR xs ys) (hs : (a == sysModules) = false) (rv : RelV v u) (hl : xs.length < sizeLine)
    (dd : h'.DictOfH (nestedKind X.prog X.w) a (storedH ys k b u)) (sb : Heap.SameBut a s.heap h') : Inv X pins σ (upd H a (DKO X.w a (putN xs k b v))) { s with heap := h', toks := t' } := by
  obtain ⟨q, es, ep, hq, h2, h3, h4, _, h5⟩ := dd
  refine d_write I (by rw [e]; exact True.intro) sb ⟨q, hq⟩ (dko_mk (by have := putN_len xs k b v; omega) hs (nr_put pr k b rv) hq h2 h3 h4 h5)
theorem ps_nput {X : Cx} {o i value : Expr} {pos pos' : Pos} {td ty tv : TE} (hu : X.A.units + 9 < cLine) (ho : PE X o td) (hi : PE X i ty) (hv : PE X value tv) (hs : swapsWith value (some (.Subscript o i pos')) pos.line X.env = pure false) :
    PS X (.Assign [.Subscript o i pos'] value pos) (sNPut X.K X.w td ty tv) := by
  refine ⟨fun pins s σ H D I h => ?_⟩
  refine wpAny_Assign_Subscript (thn (hv.run pins s σ H _ I h) fun r s1 ⟨v, H1, I1, rv, q1⟩ => thn (ho.run pins s1 σ H1 _ I1 q1) fun u s2 ⟨x, H2, I2, rx, q2⟩ => thn (hi.run pins s2 σ H2 _ I2 q2) fun iv s3 ⟨y, H3, I3, ry, a, b, d, xs, kvs, F, ex, ey, hF, e, p, hb, hd, hl, q3⟩ => ?_) hs
  subst ex ey
  obtain rfl : u = Value.ref a := rx
  obtain rfl : iv = Value.ref b := ry
  obtain ⟨ys, pr, dd, hsys, hz⟩ := dko_of I3 hF e p
  refine wpAny_setItem_heap (hsz := by rw [← Paired.length pr]; exact hz) (room_nest hu) ⟨nested_is I3 d _ _ (dp_mono hF _ _ hb) rfl hd.2.1, hd.2.2⟩ dd fun h' dd' sb => ⟨σ, _, dn_write I3 e pr hsys rv hl dd' sb, q3⟩
/-! ### len(d) -/
theorem call_lenN {X : Cx} : CallR X (.builtin "len") (fun vs H Q => ∃ (a : Addr) (xs : List NV) (kvs : List (PyData × S)) (F : Hp), vs = [V.ref a] ∧ Same F H ∧ H a = some (DKO X.w a xs) ∧ KN X.K F xs kvs ∧ Q (.int xs.length) H) := by
  rintro pins s σ H vs us Q I r ⟨a, xs, kvs, F, rfl, hF, e, p, q⟩
  rw [Vals.ref1 r]
  obtain ⟨ys, pr, dd, hsys, hz⟩ := dko_of I hF e p
  have hlen : xs.length = ys.length := Paired.length pr
  exact call_len_dictH hsys dd (by rw [← hlen]; rw [sizeLine_eq] at hz; omega) ⟨.int xs.length, H, I.tok _, ⟨s.toks + 1, by rw [hlen]⟩, q⟩
/-! ### list(d) -/
theorem call_listN {X : Cx} (hc : X.calm = true) : CallR X (.type "list") (fun vs H Q => ∃ (a : Addr) (xs : List NV) (kvs : List (PyData × S)) (F : Hp), vs = [V.ref a] ∧ Same F H ∧ H a = some (DKO X.w a xs) ∧ KN X.K F xs kvs ∧ ∀ p, H p = none → Q (.ref p) (upd H p (.lst (xs.map fun x => V.ref x.2.1)))) := by
  rintro pins s σ H vs us Q I r ⟨d, xs, kvs, F, rfl, hF, e, p, q⟩
  rw [Vals.ref1 r]
  obtain ⟨ks, pr, ⟨o, es, ep, ho, hx, hdt, he, _, hn⟩, hs, z⟩ := dko_of I hF e p
  have l1 : es.size = ks.length := size_of_entries he
  have l2 : xs.length = ks.length := Paired.length pr
  refine PySem.W.kdl_call (kdl_raw hs hx hdt) (I.ok.hd hc) ho (by omega) fun h' tk acc' c' kp e it => ?_
  have ea : acc'.toList = ks.map fun x => Value.ref x.2.1 := by
    have hl : acc'.toList.length = ks.length := by rw [Array.length_toList, it.1]; exact l1
    apply List.ext_getElem?
    intro j
    rw [List.getElem?_map]
    cases hj : acc'.toList[j]? with
    | none =>
      have h1 := List.getElem?_eq_none_iff.mp hj
      rw [List.getElem?_eq_none (by omega)]
      all_goals rfl
    | some v =>
      obtain ⟨en, hen, hv⟩ := it.2 j v (by rw [← Array.getElem?_toList]; exact hj)
      have qe := entry_at he j
      rw [hen] at qe
      cases hb : ks[j]? with
      | none =>
        rw [hb] at qe
        exact nomatch (show some en = none from qe)
      | some b =>
        rw [hb] at qe
        have e2 : en = entryOfKey (nestedKind X.prog X.w) b := Option.some.inj qe
        rw [hv, e2]
        all_goals rfl
  have rv : Vals (xs.map fun x => V.ref x.2.1) acc'.toList := by
    rw [ea]
    exact map_pair (fun a b h => by show Value.ref b.2.1 = Value.ref a.2.1; rw [h.2.1]) pr
  refine ⟨.ref s.heap.objs.size, _, I.laid (t' := tk) (o := .lst (xs.map fun x => V.ref x.2.1)) kp (Nat.le_refl _) ?_, rfl, q _ (I.hok.fresh (Nat.le_refl _))⟩
  exact ⟨by rw [List.length_map]; exact z, acc'.toList, c', rv, by rw [Array.toArray_toList]; exact e⟩
/-! ### sorted(data) -/
theorem each_of {K : PySem.W.Frag} {F : Hp} : ∀ {vs : List V} {us : List Value} {ds : List PyData}, Vals vs us → DpAll K F vs ds → PySem.W.EachIs (fun (u : Value) (d : PyData) => ∃ x : V, RelV x u ∧ Dp K F x d) us ds
  | _, _, _, .nil, .nil => .nil
  | _, _, _, .cons r t, .cons h k => .cons ⟨_, r, h⟩ (each_of t k)
theorem of_each {K : PySem.W.Frag} {F : Hp} : ∀ {us : List Value} {ds : List PyData}, PySem.W.EachIs (fun (u : Value) (d : PyData) => ∃ x : V, RelV x u ∧ Dp K F x d) us ds → ∃ vs, Vals vs us ∧ DpAll K F vs ds
  | _, _, .nil => ⟨[], .nil, .nil⟩
  | _, _, .cons ⟨x, h1, h2⟩ t => by
    obtain ⟨vs, k1, k2⟩ := of_each t
    exact ⟨x :: vs, .cons h1 k1, .cons h2 k2⟩
def srtD (ds : List PyData) : List PyData := ds.mergeSort (PySem.W.dataLe false id)
def rSortD (K : PySem.W.Frag) : List V → Hp → VK → Prop := fun vs H Q => ∃ (a : Addr) (ws : List V) (ds : List PyData) (F : Hp), vs = [V.ref a] ∧ Same F H ∧ SqL K H a ws ∧ DpAll K F ws ds ∧ PySem.W.AllAlike ds ∧ PySem.W.Sortable ds ∧ (∀ d ∈ ds, d.depth ≤ 60) ∧
  ∀ (p : Addr) (out : List V), H p = none → DpAll K F out (srtD ds) → Q (.ref p) (upd H p (.lst out))
theorem cr_sortD {X : Cx} (hu : X.A.units + 70 < cLine) : CallR X (.builtin "sorted") (rSortD X.K) := by
  rintro pins s σ H vs us Q I r ⟨a, ws, ds, F, rfl, hF, hs, hd, hal, hso, hdp, q⟩
  obtain ⟨its, rv, hl, hz⟩ := I.list hs
  rw [Vals.ref1 r]
  have hlen := Paired.length rv
  have e1 : ds.length = ws.length := (dps_len hd).symm
  have hall := dps_mono hF _ _ hd
  obtain ⟨as, hr⟩ := Dp.readsAll I ds _ its hall rv
  refine PySem.W.sorted_data (enc := id) hl.isList (each_of rv hd) (PySem.W.readsAll_each id (by rw [List.map_id]; exact hr)) (by rw [List.map_id]; exact hal) (by rw [List.map_id]; exact hso) (by omega) (fun d hd => by have := hdp d hd; show X.A.units + 2 + d.depth < cLine; omega) fun out ho eo => ?_
  obtain ⟨out', k1, k2⟩ := of_each eo
  obtain ⟨ep, he'⟩ := PyProof.Rows.sortedAll_at s.heap its out.toArray
  have hlen2 : out'.length ≤ sizeLine := by
    have := Paired.length k1
    omega
  exact ⟨.ref _, upd H (s.heap.objs.size + 1) (.lst out'), I.laid (t' := s.toks) (fun _ _ => PyProof.Rows.sortedAll_old) (Nat.le_succ _) ⟨hlen2, out, ep, k1, he'⟩, rfl, q _ _ (I.hok.fresh (Nat.le_succ _)) k2⟩
/-! ### {k: v, ..} -/
def putsN (zs : List (Addr × PyData × V)) : List NV := zs.foldl (fun acc z => putN acc (keyOf z.2.1) z.1 z.2.2) []
theorem nr_puts : ∀ {zs : List (Addr × PyData × V)} {ps : List (NestedKey × Addr × Value)} {xs : List NV} {ys : List (NestedKey × Addr × Value)}, Paired (fun (z : Addr × PyData × V) (p : NestedKey × Addr × Value) => p.1 = keyOf z.2.1 ∧ p.2.1 = z.1 ∧ RelV z.2.2 p.2.2) zs ps → NR xs ys →
    NR (zs.foldl (fun acc z => putN acc (keyOf z.2.1) z.1 z.2.2) xs) (storedAllH ys ps)
  | _, _, xs, ys, .nil, r => r
  | z :: zs, p :: ps, xs, ys, .cons h t, r => by
    obtain ⟨h1, h2, h3⟩ := h
    have := nr_puts t (nr_put r (keyOf z.2.1) z.1 h3)
    rw [← h1, ← h2] at this
    unfold storedAllH at this ⊢
    rw [List.foldl_cons, List.foldl_cons, ← h1, ← h2]
    exact this
theorem putsN_len : ∀ (zs : List (Addr × PyData × V)) (xs : List NV), (zs.foldl (fun acc z => putN acc (keyOf z.2.1) z.1 z.2.2) xs).length ≤ xs.length + zs.length
  | [], xs => Nat.le_refl _
  | z :: zs, xs => by
    have h1 := putsN_len zs (putN xs (keyOf z.2.1) z.1 z.2.2)
    have h2 := putN_len xs (keyOf z.2.1) z.1 z.2.2
    rw [List.foldl_cons, List.length_cons]
    omega
theorem carriesN {X : Cx} {pins : List (Addr × Obj)} {σ : L2.St} {H F : Hp} {s : Shared} (I : Inv X pins σ H s) (hF : Same F H) : ∀ {zs : List (Addr × PyData × V)} {ws : List (Value × Value)}, VV (zs.map fun z => (V.ref z.1, z.2.2)) ws → (∀ z ∈ zs, Dp X.K F (.ref z.1) z.2.1 ∧ KdT z.2.1) →
    ∃ ps, CarriesH (nestedKind X.prog X.w) s.heap ws ps ∧ Paired (fun (z : Addr × PyData × V) (p : NestedKey × Addr × Value) => p.1 = keyOf z.2.1 ∧ p.2.1 = z.1 ∧ RelV z.2.2 p.2.2) zs ps
  | [], _, r, _ => by rw [List.map_nil] at r; cases r; exact ⟨[], True.intro, .nil⟩
  | z :: zs, _, r, h => by
    rw [List.map_cons] at r
    cases r with
    | @cons a b as bs h1 t =>
      obtain ⟨ps, c, q⟩ := carriesN I hF t fun y hy => h y (List.mem_cons_of_mem _ hy)
      obtain ⟨b1, b2⟩ := b
      obtain ⟨k1, k2⟩ := h z List.mem_cons_self
      obtain rfl : b1 = Value.ref z.1 := h1.1
      exact ⟨(keyOf z.2.1, z.1, b2) :: ps, ⟨rfl, rfl, ⟨nested_is I _ _ _ (dp_mono hF _ _ k1) rfl k2.2.1, k2.2.2⟩, c⟩, .cons ⟨rfl, rfl, h1.2⟩ q⟩
def tDispN (K : PySem.W.Frag) (w : World) (trs : List (TE × TE)) : TE := fun σ H Q => ∀ p, H p = none → tPairs trs σ (upd H p (DKO w p [])) fun ps H2 => H2 p = some (DKO w p []) ∧ ∃ (zs : List (Addr × PyData × V)) (F : Hp), ps = zs.map (fun z => (V.ref z.1, z.2.2)) ∧ Same F H2 ∧
  (∀ z ∈ zs, Dp K F (.ref z.1) z.2.1 ∧ KdT z.2.1) ∧ zs.length ≤ 15 ∧ Q (.ref p) (upd H2 p (DKO w p (putsN zs)))
theorem pe_dispN {X : Cx} {pos : Pos} {keys : List (Option Expr)} {values : List Expr} {trs : List (TE × TE)} (hu : X.A.units + 9 < cLine) (h : PPs X pos keys values trs) (hall : keys.all (·.isSome) = true) (hl : keys.length = values.length) (h0 : keys ≠ [])
    (h15 : keys.length ≤ 15) : PE X (.Dict keys values pos) (tDispN X.K X.w trs) := by
  refine ⟨fun pins s σ H Q I q => ?_⟩
  have hn := I.hok.fresh (Nat.le_refl s.heap.objs.size)
  have I1 := I.laid (a := s.heap.objs.size) (o := DKO X.w s.heap.objs.size []) (h' := s.heap.push { cls := .type "dict", data := .dict #[] }) (t' := s.toks) (fun _ _ q => Heap.get?_push_of_some _ q) (Nat.le_refl _)
    (dko_mk (ys := []) (Nat.zero_le _) (beq_eq_false_iff_ne.mpr (Ne.symm (Nat.ne_of_lt I.big))) .nil (Heap.get?_push_size _ rfl) ⟨rfl, rfl, rfl⟩ rfl rfl List.nodup_nil)
  have hpl := pairTrees_length keys values X.env pos hall hl
  rw [arm_eval_Dict, zip_pairTrees keys values X.env pos hall hl, dictDisplay_pairs _ (fun he => by rw [he] at hpl; exact h0 (List.length_eq_zero_iff.mp hpl.symm)) (by omega)]
  refine wpAny_bind (wpAny_standAt (wpAny_bind (wpAny_subDictH (knd := nestedKind X.prog X.w) (Q := fun d s' => wpAny (model X.prog X.w) X.A (pure (Value.ref d)) _ X.xe s') (show X.A.units + 8 < cLine by omega) (by omega) (thn (h.run pins _ σ _ _ I1 (q _ hn)) fun ws s2 ⟨ps, H2, I2, rel, e, zs, F, ep, hF, hk, lk, q2⟩ => ?_))))
  subst ep
  obtain ⟨rs, c, rk⟩ := carriesN I2 hF rel hk
  obtain ⟨ys, pr, dd, hsys, hz⟩ := dko_of (kvs := []) I2 hF e .nil
  cases pr
  refine ⟨rs, c, dd, fun h' tk dd' hs => wpAny_pure ⟨.ref s.heap.objs.size, _, ?_, rfl, q2⟩⟩
  obtain ⟨qo, es, ep, hq, h2, h3, h4, _, h5⟩ := dd'
  refine d_write I2 (by rw [e]; exact True.intro) hs ⟨qo, hq⟩ (dko_mk (ys := storedAllH [] rs) ?_ hsys (nr_puts rk .nil) hq h2 h3 h4 h5)
  have h1 := putsN_len zs []
  rw [List.length_nil] at h1
  unfold putsN
  rw [sizeLine_eq]
  omega
/-! ### d.setdefault(k, x) -/
def tSetd (K : PySem.W.Frag) (w : World) (td ty tx : TE) : TE := fun σ H Q => td σ H fun x H1 => ∃ a, x = .ref a ∧ (∃ xs kvs F, Same F H1 ∧ H1 a = some (DKO w a xs) ∧ KN K F xs kvs) ∧ ty σ H1 fun y H2 => tx σ H2 fun z H3 => ∃ (b : Addr) (d : PyData) (xs : List NV) (kvs : List (PyData × S)) (F : Hp),
  y = .ref b ∧ Same F H3 ∧ H3 a = some (DKO w a xs) ∧ KN K F xs kvs ∧ Dp K F (.ref b) d ∧ KdT d ∧ xs.length < sizeLine ∧
  (∀ v, (xs.find? fun x => decide (x.1 = keyOf d)).map (·.2.2) = some v → Q v H3) ∧ ((xs.find? fun x => decide (x.1 = keyOf d)) = none → Q z (upd H3 a (DKO w a (putN xs (keyOf d) b z))))
theorem find_pair {α β : Type} {R : α → β → Prop} {f : α → Bool} {g : β → Bool} (h : ∀ a b, R a b → f a = g b) : ∀ {as : List α} {bs : List β}, Paired R as bs → (as.find? f = none ∧ bs.find? g = none) ∨ ∃ a b, as.find? f = some a ∧ bs.find? g = some b ∧ R a b
  | _, _, .nil => .inl ⟨rfl, rfl⟩
  | a :: as, b :: bs, .cons r t => by
    rw [List.find?_cons, List.find?_cons, ← h _ _ r]
    cases f a with
    | true => exact .inr ⟨a, b, rfl, rfl, r⟩
    | false => exact find_pair h t
theorem pe_setd {X : Cx} {o e f : Expr} {apos cpos : Pos} {td ty tx : TE} (hu : X.A.units + 9 < cLine) (ho : PE X o td) (he : PE X e ty) (hf : PE X f tx) (m : M2 X o "setdefault" apos e f cpos) : PE X (.Call (.Attribute o "setdefault" apos) [e, f] [] cpos) (tSetd X.K X.w td ty tx) := by
  refine ⟨fun pins s σ H Q I h => ?_⟩
  refine wpAny_Call_method m.base m.few m.line PySem.F.plainAttrs_dict PySem.F.slot_dict_setdefault PySem.F.type_dict_setdefault (thn (ho.run pins s σ H _ I h) fun u s1 ⟨x, H1, I1, rx, a, ex, ⟨xs0, kvs0, F0, hF0, e0, p0⟩, q1⟩ => ?_)
  subst ex
  obtain rfl : u = Value.ref a := rx
  obtain ⟨ys0, _, ⟨ob, es, ep, hob, hex, _⟩, _⟩ := dko_of I1 hF0 e0 p0
  refine ⟨⟨ob, hob, hex.1⟩, fun b2 q => by cases q; exact ⟨ob, hob, hex.2.1⟩, ?_⟩
  rw [m.trees]
  refine Calls.callWith_builtin rfl (Calls.evalArgs_plain (Calls.spliced_cons (thn (he.run pins s1 σ H1 _ I1 q1) fun iv s2 ⟨y, H2, I2, ry, q2⟩ =>
    Calls.spliced_cons (thn (hf.run pins s2 σ H2 _ I2 q2) fun fv s3 ⟨z, H3, I3, rz, b, d, xs, kvs, F, ey, hF, e, p, hb, hd, hl, qs, qn⟩ => Calls.spliced_nil ?_))))
  subst ey
  obtain rfl : iv = Value.ref b := ry
  obtain ⟨ys, pr, dd, hsys, hz⟩ := dko_of I3 hF e p
  refine call_setdefault_heap (hsz := by rw [← Paired.length pr]; exact hz) (room_nest hu) ⟨nested_is I3 d _ _ (dp_mono hF _ _ hb) rfl hd.2.1, hd.2.2⟩ hsys dd (fun pv hp => ?_) fun hn h' hm' sb => ?_
  · rcases find_pair (f := fun x => decide (x.1 = keyOf d)) (g := fun x => decide (x.1 = keyOf d)) (fun a b h => by rw [h.1]) pr with ⟨_, h2⟩ | ⟨x, y, h1, h2, h3⟩
    · unfold atKey at hp
      rw [h2] at hp
      cases hp
    · unfold atKey at hp
      rw [h2] at hp
      cases hp
      exact ⟨x.2.2, H3, I3.tok _, h3.2.2, qs _ (by rw [h1]; rfl)⟩
  · refine ⟨z, _, dn_write I3 e pr hsys rz hl hm' sb, rz, qn ?_⟩
    rcases find_pair (f := fun x => decide (x.1 = keyOf d)) (g := fun x => decide (x.1 = keyOf d)) (fun a b h => by rw [h.1]) pr with ⟨h1, _⟩ | ⟨x, y, h1, h2, h3⟩
    · exact h1
    · unfold atKey at hn
      rw [h2] at hn
      cases hn
/-! ### over plain data -/
section
variable {Y : Ct} {γ γ' : List S} {M M1 M2 M3 : MM} {s s1 s2 s3 : S} {ss : List S} {a b c o e : Expr} {es : List Expr} {pos p p2 tp : Pos} {i n : Int} {P : Po} {Q : S → MM → Prop} {x : Str} {k kk : Nat} {q : Addr} {kvs : List (PyData × S)} {d : PyData}
theorem n_dkt0 : EN Y (.Dict [] [] pos) γ M (.dkt Y.X.w []) M :=
  ⟨PE.imp pe_dnewN fun σ H Q ⟨F, r, qq, ex⟩ => fun p hp => qq F p _ (Same.refl F) ⟨r.hm.newM hp (m := .dkt Y.X.w []) ⟨[], upd_same, .nil⟩, r.sl⟩⟩
/-- d[k] = e -/
theorem s_nput {w : World} (hw : w = Y.X.w) (hr : Room kk Y.X.A) (he : EV Y e γ M s M1) (ho : EV Y o γ M1 (.ob q) M2) (ha : EV Y a γ M2 (.d d) M3) (hk : M3[k]? = some (q, .dkt w kvs)) (hd : KdT d) (hl : kvs.length < 100000) (kq : P.nx γ (M3.set k (q, .dkt w (putD kvs d s))))
    (hs : swapsWith e (some (.Subscript o a tp)) pos.line Y.X.env = pure false := by rfl) : ST Y (.Assign [.Subscript o a tp] e pos) γ M P :=
  ⟨PS.imp (ps_nput (by have := hr.un; omega) ho.pe ha.pe he.pe hs) fun D σ H ⟨F, r, qq, ex⟩ => ⟨F, r, fun F1 v H1 e1 r1 v1 => ⟨F1, r1, fun F2 v2 H2 e2 r2 sv2 => ⟨F2, r2, fun F3 v3 H3 e3 r3 sv3 => (by
    subst hw
    cases sv2
    obtain ⟨_, xs, g1, g2⟩ := r3.hm.mo _ _ (List.mem_of_getElem? hk)
    obtain ⟨⟨ds, rfl⟩, hd2⟩ := hd
    have sv3' : Dp Y.X.K F3 v3 (.tuple ds) := sv3
    cases v3 with
    | ref b3 =>
      have hM := r3.hm.setM hk (o := DKO Y.X.w q (putN xs (keyOf (.tuple ds)) b3 v)) (m := .dkt Y.X.w (putD kvs (.tuple ds) s)) ⟨_, upd_same, kn_put g2 sv3' ⟨⟨ds, rfl⟩, hd2⟩ ((v1.mono e2).mono e3)⟩
      exact ⟨q, b3, .tuple ds, xs, kvs, F3, rfl, rfl, r3.hm.fh, g1, g2, sv3', ⟨⟨ds, rfl⟩, hd2⟩, by rw [pair_len g2]; exact Nat.lt_of_lt_of_le hl (by decide), qq.nx γ _ F3 σ _ ((e1.trans e2).trans e3) ⟨hM, r3.sl⟩ kq⟩
    | _ => cases sv3'), (ex.mono e1).mono e2⟩, ex.mono e1⟩, ex⟩⟩
theorem e_lenN {w : World} (hw : w = Y.X.w) (hg : Gl Y.X "len" := by rfl) (hm : Y.X.mg "len" = none) (ha : EA Y (e :: es) γ M [.ob q] M1) (hk : M1[k]? = some (q, .dkt w kvs))
    (he : starEach (e :: es) Y.X.env = (false, eval e Y.X.env) :: starEach es Y.X.env := by rfl) (hpl : (backTo pos (starEach es Y.X.env)).any (·.1) = false := by rfl) : EV Y (.Call (.Name "len" p) (e :: es) [] pos) γ M (.d (.int (kvs.length : Nat))) M1 :=
  e_callB call_lenN hg hm PySem.boot_len ha (he := he) (hpl := hpl) (hr := ⟨fun F vs H Q hm' g qq => by
    subst hw
    obtain ⟨v, rfl, g0⟩ := pair_one g
    cases g0
    obtain ⟨_, xs, g1, g2⟩ := hm'.mo _ _ (List.mem_of_getElem? hk)
    refine ⟨q, xs, kvs, F, rfl, hm'.fh, g1, g2, ?_⟩
    rw [pair_len g2]
    exact qq F _ H (Same.refl F) hm' (.int _)⟩)
/-- list(d): its keys -/
theorem n_listN {w : World} (hw : w = Y.X.w) (hc : Y.X.calm = true) (hg : Gl Y.X "list" := by rfl) (hm : Y.X.mg "list" = none) (ha : EA Y (e :: es) γ M [.ob q] M1) (hk : M1[k]? = some (q, .dkt w kvs))
    (he : starEach (e :: es) Y.X.env = (false, eval e Y.X.env) :: starEach es Y.X.env := by rfl) (hpl : (backTo pos (starEach es Y.X.env)).any (·.1) = false := by rfl) : EN Y (.Call (.Name "list" p) (e :: es) [] pos) γ M (.lst (kvs.map fun z => S.d z.1)) M1 :=
  ⟨PE.imp (pe_callTy (call_listN hc) hg hm (by decide +kernel) ha.pa (by decide) (by decide) he hpl) fun σ H Q ⟨F, r, qq, ex⟩ => ⟨F, r, fun F1 vs H1 e1 r1 v1 => by
    subst hw
    obtain ⟨v, rfl, g0⟩ := pair_one v1
    cases g0
    obtain ⟨_, xs, g1, g2⟩ := r1.hm.mo _ _ (List.mem_of_getElem? hk)
    refine ⟨q, xs, kvs, F1, rfl, r1.hm.fh, g1, g2, fun l hl => ?_⟩
    have h3 := r1.hm.newM hl (o := .lst (xs.map fun x => V.ref x.2.1)) (m := .lst (kvs.map fun z => S.d z.1)) ⟨_, upd_same, map_pair (fun x y h => h.2.1) g2⟩
    exact qq F1 l _ e1 ⟨h3, r1.sl⟩, ex⟩⟩
/-- sorted(data): a new list -/
theorem n_sortD {ds : List PyData} (hr : Room kk Y.X.A) (hg : Gl Y.X "sorted" := by rfl) (hm : Y.X.mg "sorted" = none) (ha : EA Y (e :: es) γ M [s] M1) (hv : VL M1 s (ds.map S.d)) (hal : PySem.W.AllAlike ds) (hso : PySem.W.Sortable ds) (hdp : ∀ d ∈ ds, d.depth ≤ 60)
    (he : starEach (e :: es) Y.X.env = (false, eval e Y.X.env) :: starEach es Y.X.env := by rfl) (hpl : (backTo pos (starEach es Y.X.env)).any (·.1) = false := by rfl) : EN Y (.Call (.Name "sorted" p) (e :: es) [] pos) γ M (.lst ((srtD ds).map S.d)) M1 :=
  ⟨PE.imp (pe_callB (cr_sortD (by have := hr.un; omega)) hg hm (by decide +kernel) ha.pa (by decide) (by decide) he hpl) fun σ H Q ⟨F, r, qq, ex⟩ => ⟨F, r, fun F1 vs H1 e1 r1 v1 => by
    obtain ⟨v, rfl, g0⟩ := pair_one v1
    obtain ⟨a, ws, rfl, h1, h2⟩ := hv.ok r1.hm g0
    refine ⟨a, ws, ds, F1, rfl, r1.hm.fh, h1, all_d h2, hal, hso, hdp, fun l out hl ho => ?_⟩
    have h3 := r1.hm.newM hl (o := .lst out) (m := .lst ((srtD ds).map S.d)) ⟨_, upd_same, d_all ho⟩
    exact qq F1 l _ e1 ⟨h3, r1.sl⟩, ex⟩⟩
/-- {k: v, k: v} -/
theorem n_disp2 {k1 k2 v1 v2 : Expr} {d1 d2 : PyData} {z1 z2 : S} (hr : Room kk Y.X.A) (h1 : ∀ M, EV Y k1 γ M (.d d1) M) (h2 : ∀ M, EV Y v1 γ M z1 M) (h3 : ∀ M, EV Y k2 γ M (.d d2) M) (h4 : ∀ M, EV Y v2 γ M z2 M) (kd1 : KdT d1) (kd2 : KdT d2) :
    EN Y (.Dict [some k1, some k2] [v1, v2] pos) γ M (.dkt Y.X.w (putD (putD [] d1 z1) d2 z2)) M :=
  ⟨PE.imp (pe_dispN (by have := hr.un; omega) (pps_cons uE_ok uE_ok (pps_cons uE_ok uE_ok pps_nil)) rfl rfl (fun z => nomatch z) (show 2 ≤ 15 by decide)) fun σ H Q ⟨F, r, qq, ex⟩ => by
    intro p hp
    have hN := r.hm.newM hp (o := DKO Y.X.w p []) (m := .dkt Y.X.w []) ⟨[], upd_same, .nil⟩
    have hk : (M ++ [(p, MO.dkt Y.X.w [])])[M.length]? = some (p, .dkt Y.X.w []) := by simp
    refine ⟨_, (h1 (M ++ [(p, MO.dkt Y.X.w [])])).pe, F, ⟨hN, r.sl⟩, fun F1 x1 H1 e1 r1 s1 => ⟨_, (h2 _).pe, F1, r1, fun F2 y1 H2 e2 r2 s2 => ⟨_, (h3 _).pe, F2, r2, fun F3 x2 H3 e3 r3 s3 => ⟨_, (h4 _).pe, F3, r3, fun F4 y2 H4 e4 r4 s4 => ?_, ((ex.mono e1).mono e2).mono e3⟩, (ex.mono e1).mono e2⟩, ex.mono e1⟩, ex⟩
    obtain ⟨_, xs0, k1, k2⟩ := r4.hm.mo _ _ (List.mem_of_getElem? hk)
    cases k2
    obtain ⟨⟨ds1, rfl⟩, hd1⟩ := kd1
    obtain ⟨⟨ds2, rfl⟩, hd2⟩ := kd2
    have t1 : Dp Y.X.K F4 x1 (.tuple ds1) := dp_mono ((e2.trans e3).trans e4) _ _ s1
    have t2 : Dp Y.X.K F4 x2 (.tuple ds2) := dp_mono e4 _ _ s3
    cases x1 with
    | ref a1 =>
      cases x2 with
      | ref a2 =>
        refine ⟨k1, [(a1, .tuple ds1, y1), (a2, .tuple ds2, y2)], F4, rfl, r4.hm.fh, fun z hz => ?_, show 2 ≤ 15 by decide, ?_⟩
        · rcases List.mem_cons.mp hz with rfl | hz
          · exact ⟨t1, ⟨ds1, rfl⟩, hd1⟩
          · rw [List.mem_singleton.mp hz]
            exact ⟨t2, ⟨ds2, rfl⟩, hd2⟩
        · have hM := r4.hm.setM hk (o := DKO Y.X.w p (putsN [(a1, .tuple ds1, y1), (a2, .tuple ds2, y2)])) (m := .dkt Y.X.w (putD (putD [] (.tuple ds1) z1) (.tuple ds2) z2)) ⟨_, upd_same, kn_put (kn_put .nil t1 ⟨⟨ds1, rfl⟩, hd1⟩ (((s2.mono e3).mono e4))) t2 ⟨⟨ds2, rfl⟩, hd2⟩ s4⟩
          rw [show (M ++ [(p, MO.dkt Y.X.w [])]).set M.length (p, MO.dkt Y.X.w (putD (putD [] (.tuple ds1) z1) (.tuple ds2) z2)) = M ++ [(p, MO.dkt Y.X.w (putD (putD [] (.tuple ds1) z1) (.tuple ds2) z2))] by simp] at hM
          exact qq F4 _ _ (((e1.trans e2).trans e3).trans e4) ⟨hM, r4.sl⟩
      | _ => cases t2
    | _ => cases t1⟩
end
end Mi

/-! Mi: the values of a dict with nested keys, walked. -/
namespace Mi
open PySem PySem.Spec PyProof.Rows L2
theorem Inv.frzN {X : Cx} {pins : List (Addr × Obj)} {σ : L2.St} {H : Hp} {s : Shared} {d : Addr} {o : Obj} {w : World} {xs : List NV} (I : Inv X pins σ H s) (h : H d = some (.frz o (DKO w d xs))) :
    (d == sysModules) = false ∧ s.heap.get? d = some o ∧ o.ExactDict ∧ ∃ (es : Array DictEntry) (ep : Nat), o.data = .dict es ep ∧ es.size = xs.length ∧ ∀ (i : Nat) (x : NV), xs[i]? = some x → ∃ en : DictEntry, es[i]? = some en ∧ RelV x.2.2 en.val := by
  obtain ⟨hd, ⟨z, hs, ys, pr, o', es, ep, ho, hx, hdt, he, _⟩, _⟩ := I.hok d _ h
  rw [hd] at ho
  cases ho
  have l1 : es.size = ys.length := by
    have := congrArg List.length he
    rw [List.length_map, Array.length_toList] at this
    exact this
  have l2 : xs.length = ys.length := Paired.length pr
  refine ⟨hs, hd, hx, es, ep, hdt, by omega, fun i x e => ?_⟩
  obtain ⟨y, hy, _, _, e3⟩ := paired_get pr e
  refine ⟨⟨y.1.hash w, .ref y.2.1, y.2.2⟩, ?_, e3⟩
  rw [← Array.getElem?_toList, he, List.getElem?_map, hy]
  rfl
def Itvn (w : World) (d : Addr) (o : Obj) (xs : List NV) : It :=
  ⟨fun i H => H d = some (.frz o (DKO w d xs)) ∧ i < xs.length, fun i H v H' => H' = H ∧ ∃ x, xs[i]? = some x ∧ v = x.2.2, fun i H => H d = some (.frz o (DKO w d xs)) ∧ xs.length ≤ i⟩
theorem turn_valsN {P : Program} {w : World} {K : PySem.W.Frag} {tg : Expr} {d : Addr} {o : Obj} {es : Array DictEntry} {ep : Nat} {w' : World} {xs : List NV} (it : Addr) (hod : o.data = .dict es ep) : Turn P w K tg (Itvn w' d o xs) [it] it (fun i h => h.IsValIter it d i es.size ep) where
  mem := by simp
  obj := fun i h st b hb => by
    have e : b = it := by simpa using hb
    subst e
    obtain ⟨oi, e, c, dd⟩ := st
    exact ⟨oi, e, fun v z => by rw [dd] at z; cases z⟩
  keep := fun i h h' st k => st.at fun oi e => k it (by simp) oi e
  item := by
    intro X hP hw hK hc i pins s σ H E I hf st hg
    subst hP hw hK
    obtain ⟨hd, hi⟩ := hg
    obtain ⟨f0, f1, f2, f3, f4, f5⟩ := hf it (by simp)
    obtain ⟨hs, hgd, hx, es', ep', hdt, hsz, ent⟩ := Inv.frzN I hd
    obtain ⟨rfl, rfl⟩ := dict_ep hod hdt
    obtain ⟨en, hen, hr⟩ := ent i xs[i] (List.getElem?_eq_getElem hi)
    have hlt : i < es'.size := by omega
    have hen2 : es'[i] = en := by
      rw [Array.getElem?_eq_getElem hlt] at hen
      exact Option.some.inj hen
    refine wpAny_pyNext_values_item_raw st ⟨o, hgd, hx, hdt⟩ hlt fun h' st' sb => ?_
    have I1 : Inv X pins σ H { s with heap := h' } := I.turned (t' := s.toks) (fun b ob hb e => (sb.2 b hb).trans e) f0 f1 f3 f4 f5
    obtain ⟨oi, e, c, dd⟩ := id st'
    exact ⟨_, rfl, go_of (s := { s with heap := h' }) e c dd (by decide) ⟨xs[i].2.2, H, I1, by rw [hen2]; exact hr, ⟨rfl, xs[i], List.getElem?_eq_getElem hi, rfl⟩, st', fun b hb => (hf b hb).1⟩⟩
  done := by
    intro X hP hw hK hc i pins s σ H E I hf st hg
    subst hP hw hK
    obtain ⟨hd, hi⟩ := hg
    obtain ⟨f0, f1, f2, f3, f4, f5⟩ := hf it (by simp)
    obtain ⟨hs, hgd, hx, es', ep', hdt, hsz, ent⟩ := Inv.frzN I hd
    obtain ⟨rfl, rfl⟩ := dict_ep hod hdt
    exact wpAny_pyNext_values_end_raw (I.ok.hd hc) st ⟨o, hgd, hx, hdt⟩ (by omega) fun h' eb => ⟨rfl, I.turned (t' := s.toks) (fun b ob hb e => eb b ob hb e) f0 f1 f3 f4 f5⟩
  self := fun A i s Q E st h => wpAny_pyIter_valiter st h
def iValsN (w : World) (td : TE) : TI := fun σ H R => td σ H fun x H1 => ∃ d xs, x = .ref d ∧ H1 d = some (DKO w d xs) ∧ ∀ od, R (Itvn w d od xs) (upd H1 d (.frz od (DKO w d xs)))
theorem pi_valuesN {X : Cx} {tg e : Expr} {td : TE} {apos cpos : Pos} {w : World} (he : PE X e td) (hbase : attributeBase e "values" X.env (eval e X.env) = eval e X.env := by rfl) (hline : (apos.endLine == cpos.line) = true := by rfl) : PI X tg (.Call (.Attribute e "values" apos) [] [] cpos) (iValsN w td) := by
  refine ⟨fun pins s σ H R I h => ?_⟩
  refine wpAny_Call_method (T := "dict") (id := "dict.values") hbase rfl hline F.plainAttrs_dict F.slot_dict_values F.type_dict_values (thn (he.run pins s σ H _ I h) fun u s1 ⟨x, H1, I0, rx, d, xs, ex, hd0, q⟩ => ?_)
  subst ex
  obtain rfl : u = Value.ref d := rx
  obtain ⟨o, I1⟩ := Inv.lock I0 hd0 True.intro
  have q := q o
  have hd : (upd H1 d (.frz o (DKO w d xs))) d = some (.frz o (DKO w d xs)) := upd_same
  generalize upd H1 d (.frz o (DKO w d xs)) = H2 at hd I1 q
  obtain ⟨hs, hgd, hx, es, ep, hdt, hsz, ent⟩ := Inv.frzN I1 hd
  have hm : s1.heap.DictRaw d es ep := ⟨o, hgd, hx, hdt⟩
  refine ⟨hm.typeIs, fun b q => by cases q; exact ⟨o, hgd, hx.2.1⟩, ?_⟩
  have I2 : Inv X pins σ H2 { s1 with heap := s1.heap.push { cls := .type "dict_values", data := .fields #[.ref d] } } := I1.kept (t' := s1.toks) fun b ob q => Heap.get?_push_of_some _ q
  have fin : wpAny (model X.prog X.w) X.A (pyIter (.ref s1.heap.objs.size)) (PIE X pins σ tg R) X.xe { s1 with heap := s1.heap.push { cls := .type "dict_values", data := .fields #[.ref d] } } := by
    exact wpAny_pyIter_values_raw (d := d) ⟨_, Heap.get?_push_size _ rfl, rfl, rfl⟩ (hm.at fun o e => Heap.get?_push_of_some _ e) (pi_one (tk := s1.toks) I2 _ (turn_valsN _ hdt) ⟨_, Heap.get?_push_size _ rfl, rfl, rfl⟩ q)
  show wpAny _ _ (callWith cpos (.builtin "dict.values") [.ref d] [] []) _ X.xe s1
  exact method_meetsIn F.slot_dict_values F.entry_dict_values rfl (PySem.evalArgs_none ⟨rfl, hm.typeIs, F.args_dict_values_1 _, _, meets_dict_values_raw d hs, ⟨es, ep, hm⟩, fin⟩)
/-- a dict that changes no more -/
theorem HM.lockN {K : PySem.W.Frag} {F H : Hp} {M : MM} {k : Nat} {D : Addr} {w : World} {kvs : List (PyData × S)} {o : HO} (h : HM K F M H) (hk : M[k]? = some (D, .dkt w kvs)) : Same F (upd F D o) ∧ HM K (upd F D o) (M.eraseIdx k) (upd H D o) := by
  have hp := perm_out hk
  have h' := h.perm hp
  obtain ⟨hF, _⟩ := h'.mo D _ (List.mem_append_right _ List.mem_cons_self)
  have e : Same F (upd F D o) := fun b u q => by rw [upd_ne (ne_of_none q hF)]; exact q
  have nd := h'.nd
  rw [List.map_append] at nd
  obtain ⟨n1, _, n3⟩ := List.nodup_append.mp nd
  refine ⟨e, fun b u q => ?_, fun a o' m => ?_, n1⟩
  · by_cases hb : b = D
    · subst hb; rw [upd_same] at q ⊢; exact q
    · rw [upd_ne hb] at q ⊢; exact h'.fh b u q
  · obtain ⟨h1, h2⟩ := h'.mo a o' (List.mem_append_left _ m)
    have na : a ≠ D := n3 a (List.mem_map.mpr ⟨_, m, rfl⟩) D List.mem_cons_self
    exact ⟨by rw [upd_ne na]; exact h1, h2.mono e (upd_ne na)⟩
section
variable {Y : Ct} {γ γ' : List S} {M M1 M2 M3 : MM} {s s1 s2 s3 : S} {ss : List S} {a b c o e f tg : Expr} {es : List Expr} {pos p p2 tp apos : Pos} {i n : Int} {P : Po} {Q : S → MM → Prop} {x : Str} {k kk : Nat} {q : Addr} {kvs : List (PyData × S)} {d : PyData}
/-- for .. in e.values(), e a dict that changes no more -/
theorem i_valuesN {w : World} {xs : List S} (h : EQ Y e γ M fun s M2 => ∃ (D : Addr) (k : Nat) (kvs : List (PyData × S)), s = .ob D ∧ M2[k]? = some (D, .dkt w kvs) ∧ M2.eraseIdx k = M1 ∧ kvs.map (·.2) = xs)
    (hbase : attributeBase e "values" Y.X.env (eval e Y.X.env) = eval e Y.X.env := by rfl) (hline : (apos.endLine == pos.line) = true := by rfl) : EI Y tg (.Call (.Attribute e "values" apos) [] [] pos) γ M xs (fun _ => True) M1 :=
  ⟨_, pi_valuesN (w := w) h.pe hbase hline, fun F σ H R r ex kq => ⟨F, r, fun F1 v s M2 H1 e1 r1 sv ⟨D, k, kvs, hs, hk, hM, hx⟩ => by
    subst hs hx hM
    cases sv
    obtain ⟨_, ys, g1, g2⟩ := r1.hm.mo _ _ (List.mem_of_getElem? hk)
    refine ⟨D, ys, rfl, g1, fun od => ?_⟩
    obtain ⟨e2, hm2⟩ := r1.hm.lockN (o := .frz od (DKO w D ys)) hk
    refine kq (upd F1 D (.frz od (DKO w D ys))) _ _ (e1.trans e2) (r1.ext e2 hm2) ⟨fun i H' F' M' e3 hm3 _ hi => ?_, fun i H' v H'' x F' γ' M' σ' hx e3 r3 _ hy => ?_, fun i H' F' M' e3 hm3 _ hi => ?_⟩
    · rw [List.length_map] at hi
      exact ⟨hm3.fh _ _ (e3 _ _ upd_same), by rw [pair_len g2]; exact hi⟩
    · obtain ⟨rfl, y, hy1, rfl⟩ := hy
      obtain ⟨z, hz, _, _, _, hz4⟩ := paired_get g2 hy1
      rw [List.getElem?_map, hz] at hx
      cases Option.some.inj hx
      exact ⟨F', Same.refl F', r3, (hz4.mono e2).mono e3⟩
    · rw [List.length_map] at hi
      exact ⟨hm3.fh _ _ (e3 _ _ upd_same), by rw [pair_len g2]; exact hi⟩, ex⟩⟩
/-- o.append(e), o told by no one term -/
theorem q_appendX (ho : EQ Y o γ M fun s M1 => ∃ (q : Addr) (k : Nat) (xs : List S), s = .ob q ∧ M1[k]? = some (q, MO.lst xs) ∧ xs.length < 100000 ∧ Q (.d .none) (M1.set k (q, MO.lst (xs ++ [s1])))) (he : ∀ M1, EV Y e γ M1 s1 M1)
    (hbase : attributeBase o "append" Y.X.env (eval o Y.X.env) = eval o Y.X.env := by rfl)
    (hfew : ((backTo pos (starEach [e] Y.X.env)).all (fun x => !x.1) && (backToKw pos (keywordEach [] Y.X.env)).all (fun x => x.1.isSome)
      && decide ([e].length + ([] : List Keyword).length + (if ([] : List Keyword).isEmpty then 0 else 1) < 30)) = true := by rfl)
    (hline : (apos.endLine == pos.line) = true := by rfl) (hs : starEach [e] Y.X.env = (false, eval e Y.X.env) :: starEach [] Y.X.env := by rfl) (hplain : (backTo pos (starEach [] Y.X.env)).any (·.1) = false := by rfl) :
    EQ Y (.Call (.Attribute o "append" apos) [e] [] pos) γ M Q :=
  ⟨PE.imp (pe_bm PySem.F.plainAttrs_list PySem.F.slot_list_append PySem.F.type_list_append mt_append ho.pe (pa_cons uE_ok pa_nil hs) hbase hfew hline hs hplain) fun σ H R ⟨F, r, qq, ex⟩ => ⟨F, r, fun F1 v s M1 H1 e1 r1 v1 ⟨q, k, xs, hs1, hk, hl, hQ⟩ => by
    subst hs1
    cases v1
    obtain ⟨_, ws, g1, _⟩ := r1.hm.mo _ _ (List.mem_of_getElem? hk)
    refine ⟨Or.inl ⟨rfl, ws, .of g1⟩, _, (he M1).pe, F1, r1, fun F2 v H2 e2 r2 sv => ?_, ex.mono e1⟩
    obtain ⟨_, us, f1, f2⟩ := r2.hm.mo _ _ (List.mem_of_getElem? hk)
    refine ⟨q, us, v, rfl, rfl, f1, by rw [pair_len f2]; exact Nat.lt_of_lt_of_le hl (by decide), ?_⟩
    have hM := r2.hm.setM hk (o := .lst (us ++ [v])) (m := .lst (xs ++ [s1])) ⟨_, upd_same, pair_app f2 (.cons sv .nil)⟩
    exact qq F2 .non (.d .none) _ _ (e1.trans e2) ⟨hM, r2.sl⟩ Dp.non hQ, ex⟩⟩
/-- d.setdefault(k, []) -/
theorem q_setd {w : World} {N2 N3 : MM} (hw : w = Y.X.w) (hr : Room kk Y.X.A) (ho : EV Y o γ M (.ob q) M1) (hk1 : ∃ (k1 : Nat) (kvs1 : List (PyData × S)), M1[k1]? = some (q, .dkt w kvs1)) (he : EV Y e γ M1 (.d d) N2) (hf : EN Y f γ N2 (.lst []) N3) (hd : KdT d)
    (h : ∀ l, ∃ (k : Nat) (kvs : List (PyData × S)), (N3 ++ [(l, MO.lst [])])[k]? = some (q, .dkt w kvs) ∧ kvs.length < 100000 ∧ (∀ z, valN kvs d = some z → Q z (N3 ++ [(l, MO.lst [])])) ∧ (valN kvs d = none → Q (.ob l) ((N3 ++ [(l, MO.lst [])]).set k (q, .dkt w (putD kvs d (.ob l))))))
    (hbase : attributeBase o "setdefault" Y.X.env (eval o Y.X.env) = eval o Y.X.env := by rfl)
    (hfew : ((backTo pos (starEach [e, f] Y.X.env)).all (fun x => !x.1) && (backToKw pos (keywordEach [] Y.X.env)).all (fun x => x.1.isSome)
      && decide (([e, f] : List Expr).length + ([] : List Keyword).length + (if ([] : List Keyword).isEmpty then 0 else 1) < 30)) = true := by rfl)
    (hline : (apos.endLine == pos.line) = true := by rfl) (htr : backTo pos (starEach [e, f] Y.X.env) = [(false, eval e Y.X.env), (false, eval f Y.X.env)] := by rfl) : EQ Y (.Call (.Attribute o "setdefault" apos) [e, f] [] pos) γ M Q :=
  ⟨PE.imp (pe_setd (by have := hr.un; omega) ho.pe he.pe hf.pe ⟨hbase, hfew, hline, htr⟩) fun σ H R ⟨F, r, qq, ex⟩ => ⟨F, r, fun F1 v H1 e1 r1 v1 => (by
    subst hw
    cases v1
    obtain ⟨k1, kvs1, hk1⟩ := hk1
    obtain ⟨_, xs1, g1, g2⟩ := r1.hm.mo _ _ (List.mem_of_getElem? hk1)
    refine ⟨q, rfl, ⟨xs1, kvs1, F1, r1.hm.fh, g1, g2⟩, F1, r1, fun F2 y H2 e2 r2 v2 => ⟨F2, r2, fun F3 l H3 e3 r3 => ?_, (ex.mono e1).mono e2⟩, ex.mono e1⟩
    obtain ⟨k, kvs, hk, hl, hy, hn⟩ := h l
    obtain ⟨⟨ds, rfl⟩, hd2⟩ := hd
    have v2' : Dp Y.X.K F3 y (.tuple ds) := dp_mono e3 _ _ v2
    obtain ⟨_, xs, f1, f2⟩ := r3.hm.mo _ _ (List.mem_of_getElem? hk)
    cases y with
    | ref b =>
      have hfp := find_pair (f := fun x : NV => decide (x.1 = keyOf (.tuple ds))) (g := fun x : PyData × S => decide (keyOf x.1 = keyOf (.tuple ds))) (fun a b h => by rw [h.1]) f2
      refine ⟨b, .tuple ds, xs, kvs, F3, rfl, r3.hm.fh, f1, f2, v2', ⟨⟨ds, rfl⟩, hd2⟩, by rw [pair_len f2]; exact Nat.lt_of_lt_of_le hl (by decide), fun v hv => ?_, fun hv => ?_⟩
      · rcases hfp with ⟨h1, _⟩ | ⟨x, p, h1, h2, h3⟩
        · rw [h1] at hv; cases hv
        · rw [h1] at hv
          cases Option.some.inj hv
          exact qq F3 _ p.2 _ H3 ((e1.trans e2).trans e3) r3 h3.2.2.2 (hy _ (by unfold valN; rw [h2]; rfl))
      · rcases hfp with ⟨_, h2⟩ | ⟨x, p, h1, h2, h3⟩
        · have hM := r3.hm.setM hk (o := DKO Y.X.w q (putN xs (keyOf (.tuple ds)) b (.ref l))) (m := .dkt Y.X.w (putD kvs (.tuple ds) (.ob l))) ⟨_, upd_same, kn_put f2 v2' ⟨⟨ds, rfl⟩, hd2⟩ rfl⟩
          exact qq F3 (.ref l) (.ob l) _ _ ((e1.trans e2).trans e3) ⟨hM, r3.sl⟩ rfl (hn (by unfold valN; rw [h2]; rfl))
        · rw [h1] at hv; cases hv
    | _ => cases v2'), ex⟩⟩
theorem pair_er {α β : Type} {R : α → β → Prop} : ∀ {as : List α} {bs : List β} (j : Nat), Paired R as bs → Paired R (as.eraseIdx j) (bs.eraseIdx j)
  | _, _, _, .nil => .nil
  | _, _, 0, .cons r t => t
  | _, _, j + 1, .cons r t => .cons r (pair_er j t)
/-- o.pop(i) -/
theorem q_popAt {j : Nat} {xs : List S} {N2 : MM} (ho : EV Y o γ M (.ob q) M1) (hk1 : ∃ (k1 : Nat) (ys : List S), M1[k1]? = some (q, MO.lst ys)) (he : EV Y e γ M1 (.d (.int (j : Nat))) N2) (hk : N2[k]? = some (q, .lst xs)) (hj : xs[j]? = some s) (hl : xs.length ≤ 100000) (hQ : Q s (N2.set k (q, .lst (xs.eraseIdx j))))
    (hbase : attributeBase o "pop" Y.X.env (eval o Y.X.env) = eval o Y.X.env := by rfl)
    (hfew : ((backTo pos (starEach [e] Y.X.env)).all (fun x => !x.1) && (backToKw pos (keywordEach [] Y.X.env)).all (fun x => x.1.isSome)
      && decide ([e].length + ([] : List Keyword).length + (if ([] : List Keyword).isEmpty then 0 else 1) < 30)) = true := by rfl)
    (hline : (apos.endLine == pos.line) = true := by rfl) (hs : starEach [e] Y.X.env = (false, eval e Y.X.env) :: starEach [] Y.X.env := by rfl) (hplain : (backTo pos (starEach [] Y.X.env)).any (·.1) = false := by rfl) :
    EQ Y (.Call (.Attribute o "pop" apos) [e] [] pos) γ M Q :=
  ⟨PE.imp (pe_bm PySem.F.plainAttrs_list PySem.F.slot_list_pop PySem.F.type_list_pop mt_popAt ho.pe (pa_cons he.pe pa_nil hs) hbase hfew hline hs hplain) fun σ H R ⟨F, r, qq, ex⟩ => ⟨F, r, fun F1 v H1 e1 r1 v1 => by
    cases v1
    obtain ⟨k1, ys, hk1⟩ := hk1
    obtain ⟨_, ws, g1, _⟩ := r1.hm.mo _ _ (List.mem_of_getElem? hk1)
    refine ⟨Or.inl ⟨rfl, ws, .of g1⟩, F1, r1, fun F2 v H2 e2 r2 sv => ?_, ex.mono e1⟩
    cases sv
    obtain ⟨_, us, f1, f2⟩ := r2.hm.mo _ _ (List.mem_of_getElem? hk)
    have hlen := pair_len f2
    have hjl := (List.getElem?_eq_some_iff.mp hj).1
    obtain ⟨y, hy1, hy2⟩ : ∃ y, us[j]? = some y ∧ SR Y.X.K F2 y s := by
      have hju : us[j]? = some (us[j]'(by omega)) := List.getElem?_eq_getElem (by omega)
      obtain ⟨b, hb, hr⟩ := paired_get f2 hju
      rw [hj] at hb
      cases Option.some.inj hb
      exact ⟨_, hju, hr⟩
    refine ⟨q, us, (j : Int), j, y, rfl, rfl, f1, by omega, by omega, ?_, hy1, ?_⟩
    · unfold seqIndex?
      simp
      omega
    · have hM := r2.hm.setM hk (o := .lst (us.eraseIdx j)) (m := .lst (xs.eraseIdx j)) ⟨_, upd_same, pair_er j f2⟩
      exact qq F2 y s _ _ (e1.trans e2) ⟨hM, r2.sl⟩ hy2 hQ, ex⟩⟩
theorem HM.reM {K : PySem.W.Frag} {F H : Hp} {M : MM} {k : Nat} {p : Addr} {w : World} {xs : List NV} {kvs kvs' : List (PyData × S)} (h : HM K F M H) (hk : M[k]? = some (p, .dkt w kvs)) (h1 : H p = some (DKO w p xs)) (h2 : KN K F xs kvs') : HM K F (M.set k (p, .dkt w kvs')) H := by
  have := h.setM hk (o := DKO w p xs) (m := .dkt w kvs') ⟨xs, upd_same, h2⟩
  have e : upd H p (DKO w p xs) = H := by
    funext b
    by_cases hb : b = p
    · rw [hb, upd_same, h1]
    · rw [upd_ne hb]
  rw [e] at this
  exact this
def dgX (D : Addr) (w : World) (fs : List (PyData × List PyData)) (gs : List (Addr × PyData × List PyData)) : MM :=
  (D, .dkt w (fs.map (fun f => (f.1, S.d (.list f.2))) ++ gs.map fun g => (g.2.1, S.ob g.1))) :: gs.map fun g => (g.1, MO.lst (g.2.2.map S.d))
theorem kn_frz {K : PySem.W.Frag} {F F' : Hp} (e : Same F F') {l : Addr} {ds : List PyData} (hl : Dp K F' (.ref l) (.list ds)) {key : PyData} {c : List (PyData × S)} : ∀ {a : List (PyData × S)} {xs : List NV}, KN K F xs (a ++ (key, S.ob l) :: c) → KN K F' xs (a ++ (key, S.d (.list ds)) :: c)
  | [], _, .cons ⟨h1, h2, h3, h4⟩ t => by
    have h4' : _ = V.ref l := h4
    refine .cons ⟨h1, dp_mono e _ _ h2, h3, ?_⟩ (L2.Paired.mapP t fun p q z => ⟨z.1, dp_mono e _ _ z.2.1, z.2.2.1, z.2.2.2.mono e⟩)
    show Dp K F' _ _
    rw [h4']
    exact hl
  | y :: a, _, .cons ⟨h1, h2, h3, h4⟩ t => .cons ⟨h1, dp_mono e _ _ h2, h3, h4.mono e⟩ (kn_frz e hl t)
/-- the lists of such a dict change no more -/
theorem b_frzD {sts : List Stmt} {M0 : MM} {D : Addr} {w : World} : ∀ (gs : List (Addr × PyData × List PyData)) (fs : List (PyData × List PyData)), BL Y sts γ (M0 ++ [(D, .dkt w ((fs ++ gs.map (·.2)).map fun f => (f.1, S.d (.list f.2))))]) P → BL Y sts γ (M0 ++ dgX D w fs gs) P
  | [], fs, h => by
    have e : (fs ++ ([] : List (Addr × PyData × List PyData)).map (·.2)).map (fun f => (f.1, S.d (.list f.2))) = fs.map (fun f => (f.1, S.d (.list f.2))) ++ ([] : List (Addr × PyData × List PyData)).map fun g => (g.2.1, S.ob g.1) := by simp
    rw [e] at h
    exact h
  | g :: gs, fs, h => by
    have ih := b_frzD (M0 := M0) (D := D) (w := w) gs (fs ++ [g.2]) (by rw [List.append_assoc fs]; exact h)
    refine ⟨PSs.imp ih.ps fun D2 σ H ⟨F, r, qq, ex⟩ => ?_⟩
    have hp : (M0 ++ dgX D w fs (g :: gs)).Perm (M0 ++ ((D, .dkt w (fs.map (fun f => (f.1, S.d (.list f.2))) ++ (g.2.1, S.ob g.1) :: gs.map fun g => (g.2.1, S.ob g.1))) :: gs.map fun g => (g.1, MO.lst (g.2.2.map S.d))) ++ [(g.1, MO.lst (g.2.2.map S.d))]) := by
      rw [List.append_assoc]
      have hq := List.perm_append_comm (l₁ := [(g.1, MO.lst (g.2.2.map S.d))]) (l₂ := gs.map fun g => (g.1, MO.lst (g.2.2.map S.d)))
      exact List.Perm.append_left M0 (List.Perm.cons (D, MO.dkt w (fs.map (fun f => (f.1, S.d (.list f.2))) ++ (g.2.1, S.ob g.1) :: gs.map fun g => (g.2.1, S.ob g.1))) hq)
    have hm := r.hm.perm hp
    have hk : (M0 ++ ((D, MO.dkt w (fs.map (fun f => (f.1, S.d (.list f.2))) ++ (g.2.1, S.ob g.1) :: gs.map fun g => (g.2.1, S.ob g.1))) :: gs.map fun g => (g.1, MO.lst (g.2.2.map S.d))))[M0.length]? = some (D, .dkt w (fs.map (fun f => (f.1, S.d (.list f.2))) ++ (g.2.1, S.ob g.1) :: gs.map fun g => (g.2.1, S.ob g.1))) := by simp
    obtain ⟨_, xs, x1, x2⟩ := hm.mo _ _ (List.mem_append_left _ (List.mem_of_getElem? hk))
    obtain ⟨vs, g1, g2, g3, g4⟩ := hm.frz
    have hl : Dp Y.X.K (upd F g.1 (.lst vs)) (.ref g.1) (.list g.2.2) := .lst (.inl (.inl upd_same)) (dps_mono g3 _ _ g2)
    have hM := g4.reM hk x1 (kn_frz g3 hl x2)
    have e2 : (M0 ++ ((D, MO.dkt w (fs.map (fun f => (f.1, S.d (.list f.2))) ++ (g.2.1, S.ob g.1) :: gs.map fun g => (g.2.1, S.ob g.1))) :: gs.map fun g => (g.1, MO.lst (g.2.2.map S.d)))).set M0.length (D, .dkt w (fs.map (fun f => (f.1, S.d (.list f.2))) ++ (g.2.1, S.d (.list g.2.2)) :: gs.map fun g => (g.2.1, S.ob g.1))) = M0 ++ dgX D w (fs ++ [g.2]) gs := by
      unfold dgX
      rw [List.set_append_right _ _ (Nat.le_refl _), Nat.sub_self, List.set_cons_zero, List.map_append, List.append_assoc]
      rfl
    rw [e2] at hM
    exact ⟨_, (r.ext g3 hM), qq.mono g3, ex.mono g3⟩
end
end Mi

/-! Mi: max([..], default=d); what is read alone. -/
namespace Mi
open PySem PySem.Spec PyProof.Rows L2
def maxDf (d : Int) (ns : List Int) : Int := match ns with
  | [] => d
  | n :: ns => ns.foldl max n
theorem maxOf_int (x : Int) : ∀ xs : List Int, PySem.W.maxOf x xs = xs.foldl max x := by
  intro xs
  unfold PySem.W.maxOf
  induction xs generalizing x with
  | nil => rfl
  | cons y ys ih =>
    rw [List.foldl_cons, List.foldl_cons]
    have e : (if PySem.W.DatumOrd.lt x y = true then y else x) = max x y := by
      show (if decide (x < y) = true then y else x) = max x y
      by_cases h : x < y
      · simp [h]; omega
      · simp [h]; omega
    rw [e]
    exact ih _
def rMaxLd (K : PySem.W.Frag) : List V → List V → Hp → VK → Prop := fun vs zs H Q => ∃ (a : Addr) (ns : List Int) (d : Int), vs = [V.ref a] ∧ zs = [V.int d] ∧ SqL K H a (ns.map V.int) ∧ Q (.int (maxDf d ns)) H
theorem cr_maxLd {X : Cx} (hc : X.calm = true) (hu : X.A.units + 70 < cLine) : CallRK X (.builtin "max") [Str.ofString "default"] (rMaxLd X.K) := by
  rintro pins s σ H xs zs us ws Q I r rz ⟨a, ns, d, rfl, rfl, hs, q⟩
  obtain ⟨its, rv, hl, _⟩ := I.list hs
  rw [Vals.ref1 r]
  obtain ⟨dv, rfl, hd⟩ : ∃ dv, ws = [dv] ∧ RelV (.int d) dv := by
    cases rz with
    | cons h t =>
      cases t
      exact ⟨_, rfl, h⟩
  refine PySem.W.max_list_datum_default (α := Int) (xs := ns) (d := dv) (I.ok.hd hc) hl.isList (PySem.W.HoldAll.of_ints rv.ints) (by show X.A.units + 1 + 0 < cLine; omega) (fun e h' tk hk => ?_) (fun y ys i v h' tk e hi hv hk => ?_)
  · subst e
    exact ⟨.int _, H, I.kept hk, hd, q⟩
  · subst e
    obtain ⟨as, hv⟩ := hv
    cases hv with
    | int _ t =>
      refine ⟨.int _, H, I.kept hk, ⟨t, rfl⟩, ?_⟩
      show Q (.int (PySem.W.maxOf y ys)) H
      rw [maxOf_int]
      exact q
theorem ints_pair {K : PySem.W.Frag} {F : Hp} : ∀ {vs : List V} {ns : List Int}, Paired (SR K F) vs (ns.map fun n => S.d (.int n)) → vs = ns.map V.int
  | _, [], h => by cases h; rfl
  | _, n :: ns, h => by
    cases h with
    | cons h1 h2 =>
      cases h1
      rw [ints_pair h2]
      rfl
section
variable {Y : Ct} {γ γ' : List S} {M M1 M2 M3 : MM} {e o a : Expr} {es : List Expr} {pos p kpos : Pos} {Q : S → MM → Prop} {kk : Nat}
/-- max(xs, default=d) of whole numbers -/
theorem e_maxDf {ns : List Int} {d : Int} {s : S} (hr : Room kk Y.X.A) (hc : Y.X.calm = true) (hg : Gl Y.X "max" := by rfl) (hm : Y.X.mg "max" = none) (ha : EA Y (e :: es) γ M [s] M1) (hv : VL M1 s (ns.map fun n => S.d (.int n))) (hd : EV Y o γ M1 (.d (.int d)) M1)
    (he : backTo pos (starEach (e :: es) Y.X.env) = (false, eval e Y.X.env) :: backTo pos (starEach es Y.X.env) := by rfl) (hpl : (backTo pos (starEach (e :: es) Y.X.env)).any (·.1) = false := by rfl)
    (hall : (backToKw pos (keywordEach [⟨some "default", o, kpos⟩] Y.X.env)).all (·.1.isSome) = true := by rfl) (hnone : (backToKw pos (keywordEach [⟨some "default", o, kpos⟩] Y.X.env)).any (·.1.isNone) = false := by rfl) (hks : (backToKw pos (keywordEach [⟨some "default", o, kpos⟩] Y.X.env)).filterMap (·.1) = [Str.ofString "default"] := by rfl) :
    EV Y (.Call (.Name "max" p) (e :: es) [⟨some "default", o, kpos⟩] pos) γ M (.d (.int (maxDf d ns))) M1 :=
  ⟨PE.imp (pe_callBK (cr_maxLd hc (by have := hr.un; omega)) hg hm (by decide +kernel) ha.pa (pk_cons hd.pe pk_nil) (by decide) (by decide) he hpl hall hnone hks) fun σ H R ⟨F, r, q, ex⟩ => ⟨F, r, fun F1 vs H1 e1 r1 v1 => by
    obtain ⟨v, rfl, g1⟩ := pair_one v1
    refine ⟨F1, r1, fun F2 w H2 e2 r2 w2 => ?_, ex.mono e1⟩
    obtain ⟨a, ws, rfl, h1, h2⟩ := hv.ok r2.hm (g1.mono e2)
    cases w2
    refine ⟨a, ns, d, rfl, rfl, ?_, ?_⟩
    · rw [← ints_pair h2]; exact h1
    · exact q F2 _ H2 (e1.trans e2) r2 (Dp.int _), ex⟩⟩
/-! ### what is read alone: all that there is may be taken as data -/
/-- s, seen as data where all is as it stands -/
structure SeenS (M : MM) (s s' : S) : Prop where
  ok : ∀ {K : PySem.W.Frag} {F H : Hp} {o : Option V}, HM K F M H → OR K F o s → OR K H o s'
theorem SeenS.same {M : MM} {s : S} : SeenS M s s := ⟨fun hm h => h.mono hm.fh⟩
theorem SeenS.view {M : MM} {s : S} {d : PyData} (hk : s.known = true) (h : ∀ {K : PySem.W.Frag} {F H : Hp} {v : V}, HM K F M H → SR K F v s → Dp K H v d) : SeenS M s (.d d) := ⟨fun {K F H o} hm r => by
  cases s with
  | no => cases hk
  | d x => obtain ⟨v, e, r⟩ := r; exact ⟨v, e, h hm r⟩
  | ob a => obtain ⟨v, e, r⟩ := r; exact ⟨v, e, h hm r⟩
  | ty n => obtain ⟨v, e, r⟩ := r; exact ⟨v, e, h hm r⟩⟩
theorem seen_all {M : MM} {K : PySem.W.Frag} {F H : Hp} (hm : HM K F M H) : ∀ {σ : L2.St} {γ γ1 : List S}, Paired (OR K F) σ γ → Paired (SeenS M) γ γ1 → Paired (OR K H) σ γ1
  | _, _, _, .nil, .nil => .nil
  | _, _, _, .cons h t, .cons g u => .cons (g.ok hm h) (seen_all hm t u)
theorem mr_keep {K : PySem.W.Frag} {F H H' : Hp} {a : Addr} (e : Same H H') : ∀ {o : MO}, MR K F H a o → MR K F H' a o
  | .lst _, ⟨vs, h, r⟩ => ⟨vs, e _ _ h, r⟩
  | .ins _ _, ⟨dx, vs, h, r⟩ => ⟨dx, vs, e _ _ h, r⟩
  | .tup _, ⟨vs, h, r⟩ => ⟨vs, e _ _ h, r⟩
  | .dct _, ⟨vs, h, r⟩ => ⟨vs, e _ _ h, r⟩
  | .exd _, ⟨vs, h, r⟩ => ⟨vs, e _ _ h, r⟩
  | .dkt _ _, ⟨xs, h, r⟩ => ⟨xs, e _ _ h, r⟩
theorem hm_keep {K : PySem.W.Frag} {F H H' : Hp} {M : MM} (h : HM K F M H) (e : Same H H') : HM K F M H' := ⟨h.fh.trans e, fun a o hm => ⟨(h.mo a o hm).1, mr_keep e (h.mo a o hm).2⟩, h.nd⟩
/-- a condition that changes nothing: worked out where all that changes is seen as data -/
theorem t_seen {γ1 : List S} {b : Bool} (hs : Paired (SeenS M) γ γ1) (h : ET Y e γ1 [] b []) : ET Y e γ M b M :=
  ⟨PT.imp h.pt fun σ H Q ⟨F, r, q, ex⟩ => ⟨H, ⟨⟨Same.refl H, fun _ _ hm => (nomatch hm), List.Pairwise.nil⟩, seen_all r.hm r.sl hs⟩, fun F' H' e1 r1 => q F H' (Same.refl F) ⟨hm_keep r.hm (e1.trans r1.hm.fh), r.sl⟩, ex.mono r.hm.fh⟩⟩
end
end Mi

/-! Mi: errors of own classes that keep a field. -/
namespace Mi
open PySem PySem.Spec PyProof.Rows L2
/-- the class is a plain one over ValueError, as OexC asks -/
def oexB (K : PySem.W.Frag) (C : Addr) : Bool := match K.lookup C with
  | some ⟨.type "type", _, .cls cd, sl⟩ => (match cd.mro, sl.toList with
    | .ref C' :: bm, [_, _, _, _, some (.builtin n), _] => C' == C && n == "ValueError.__new__" && !cd.hasDel && cd.hasDict && PySem.HandSPX.refsVE bm
    | _, _ => false)
  | _ => false
theorem oexB_ok {K : PySem.W.Frag} {C : Addr} (h : oexB K C = true) : ∃ nm q N bs bm sn sub ab col dd k0 k1 k2 k3 k5, K.lookup C = some (excClassObj nm q C N bs bm true sn sub ab col dd k0 k1 k2 k3 k5 "ValueError.__new__") ∧ PySem.HandSPX.refsVE bm = true := by
  unfold oexB at h
  split at h
  · rename_i dd cd sl ho
    obtain ⟨nm, bs, mro, ns, qn, hd, sn, sub, ab, col, del⟩ := cd
    dsimp only at h
    split at h
    · rename_i C' bm k0 k1 k2 k3 n k5 hs
      simp only [Bool.and_eq_true, Bool.not_eq_true', beq_iff_eq] at h
      obtain ⟨⟨⟨⟨h1, h2⟩, h3⟩, h4⟩, h5⟩ := h
      have h3' : del = false := h3
      have h4' : hd = true := h4
      subst h1 h2 h3' h4'
      have hs' : sl = #[k0, k1, k2, k3, some (.builtin "ValueError.__new__"), k5] := by
        exact (Array.toArray_toList (xs := sl)).symm.trans (congrArg List.toArray hs)
      subst hs'
      exact ⟨_, _, _, _, _, _, _, _, _, _, _, _, _, _, _, ho, h5⟩
    · cases h
  · cases h
section
variable {X : Cx} {e : Expr} {es : List Expr} {ta : TA} {x : Str} {p1 p2 pos : Pos}
/-- B.__init__(self, ..), B a class of the program over ValueError, without one of its own -/
theorem pe_basei {C0 : Addr} {mc : Value} {pl : Sem Bool} (hg : Gl X x) (hm : X.mg x = some (.ref C0)) (hga : PySem.W.specialIn X.K (.ref C0) "__getattribute__" = some (some (.builtin "type.__getattribute__"))) (ht : PySem.W.typeIn X.K (.ref C0) = some mc) (hr : PySem.W.readsIn X.K C0 mc = true)
    (vV : PySem.W.findCls X.K (.ref C0) mc "__init__" = some (.val (.builtin "ValueError.__init__"))) (ha : PA X (e :: es) ta)
    (hc : eval (.Call (.Attribute (.Name x p1) "__init__" p2) (e :: es) [] pos) X.env = (do
      let ov ← eval (.Name x p1) X.env
      standAt p2.atName
      let (f, first) ← holding [ov] (getMethod ov "__init__" pl)
      callWith pos f first (backTo pos (starEach (e :: es) X.env)) (backToKw pos (keywordEach [] X.env))) := by rfl)
    (hdb : (x == ("__debug__" : Str)) = false := by decide) (he : starEach (e :: es) X.env = (false, eval e X.env) :: starEach es X.env := by rfl) (hpl : (backTo pos (starEach es X.env)).any (·.1) = false := by rfl) :
    PE X (.Call (.Attribute (.Name x p1) "__init__" p2) (e :: es) [] pos) (tVeI X.K ta) := by
  refine ⟨fun pins s σ H Q I h => ?_⟩
  refine PySem.W.methodCall_KW (ld_glob I hg hm ?_ hdb) hc
  obtain ⟨m, fr⟩ := I.fr
  refine PySem.W.method_of_cls fr I.ok.mod.kin hga (PySem.W.cls_val fr I.ok.mod.kin ht hr vV (by decide +kernel) ?_)
  refine PyProof.Rows.callWith_method1 (thn (ha.run pos pins _ σ H _ (I.tok _) h) fun us s1 ⟨vs, H1, I1, r1, a, C, ws, ev, hl, T, ea, q⟩ => ?_) he hpl
  subst ev
  cases r1 with
  | @cons _ u0 _ ur ra rw' =>
    obtain rfl : u0 = Value.ref a := ra
    have hlen : ur.length ≤ sizeLine := by
      rw [← Paired.length rw', sizeLine_eq]
      omega
    exact oinit_ok T I1 ea hlen fun s' J => ⟨.non, H1, J, rfl, q⟩
end
/-- what such a class's own __init__ does: one field -/
def spXI (K : PySem.W.Frag) (C : Addr) (f : Str) : Sp := fun vs H Q _ => ∃ (a : Addr) (y : V), vs = [.ref a, y] ∧ H a = some (exo a C none) ∧ ∀ dx, H dx = none → dx ≠ a → Q .non (upd (upd H dx (exd dx [(f, y)])) a (exo a C (some dx)))
/-- def __init__(self, y): B.__init__(self, '..'); self.f = y -/
theorem xinit {X : Cx} {x m f s0 s1 : Str} {C : Addr} {C0 : Addr} {mc : Value} {pl : Sem Bool} {k : Nat} {p1 p2 p3 p4 p5 p6 p7 p8 p9 p10 : Pos} (T : OexC X.K C) (hno : PySem.W.findIn X.K (.ref C) f = some none)
    (hg : Gl X x) (hm : X.mg x = some (.ref C0)) (hga : PySem.W.specialIn X.K (.ref C0) "__getattribute__" = some (some (.builtin "type.__getattribute__"))) (ht : PySem.W.typeIn X.K (.ref C0) = some mc) (hr : PySem.W.readsIn X.K C0 mc = true)
    (vV : PySem.W.findCls X.K (.ref C0) mc "__init__" = some (.val (.builtin "ValueError.__init__"))) (h0 : X.N[0]? = some s0) (h1 : X.N[1]? = some s1) (v0 : Vis X.env.scope s0) (v1 : Vis X.env.scope s1)
    (d0 : (s0 == ("__debug__" : Str)) = false) (d1 : (s1 == ("__debug__" : Str)) = false) (c0 : (s0 == ("__classdict__" : Str)) = false) (c1 : (s1 == ("__classdict__" : Str)) = false) (hdb : (x == ("__debug__" : Str)) = false)
    (hc : eval (.Call (.Attribute (.Name x p1) "__init__" p2) [.Name s0 p3, .Constant (.str m) k p4] [] p5) X.env = (do
      let ov ← eval (.Name x p1) X.env
      standAt p2.atName
      let (f, first) ← holding [ov] (getMethod ov "__init__" pl)
      callWith p5 f first (backTo p5 (starEach [.Name s0 p3, .Constant (.str m) k p4] X.env)) (backToKw p5 (keywordEach [] X.env))) := by rfl)
    (he : starEach [.Name s0 p3, .Constant (.str m) k p4] X.env = (false, eval (.Name s0 p3) X.env) :: starEach [.Constant (.str m) k p4] X.env := by rfl) (he2 : starEach [.Constant (.str m) k p4] X.env = (false, eval (.Constant (.str m) k p4) X.env) :: starEach [] X.env := by rfl) (hpl : (backTo p5 (starEach [.Constant (.str m) k p4] X.env)).any (·.1) = false := by rfl)
    (hs1 : swapsWith (.Call (.Attribute (.Name x p1) "__init__" p2) [.Name s0 p3, .Constant (.str m) k p4] [] p5) none p6.line X.env = pure false := by rfl) (hs2 : swapsWith (.Name s1 p9) (some (.Attribute (.Name s0 p7) f p8)) p10.line X.env = pure false := by rfl) :
    PSs X [.Expr (.Call (.Attribute (.Name x p1) "__init__" p2) [.Name s0 p3, .Constant (.str m) k p4] [] p5) p6, .Assign [.Attribute (.Name s0 p7) f p8] (.Name s1 p9) p10]
      (fun D σ H => ∃ (a : Addr) (y : V), σ = [some (.ref a), some y] ∧ H a = some (exo a C none) ∧ ∀ dx, H dx = none → dx ≠ a → D.nx σ (upd (upd H dx (exd dx [(f, y)])) a (exo a C (some dx)))) := by
  refine PSs.imp (pss_cons (ps_expr (pe_basei (pl := pl) hg hm hga ht hr vV (pa_cons (pe_var h0 v0 d0 c0) (pa_cons pe_str pa_nil he2) he) hc hdb he hpl) hs1) (pss_one (ps_ost (pe_var h0 v0 d0 c0) (pe_var h1 v1 d1 c1) hs2))) fun D σ H ⟨a, y, hσ, ha, hq⟩ => ?_
  subst hσ
  exact ⟨.ref a, rfl, a, C, [.str m], rfl, (show 1 ≤ 1000 by decide), T, ha, y, rfl, .ref a, rfl, a, C, rfl, T, hno, .inl ⟨ha, hq⟩⟩
section
variable {Y : Ct} {γ γ' : List S} {M M1 M2 : MM} {s : S} {e o : Expr} {pos apos p tp : Pos} {x f : Str} {C fI : Addr} {P : Po} {k : Nat} {fd : FuncData} {ps : List Str}
/-- raise C(e), C's own __init__ keeping one field -/
theorem s_raiseX (hc : Y.X.calm = true) (tk : Takes Y.X Y.Er) (T : OexC Y.X.K C) (iC : PySem.W.findIn Y.X.K (.ref C) "__init__" = some (some (.ref fI))) (tI : PySem.W.typeIn Y.X.K (.ref fI) = some (.type "function"))
    (G : FnOk Y.X.prog Y.X.w Y.X.K Y.X.mg Y.X.base (L2.CX Y.X.prog Y.X.w) k fI fd ps (spXI Y.X.K C f)) (hr : Room (k + 1) Y.X.A) (hm : Y.X.mg x = some (.ref C)) (hb : Binds Y.X.K fd ps []) (ha : EV Y e γ M s M1)
    (hx : ∀ dx : Addr, Y.Rx (.int (C : Nat) dx) γ (M1 ++ [(dx, .exd [(f, s)])])) (hg : Gl Y.X x := by rfl) (hdb : (x == ("__debug__" : Str)) = false := by decide)
    (he : starEach [e] Y.X.env = (false, eval e Y.X.env) :: starEach [] Y.X.env := by rfl) (hpl : (backTo pos (starEach [] Y.X.env)).any (·.1) = false := by rfl) : ST Y (.Raise (some (.Call (.Name x p) [e] [] pos)) none tp) γ M P :=
  ⟨PS.imp (ps_raise hc tk (pmk_oex T iC tI G hr hb .nil (fun pins σ H s e s' => passes_call tk (fun _ _ _ _ z => z.elim) pins σ H s e s') hg hm (pa_cons ha.pe pa_nil he) hdb he hpl)) fun D σ H ⟨F, r, qq, ex⟩ => ⟨F, r, fun F1 v H1 e1 r1 v1 => by
    refine ⟨(show 1 ≤ 1000 by decide), fun a hna => ⟨a, v, rfl, upd_same, fun dx hdx hne => ?_⟩⟩
    have h1 : H1 dx = none := by rw [upd_ne hne] at hdx; exact hdx
    refine ⟨rfl, dx, [(f, v)], upd_same, by rw [upd_ne hne, upd_same], h1, ?_⟩
    have eH : upd (del (upd (upd (upd H1 a (exo a C none)) dx (exd dx [(f, v)])) a (exo a C (some dx))) a) dx (.xd [(f, v)]) = upd H1 dx (.xd [(f, v)]) := by
      funext b
      by_cases hb : b = dx
      · rw [hb, upd_same, upd_same]
      · rw [upd_ne hb, upd_ne hb]
        by_cases hba : b = a
        · rw [hba, del_same, hna]
        · rw [del_ne hba, upd_ne hba, upd_ne hb, upd_ne hba]
    rw [eH]
    have hM := r1.hm.newM h1 (o := .xd [(f, v)]) (m := .exd [(f, s)]) ⟨_, upd_same, .cons ⟨rfl, v1⟩ .nil⟩
    exact ex (.int (C : Nat) dx) γ _ F1 σ _ e1 ⟨hM, r1.sl⟩ (hx dx), ex⟩⟩
end
/-! ### the caught one -/
/-- isinstance(e, c), e keeping fields at dd -/
def rIsED (K : PySem.W.Frag) (D a dd : Addr) : List V → Hp → VK → Prop := fun xs H Q => ∃ (c : V) (cv : Value) (b : Bool) (fs : List (Str × V)), xs = [.ref a, c] ∧ H dd = some (.xd fs) ∧ (∀ u, RelV c u → u = cv) ∧ PySem.W.kitOne K (.ref D) cv = some b ∧ Q (.bl b) H
theorem exd_inst {X : Cx} {pins : List (Addr × Obj)} {σ : L2.St} {H : Hp} {s : Shared} {a D dd : Addr} {oe : Obj} {pn : List (Addr × Obj)} {fs : List (Str × V)} (hz : Zc (.ref D) (some dd) oe) (hf : ∃ vs, oe.data = .fields vs) (I : Inv (X.suite a ((a, oe) :: pn)) pins σ H s) (ed : H dd = some (.xd fs)) :
    ∃ od, PySem.W.InstAt s.heap a oe D (some od) := by
  obtain ⟨hget, _⟩ := I.pin (a, oe) (List.mem_append.mpr (.inl List.mem_cons_self))
  obtain ⟨vs, hd⟩ := hf
  have hx : ObjOk X.prog X.w H s.heap dd (.xd fs) := I.hok dd _ ed
  obtain ⟨mA, hns, _⟩ := hx
  obtain ⟨od, ho, _⟩ := lookIn_ns hns
  exact ⟨od, hget, hz.1, by unfold PySem.W.notCls; rw [hd] <;> rfl, by rw [hz.2]; exact ho⟩
theorem call_isED {X : Cx} {a D dd : Addr} {oe : Obj} {pn : List (Addr × Obj)} (C : ExcC X.K D) (hcl : (PySem.W.clsIn X.K D).isSome = true) (hz : Zc (.ref D) (some dd) oe) (hf : ∃ vs, oe.data = .fields vs) : CallR (X.suite a ((a, oe) :: pn)) (.builtin "isinstance") (rIsED X.K D a dd) := by
  intro pins s σ H xs us Q I r h
  obtain ⟨c, cv, b, fs, rfl, ed, hcv, e, q⟩ := h
  cases r with
  | cons rx rr =>
    cases rr with
    | cons rt rr =>
      cases rr
      cases rx
      have ec := hcv _ rt
      subst ec
      obtain ⟨od, J⟩ := exd_inst hz hf I ed
      exact PySem.W.kia_one (PySem.W.kitx_exc hcl C.hg C.hk C.hs C.ha C.hn C.ht C.hm) I.kIn J e (fun z => nomatch z) fun tk => ⟨.bl b, H, I.kept (t' := tk) fun _ _ z => z, rfl, q⟩
def rIsETD (K : PySem.W.Frag) (D a dd : Addr) : List V → Hp → VK → Prop := fun xs H Q => ∃ (tp : Addr) (cs : List V) (us : List Value) (b : Bool) (fs : List (Str × V)), xs = [.ref a, .ref tp] ∧ H dd = some (.xd fs) ∧ H tp = some (.tup cs) ∧ Paired ClsV cs us ∧ PySem.W.kitAny K (.ref D) us = some b ∧ Q (.bl b) H
theorem call_isETD {X : Cx} {a D dd : Addr} {oe : Obj} {pn : List (Addr × Obj)} (C : ExcC X.K D) (hcl : (PySem.W.clsIn X.K D).isSome = true) (hz : Zc (.ref D) (some dd) oe) (hf : ∃ vs, oe.data = .fields vs) : CallR (X.suite a ((a, oe) :: pn)) (.builtin "isinstance") (rIsETD X.K D a dd) := by
  intro pins s σ H xs us Q I r h
  obtain ⟨tp, cs, ws, b, fs, rfl, ed, hT, k, e, q⟩ := h
  obtain ⟨u1, u2, rfl, rx, rt⟩ := vals2 r
  cases rx
  cases (show u2 = Value.ref tp from rt)
  obtain ⟨_, its, rv, o, h1, h2, n, h3⟩ := (show ObjOk X.prog X.w H s.heap tp (.tup cs) from I.hok tp _ hT)
  have e3 := ClsV.all k rv
  subst e3
  obtain ⟨od2, J⟩ := exd_inst hz hf I ed
  obtain ⟨oc, od, dt, sl⟩ := o
  simp only at h2 h3
  subst h2 h3
  exact PySem.W.kia_tup (PySem.W.kitx_exc hcl C.hg C.hk C.hs C.ha C.hn C.ht C.hm) I.kIn J h1 e (fun z => nomatch z) fun tk => ⟨.bl b, H, I.kept (t' := tk) fun _ _ z => z, rfl, q⟩
section
variable {X : Cx} {Er : WX} {Rx : Value → List S → MM → Prop} {γ : List S} {M M1 M2 : MM} {s s1 : S} {ss : List S} {e : Expr} {es ces : List Expr} {q D dd : Addr} {oe : Obj} {pn : List (Addr × Obj)} {cv : Value} {cvs : List Value} {b1 : Bool} {pos p tp : Pos} {k kk : Nat} {fs : List (Str × S)} {n : Str}
theorem e_isED (C : ExcC X.K D) (hcl : (PySem.W.clsIn X.K D).isSome = true) (hz : Zc (.ref D) (some dd) oe) (hf : ∃ vs, oe.data = .fields vs) (hg : Gl X "isinstance" := by rfl) (hm : X.mg "isinstance" = none)
    (ha : EA ⟨X.suite q ((q, oe) :: pn), Er, Rx⟩ (e :: es) γ M [.ob q, s] M1) (hk : M1[kk]? = some (dd, .exd fs)) (hc : ClS s cv) (h : PySem.W.kitOne X.K (.ref D) cv = some b1)
    (he : starEach (e :: es) X.env = (false, eval e X.env) :: starEach es X.env := by rfl) (hpl : (backTo pos (starEach es X.env)).any (·.1) = false := by rfl) : EV ⟨X.suite q ((q, oe) :: pn), Er, Rx⟩ (.Call (.Name "isinstance" p) (e :: es) [] pos) γ M (.d (.bool b1)) M1 :=
  e_callB (call_isED C hcl hz hf) hg hm (by decide +kernel) ha (he := he) (hpl := hpl) (hr := ⟨fun F vs H Q hm' g qq => by
    obtain ⟨v, w, rfl, g1, g2⟩ := pair_two g
    cases g1
    obtain ⟨_, vs, hd, _⟩ := hm'.mo _ _ (List.mem_of_getElem? hk)
    exact ⟨w, cv, b1, vs, rfl, hd, fun u r => hc.rel g2 r, h, qq F _ H (Same.refl F) hm' (.bl _)⟩⟩)
theorem e_isETD (C : ExcC X.K D) (hcl : (PySem.W.clsIn X.K D).isSome = true) (hz : Zc (.ref D) (some dd) oe) (hf : ∃ vs, oe.data = .fields vs) (hg : Gl X "isinstance" := by rfl) (hm : X.mg "isinstance" = none)
    (h0 : EV ⟨X.suite q ((q, oe) :: pn), Er, Rx⟩ e γ M (.ob q) M1) (ha : EA ⟨X.suite q ((q, oe) :: pn), Er, Rx⟩ ces γ M1 ss M2) (hk : M2[kk]? = some (dd, .exd fs)) (hc : Paired ClS ss cvs) (h : PySem.W.kitAny X.K (.ref D) cvs = some b1) (hn : Nat.ble ss.length 100000 = true := by rfl)
    (he : starEach [e, .Tuple ces k tp] X.env = (false, eval e X.env) :: starEach [.Tuple ces k tp] X.env := by rfl) (he2 : starEach [.Tuple ces k tp] X.env = (false, eval (.Tuple ces k tp) X.env) :: starEach [] X.env := by rfl) (hpl : (backTo pos (starEach [.Tuple ces k tp] X.env)).any (·.1) = false := by rfl) :
    EV ⟨X.suite q ((q, oe) :: pn), Er, Rx⟩ (.Call (.Name "isinstance" p) [e, .Tuple ces k tp] [] pos) γ M (.d (.bool b1)) M2 :=
  ⟨PE.imp (pe_callB (X := X.suite q ((q, oe) :: pn)) (call_isETD C hcl hz hf) hg hm (by decide +kernel) (pa_cons h0.pe (pa_cons (pe_tup ha.pa) pa_nil he2) he) (by decide) (by decide) he hpl) fun σ H Q ⟨F, r, qq, ex⟩ => ⟨F, r, fun F1 v H1 e1 r1 v1 => ⟨F1, r1, fun F2 vs H2 e2 r2 v2 => by
    cases v1
    refine ⟨by rw [pair_len v2]; exact small hn, fun p hp => ?_⟩
    obtain ⟨e3, h3⟩ := r2.hm.newF hp (.tup vs)
    obtain ⟨_, us, hd, _⟩ := h3.mo _ _ (List.mem_of_getElem? hk)
    exact ⟨p, vs, cvs, b1, us, rfl, hd, upd_same, cls_pair v2 hc, h, qq _ _ _ ((e1.trans e2).trans e3) (r2.ext e3 h3) (.bl _)⟩, ex.mono e1⟩, ex⟩⟩
/-- e.f -/
theorem e_xf {C : Addr} (T : XfC X.K C) (hno : PySem.W.findIn X.K (.ref C) n = some none) (hz : Zc (.ref C) (some dd) oe) (hf : ∃ vs, oe.data = .fields vs) (he : EV ⟨X.suite q ((q, oe) :: pn), Er, Rx⟩ e γ M (.ob q) M1) (hk : M1[kk]? = some (dd, .exd fs)) (hl : fs.lookup n = some s)
    (hb : attributeBase e n X.env (eval e X.env) = eval e X.env := by rfl) : EV ⟨X.suite q ((q, oe) :: pn), Er, Rx⟩ (.Attribute e n pos) γ M s M1 :=
  ⟨PE.imp (pe_xf T hno hz hf he.pe hb) fun σ H Q ⟨F, r, qq, ex⟩ => ⟨F, r, fun F1 v H1 e1 r1 v1 => by
    cases v1
    obtain ⟨_, vs, hd, hp⟩ := r1.hm.mo _ _ (List.mem_of_getElem? hk)
    obtain ⟨u, hu, hs⟩ := fr_some hp hl
    exact ⟨rfl, rfl, dd, vs, u, rfl, hd, hu, qq F1 u H1 e1 r1 hs⟩, ex⟩⟩
end
end Mi

/-! Mi: a dict of the module whose keys are whole numbers. -/
namespace Mi
open PySem PySem.Spec PyProof.Rows L2
def IntsLit : List DictEntry → Prop
  | [] => True
  | e :: r => (∃ x t, e.key = .int x t ∧ e.hash = hashInt x) ∧ IntsLit r
theorem IntsLit.all : ∀ {l : List DictEntry}, IntsLit l → ∀ e ∈ l, ∃ x t, e.key = .int x t ∧ e.hash = hashInt x
  | _ :: _, ⟨h, _⟩, _, .head _ => h
  | _ :: _, ⟨_, r⟩, _, .tail _ m => r.all _ m
def intIn : List DictEntry → Int → Option Value
  | [], _ => none
  | e :: r, i => match Value.isInt i e.key with
    | true => some e.val
    | false => intIn r i
theorem find_int {es : Array DictEntry} {i : Int} : findBy Value.isInt es i = intIn es.toList i := by
  obtain ⟨l⟩ := es
  unfold findBy
  rw [List.find?_toArray]
  show _ = intIn l i
  induction l with
  | nil => rfl
  | cons e r ih =>
    rw [List.find?_cons, intIn]
    cases h : Value.isInt i e.key with
    | true => rfl
    | false => exact ih
structure KDictN (K : PySem.W.Frag) (d : Addr) (es : Array DictEntry) (n : Nat) : Prop where
  at_ : K.lookup d = some ⟨.type "dict", none, .dict es n, #[]⟩
  lit : IntsLit es.toList
def rIxN (K : PySem.W.Frag) : R2 := fun x y H Q => ∃ p z v es n u, x = .ref p ∧ y = .int z ∧ KDictN K p es n ∧ intIn es.toList z = some u ∧ RelV v u ∧ Q v H
theorem ix_kdictN {X : Cx} : IxR X (rIxN X.K) := by
  intro value slice pins s σ H x y v u Q I rx ry h hs
  obtain ⟨p, z, r, es, n, u0, rfl, rfl, D, e, ru, q⟩ := h
  obtain rfl : v = Value.ref p := rx
  obtain ⟨t, rfl⟩ := ry
  have hm : s.heap.MapOf (intKind X.prog X.w) p (fun k => findBy Value.isInt es k) := ⟨_, es, n, I.kIn _ _ D.at_, ⟨rfl, rfl, rfl⟩, rfl, fun e he => by
    obtain ⟨x, t, e1, e2⟩ := D.lit.all e (Array.mem_toList_iff.mpr he)
    exact ⟨x, by rw [e1]; exact intKind_is X.prog X.w x t, e2⟩, fun _ => rfl⟩
  exact tail_any hm.typeIs slot_dict_getitem.lookup (wpAny_getItem_of (intKind_is X.prog X.w z t) hm (find_int.trans e) ⟨r, H, I.tok _, ru, q⟩) hs
section
variable {Y : Ct} {γ : List S} {M M1 M2 : MM} {a o : Expr} {pos : Pos}
theorem rv_kdN {K : PySem.W.Frag} {C : Addr} {es : Array DictEntry} {n : Nat} {u : Value} {v : V} {d : PyData} {i : Int} (D : KDictN K C es n) (hz : intIn es.toList i = some u) (r : RelV v u) (hv : ∀ F, Dp K F v d) : RV K (rIxN K) (.ob C) (.d (.int i)) M (.d d) M :=
  ⟨fun F v1 w1 H Q hm h1 h2 q => by
    cases h2
    cases h1
    exact ⟨C, i, v, es, n, u, rfl, rfl, D, hz, r, q F v H (Same.refl F) hm (hv F)⟩⟩
/-- D[number], D a dict of the module -/
theorem e_ixKN {C : Addr} {es : Array DictEntry} {n : Nat} {u : Value} {v : V} {d : PyData} {i : Int} (D : KDictN Y.X.K C es n) (hz : intIn es.toList i = some u) (r : RelV v u) (hv : ∀ F, Dp Y.X.K F v d)
    (ho : EV Y o γ M (.ob C) M1) (ha : EV Y a γ M1 (.d (.int i)) M2) (hs : PlainIx a := by exact fun _ _ => rfl) : EV Y (.Subscript o a pos) γ M (.d d) M2 :=
  e_bin (f := fun _ _ => pure .none) (fun h1 h2 => pe_ix ix_kdictN h1 h2 hs) ho ha (rv_kdN D hz r hv)
end
/-! max of a tuple of whole numbers -/
theorem dps_ints_of {K : PySem.W.Frag} {H : Hp} : ∀ {vs : List V} {ns : List Int}, DpAll K H vs (ns.map PyData.int) → vs = ns.map V.int
  | _, [], h => by cases h; rfl
  | _, n :: ns, h => by
    cases h with
    | cons h1 h2 =>
      cases h1
      rw [dps_ints_of h2]
      rfl
def rMaxT (K : PySem.W.Frag) : List V → Hp → VK → Prop := fun vs H Q => ∃ (a : Addr) (n : Int) (ns : List Int), vs = [V.ref a] ∧ SqT K H a ((n :: ns).map V.int) ∧ Q (.int (maxDf 0 (n :: ns))) H
theorem cr_maxT {X : Cx} (hc : X.calm = true) (hu : X.A.units + 70 < cLine) : CallR X (.builtin "max") (rMaxT X.K) := by
  rintro pins s σ H xs us Q I r ⟨a, n, ns, rfl, hs, q⟩
  obtain ⟨its, rv, ht, _⟩ := I.tuple hs
  rw [Vals.ref1 r]
  have ht2 : s.heap.IsTuple a its.toArray := by
    obtain ⟨o, ho, hcl, nn, hd⟩ := ht
    exact ⟨o, ho, hcl, nn, hd⟩
  refine PySem.W.max_tuple_datum (α := Int) (x := n) (xs := ns) (I.ok.hd hc) ht2 (PySem.W.HoldAll.of_ints rv.ints) (by show X.A.units + 1 + 0 < cLine; omega) (fun i v h' tk hi hv hk => ?_)
  obtain ⟨as, hv⟩ := hv
  cases hv with
  | int _ t =>
    refine ⟨.int _, H, I.kept hk, ⟨t, rfl⟩, ?_⟩
    show Q (.int (PySem.W.maxOf n ns)) H
    rw [maxOf_int]
    exact q
section
variable {Y : Ct} {γ : List S} {M M1 : MM} {e : Expr} {es : List Expr} {pos p : Pos} {kk : Nat}
theorem e_maxT {n : Int} {ns : List Int} (hr : Room kk Y.X.A) (hc : Y.X.calm = true) (hg : Gl Y.X "max" := by rfl) (hm : Y.X.mg "max" = none) (ha : EA Y (e :: es) γ M [.d (.tuple ((n :: ns).map PyData.int))] M1)
    (he : starEach (e :: es) Y.X.env = (false, eval e Y.X.env) :: starEach es Y.X.env := by rfl) (hpl : (backTo pos (starEach es Y.X.env)).any (·.1) = false := by rfl) : EV Y (.Call (.Name "max" p) (e :: es) [] pos) γ M (.d (.int (maxDf 0 (n :: ns)))) M1 :=
  e_callB (cr_maxT hc (by have := hr.un; omega)) hg hm (by decide +kernel) ha (he := he) (hpl := hpl) (hr := ⟨fun F vs H Q hm h q => by
    obtain ⟨v, rfl, h1⟩ := pair_one h
    cases h1 with
    | tup g1 g2 =>
      rw [dps_ints_of g2] at g1
      exact ⟨_, n, ns, rfl, same_t hm.fh g1, q F _ H (Same.refl F) hm (.int _)⟩⟩)
end
end Mi

/-! Mi: i in range(a, b); d.get(text, x); text not in d; a written dict's missing texts. -/
namespace Mi
open PySem PySem.Spec PyProof.Rows L2
section
variable {Y : Ct} {γ γ' : List S} {M M1 M2 M3 : MM} {s s1 s2 s3 : S} {a b c o f : Expr} {pos p p2 apos : Pos} {i n m : Int} {k kk : Nat} {q : Addr} {kvs : List (Key × S)} {z : Str}
theorem e_inR2 (ha : EV Y a γ M (.d (.int i)) M1) (hb : EA Y [b, c] γ M1 [.d (.int n), .d (.int m)] M2) (hm : Y.X.mg "range" = none) (hg : Gl Y.X "range" := by rfl) (he : starEach [b, c] Y.X.env = (false, eval b Y.X.env) :: starEach [c] Y.X.env := by rfl) (hpl : (backTo p2 (starEach [c] Y.X.env)).any (·.1) = false := by rfl) (hmk : behindInMarks .In (.Call (.Name "range" p) [b, c] [] p2) = false := by with_unfolding_all rfl) :
    EV Y (.Compare a [.In] [.Call (.Name "range" p) [b, c] [] p2] pos) γ M (.d (.bool (decide (n ≤ i ∧ i < m)))) M2 :=
  ⟨PE.imp (pe_cmpR op_in_rng ha.pe (pe_callTy cr_range2 hg hm (by decide +kernel) hb.pa (by decide) (by decide) he hpl) hmk) fun σ H Q ⟨F, rl, q, ex⟩ => ⟨F, rl, fun F1 v H1 e1 r1 v1 => ⟨F1, r1, fun F2 vs H2 e2 r2 v2 => by
    cases v1
    obtain ⟨w, w', rfl, w1, w2⟩ := pair_two v2
    cases w1
    cases w2
    refine ⟨n, m, rfl, fun l hl => ⟨i, l, n, m, rfl, rfl, upd_same, ?_⟩⟩
    obtain ⟨e3, h3⟩ := r2.hm.newF hl (.rng n m)
    exact q _ _ _ ((e1.trans e2).trans e3) (r2.ext e3 h3) (.bl _), ex.mono e1⟩, ex⟩⟩
/-- d.get(text, x) -/
theorem e_dget2 (hr : Room kk Y.X.A) (ho : EV Y o γ M (.ob q) M1) (ha : EV Y a γ M1 (.d (.str z)) M2) (hf : EV Y f γ M2 s M3) (hk : M3[k]? = some (q, .dct kvs)) (hq : ∃ n : Nat, M1[n]? = some (q, .dct kvs)) {r : S} (hz : (valS kvs (.inr z)).getD s = r) (m : L2.M2 Y.X o "get" apos a f pos) : EV Y (.Call (.Attribute o "get" apos) [a, f] [] pos) γ M r M3 :=
  ⟨PE.imp (pe_dget2 (by have := hr.un; omega) ho.pe ha.pe hf.pe m) fun σ H Q ⟨F, r, qq, ex⟩ => ⟨F, r, fun F1 v1 H1 e1 r1 sv1 => by
    cases sv1
    obtain ⟨n, hn⟩ := hq
    obtain ⟨_, vs0, g01, _⟩ := r1.hm.mo _ _ (List.mem_of_getElem? hn)
    refine ⟨q, rfl, .inl ⟨vs0, .inl g01⟩, F1, r1, fun F2 v2 H2 e2 r2 sv2 => ⟨F2, r2, fun F3 v3 H3 e3 r3 sv3 => ?_, (ex.mono e1).mono e2⟩, ex.mono e1⟩
    cases sv2
    obtain ⟨_, vs, g1, g2⟩ := r3.hm.mo _ _ (List.mem_of_getElem? hk)
    refine ⟨_, DGet.k (k := .inr z) g1, ?_⟩
    obtain ⟨k1, k2⟩ := kr_val (k := .inr z) g2
    subst hz
    refine qq F3 _ H3 ((e1.trans e2).trans e3) r3 ?_
    cases h : valS kvs (.inr z) with
    | none => rw [k2 h]; exact sv3
    | some s' => obtain ⟨v, h1, h2⟩ := k1 s' h; rw [h1]; exact h2, ex⟩⟩
end
/-! texts that are no key of a written dict -/
def keysS : List DictEntry → List Str
  | [] => []
  | e :: r => match e.key with
    | .str x _ => x :: keysS r
    | _ => keysS r
theorem ns_none {K : PySem.W.Frag} {w : World} {C : Addr} {es : Array DictEntry} {n : Nat} {ks : List Str} {z : Str} (D : KDict K w C es n) (hk : keysS es.toList = ks) (hz : z ∉ ks) : PySem.W.nsIn K C z = some none := by
  have hl := D.lit
  unfold PySem.W.nsIn
  rw [D.at_]
  simp only []
  generalize es.toList = l at hl hk
  have h1 : l.find? (·.key.isStr z) = none := by
    subst hk
    induction l with
    | nil => rfl
    | cons e r ih =>
      obtain ⟨⟨x, t, e1, _⟩, hr⟩ := hl
      have e2 : keysS (e :: r) = x :: keysS r := by rw [keysS, e1]
      rw [e2, List.mem_cons, not_or] at hz
      rw [List.find?_cons, e1]
      have e3 : (Value.str x t).isStr z = false := by
        cases h : (Value.str x t).isStr z with
        | false => rfl
        | true => exact absurd (by simpa [Value.isStr] using h : x = z).symm hz.1
      rw [e3]
      exact ih hr hz.2
  have h2 : l.any (·.refKey) = false := by
    clear hk h1
    induction l with
    | nil => rfl
    | cons e r ih =>
      obtain ⟨⟨x, t, e1, _⟩, hr⟩ := hl
      rw [List.any_cons, ih hr, Bool.or_false]
      unfold DictEntry.refKey
      rw [e1]
  rw [h1, h2]
  rfl
end Mi

/-! Mi: texts. -/
namespace Mi
open PySem PySem.Spec PyProof.Rows L2
/-- one sign -/
def sgn (c : Nat) : PyData := .str ⟨#[c]⟩
theorem walks_s {K : PySem.W.Frag} {F1 : Hp} (z : Str) : Walks K (Its z) F1 ((z.cps.toList.map sgn).map S.d) (fun _ => True) := by
  have hl : ((z.cps.toList.map sgn).map S.d).length = z.cps.size := by rw [List.length_map, List.length_map, Array.length_toList]
  refine ⟨fun i H' F' M' e hm _ hi => by rw [hl] at hi; exact hi, fun i H' v H'' x F' γ' M' σ' hx e r _ y => ?_, fun i H' F' M' e hm _ hi => by rw [hl] at hi; exact hi⟩
  obtain ⟨rfl, c, hc, rfl⟩ := y
  rw [List.getElem?_map, List.getElem?_map, Array.getElem?_toList, hc] at hx
  cases hx
  exact ⟨F', Same.refl F', r, .str _⟩
section
variable {X : Cx}
/-- text * 0 or 1 -/
theorem op_mulS : OpR X (binaryOp .Mult) (fun x y H Q => ∃ (z : Str) (b : Bool), x = V.str z ∧ y = V.int (if b then 1 else 0) ∧ Q (.str (if b then z else Str.empty)) H) := by
  intro pins s σ H x y v u Q I rx ry h
  obtain ⟨z, b, rfl, rfl, q⟩ := h
  obtain ⟨t, rfl⟩ := rx
  obtain ⟨t', rfl⟩ := ry
  cases b with
  | false => exact PySem.P.mul_str_none (by decide) (by decide) ⟨.str Str.empty, H, I.tok _, ⟨_, rfl⟩, q⟩
  | true =>
    refine PySem.P.mul_str (by decide) (fun _ h => by cases h) (fun _ h => by cases h) ?_
    rw [if_neg (by decide), if_pos rfl]
    exact ⟨.str z, H, I, ⟨t, rfl⟩, q⟩
end
section
variable {Y : Ct} {γ : List S} {M M1 M2 : MM} {e o a b : Expr} {es : List Expr} {pos apos p p2 : Pos} {i : Int} {z y : Str}
theorem i_str {tg it : Expr} (h : EV Y it γ M (.d (.str z)) M1) : EI Y tg it γ M ((z.cps.toList.map sgn).map S.d) (fun _ => True) M1 :=
  ⟨_, pi_str h.pe, fun F σ H R r ex k => ⟨F, r, fun F1 v H1 e1 r1 v1 => by
    cases v1
    exact ⟨z, rfl, k F1 H1 _ e1 r1 (walks_s z)⟩, ex⟩⟩
/-- str(number) -/
theorem e_strI (hg : Gl Y.X "str" := by rfl) (hm : Y.X.mg "str" = none) (ha : EA Y (e :: es) γ M [.d (.int i)] M1) (hl : i.natAbs.log2 < 1920)
    (he : starEach (e :: es) Y.X.env = (false, eval e Y.X.env) :: starEach es Y.X.env := by rfl) (hpl : (backTo pos (starEach es Y.X.env)).any (·.1) = false := by rfl) : EV Y (.Call (.Name "str" p) (e :: es) [] pos) γ M (.d (.str (Str.ofString (toString i)))) M1 :=
  e_callTy call_str_int hg hm (by decide +kernel) ha (he := he) (hpl := hpl) (hr := ⟨fun F vs H Q hm h q => by
    obtain ⟨v, rfl, h1⟩ := pair_one h
    cases h1
    exact ⟨i, rfl, hl, q F _ H (Same.refl F) hm (.str _)⟩⟩)
/-- int(text) -/
theorem e_intS {n : Int} (hg : Gl Y.X "int" := by rfl) (hm : Y.X.mg "int" = none) (ha : EA Y (e :: es) γ M [.d (.str z)] M1) (hn : PySem.intText? z = some n) (hl : z.length ≤ 640)
    (he : starEach (e :: es) Y.X.env = (false, eval e Y.X.env) :: starEach es Y.X.env := by rfl) (hpl : (backTo pos (starEach es Y.X.env)).any (·.1) = false := by rfl) : EV Y (.Call (.Name "int" p) (e :: es) [] pos) γ M (.d (.int n)) M1 :=
  e_callTy call_int_str hg hm (by decide +kernel) ha (he := he) (hpl := hpl) (hr := ⟨fun F vs H Q hm h q => by
    obtain ⟨v, rfl, h1⟩ := pair_one h
    cases h1
    exact ⟨z, n, rfl, hn, hl, q F _ H (Same.refl F) hm (.int _)⟩⟩)
/-- text + text -/
theorem e_catS (ha : EV Y a γ M (.d (.str z)) M1) (hb : EV Y b γ M1 (.d (.str y)) M2) (hl : z.length + y.length ≤ 100000) : EV Y (.BinOp a .Add b pos) γ M (.d (.str (z ++ y))) M2 :=
  e_op op_add_str ha hb ⟨fun F v w H Q hm h1 h2 q => by cases h1; cases h2; exact ⟨z, y, rfl, rfl, Nat.le_trans hl (by decide), q F _ H (Same.refl F) hm (.str _)⟩⟩
/-- text * int(truth) -/
theorem e_mulS {c : Bool} (ha : EV Y a γ M (.d (.str z)) M1) (hb : EV Y b γ M1 (.d (.int (if c then 1 else 0))) M2) : EV Y (.BinOp a .Mult b pos) γ M (.d (.str (if c then z else Str.empty))) M2 :=
  e_op op_mulS ha hb ⟨fun F v w H Q hm h1 h2 q => by cases h1; cases h2; exact ⟨z, c, rfl, rfl, q F _ H (Same.refl F) hm (.str _)⟩⟩
/-- a sign in a text -/
theorem rv_inS {K : PySem.W.Frag} {c : Nat} : RV K (fun x y H Q => ∃ (c : Nat) (z : Str), x = .str ⟨#[c]⟩ ∧ y = .str z ∧ Q (.bl (decide (c ∈ z.cps.toList))) H) (.d (sgn c)) (.d (.str z)) M (.d (.bool (decide (c ∈ z.cps.toList)))) M :=
  ⟨fun F v w H Q hm h1 h2 q => by cases h1; cases h2; exact ⟨c, z, rfl, rfl, q F _ H (Same.refl F) hm (.bl _)⟩⟩
theorem e_inS {c : Nat} (ha : EV Y a γ M (.d (sgn c)) M1) (hb : EV Y b γ M1 (.d (.str z)) M2) (hmk : behindInMarks .In b = false := by with_unfolding_all rfl) : EV Y (.Compare a [.In] [b] pos) γ M (.d (.bool (decide (c ∈ z.cps.toList)))) M2 :=
  e_bin (f := fun _ _ => pure .none) (fun h1 h2 => pe_cmpR op_in_sign h1 h2 hmk) ha hb rv_inS
/-- text[lo:hi] -/
theorem e_sliceS {lo hi : Option Expr} {l h : Option Int} (ha : EV Y a γ M (.d (.str z)) M1) (h1 : EO Y lo γ M1 l) (h2 : EO Y hi γ M1 h) (hz : z.length ≤ 100000) : EV Y (.Subscript a (.Slice lo hi none p2) pos) γ M (.d (.str (cutS z l h))) M1 := by
  obtain ⟨tl, pl, ql⟩ := h1.ex
  obtain ⟨th, ph, qh⟩ := h2.ex
  refine ⟨PE.imp (pe_slice sl_str ha.pe pl ph) fun σ H Q ⟨F, r, q, ex⟩ => ⟨F, r, fun F1 v H1 e1 r1 w1 => ql F1 σ H1 _ r1 (ex.mono e1) fun F2 H2 e2 r2 => qh F2 σ H2 _ r2 (ex.mono (e1.trans e2)) fun F3 H3 e3 r3 => ?_, ex⟩⟩
  cases w1
  exact ⟨z, rfl, Nat.le_trans hz (by decide), q F3 _ H3 ((e1.trans e2).trans e3) r3 (.str _)⟩
/-- text[i] -/
theorem e_ixS {c : Nat} (ha : EV Y a γ M (.d (.str z)) M1) (hb : EV Y b γ M1 (.d (.int i)) M2) (h : atI z.cps.toList i = some c) (hz : z.length ≤ 100000) (hs : PlainIx b := by exact fun _ _ => rfl) : EV Y (.Subscript a b pos) γ M (.d (sgn c)) M2 :=
  e_bin (f := fun _ _ => pure .none) (fun h1 h2 => pe_ix ix_str h1 h2 hs) ha hb ⟨fun F v w H Q hm h1 h2 q => by cases h1; cases h2; exact ⟨z, i, c, rfl, rfl, Nat.le_trans hz (by decide), h, q F _ H (Same.refl F) hm (.str _)⟩⟩
theorem dps_strs {K : PySem.W.Frag} {H : Hp} : ∀ ys : List Str, DpAll K H (ys.map V.str) (ys.map PyData.str)
  | [] => .nil
  | y :: ys => .cons (.str y) (dps_strs ys)
theorem dps_strs_of {K : PySem.W.Frag} {H : Hp} : ∀ {vs : List V} {ys : List Str}, DpAll K H vs (ys.map PyData.str) → vs = ys.map V.str
  | _, [], h => by cases h; rfl
  | _, y :: ys, h => by
    cases h with
    | cons h1 h2 =>
      cases h1
      rw [dps_strs_of h2]
      rfl
/-- text.split(sep) -/
theorem e_split (ho : EV Y o γ M (.d (.str z)) M1) (he : EV Y e γ M1 (.d (.str y)) M2) (hy : (y.length == 0) = false) (hz : z.length ≤ 100000)
    (hs : starEach [e] Y.X.env = [(false, eval e Y.X.env)] := by rfl) (hbase : attributeBase o "split" Y.X.env (eval o Y.X.env) = eval o Y.X.env := by rfl) (hline : (apos.endLine == pos.line) = true := by rfl) :
    EV Y (.Call (.Attribute o "split" apos) [e] [] pos) γ M (.d (.list ((Txt.split z y).map PyData.str))) M2 :=
  ⟨PE.imp (pe_split ho.pe he.pe hs hbase hline) fun σ H Q ⟨F, r, q, ex⟩ => ⟨F, r, fun F1 v H1 e1 r1 v1 => by
    cases v1
    refine ⟨⟨z, rfl⟩, F1, r1, fun F2 w H2 e2 r2 w2 => ?_, ex.mono e1⟩
    cases w2
    refine ⟨z, y, rfl, rfl, hy, Nat.le_trans (Nat.add_le_add_right hz 2) (by decide), fun p hp => ?_⟩
    obtain ⟨e3, h3⟩ := r2.hm.newF hp (.lst ((Txt.split z y).map V.str))
    exact q _ _ _ ((e1.trans e2).trans e3) (r2.ext e3 h3) (.lst (.inl (.inl upd_same)) (dps_strs _)), ex⟩⟩
/-- text.partition(sep) -/
theorem e_part (ho : EV Y o γ M (.d (.str z)) M1) (he : EV Y e γ M1 (.d (.str y)) M2) (hy : (y.length == 0) = false) (hz : z.length ≤ 100000)
    (hs : starEach [e] Y.X.env = [(false, eval e Y.X.env)] := by rfl) (hbase : attributeBase o "partition" Y.X.env (eval o Y.X.env) = eval o Y.X.env := by rfl) (hline : (apos.endLine == pos.line) = true := by rfl) :
    EV Y (.Call (.Attribute o "partition" apos) [e] [] pos) γ M (.d (.tuple [.str (Txt.partition z y).1, .str (Txt.partition z y).2.1, .str (Txt.partition z y).2.2])) M2 :=
  ⟨PE.imp (pe_partition ho.pe he.pe hs hbase hline) fun σ H Q ⟨F, r, q, ex⟩ => ⟨F, r, fun F1 v H1 e1 r1 v1 => by
    cases v1
    refine ⟨⟨z, rfl⟩, F1, r1, fun F2 w H2 e2 r2 w2 => ?_, ex.mono e1⟩
    cases w2
    refine ⟨z, y, rfl, rfl, hy, Nat.le_trans hz (by decide), fun p hp => ?_⟩
    obtain ⟨e3, h3⟩ := r2.hm.newF hp (.tup [.str (Txt.partition z y).1, .str (Txt.partition z y).2.1, .str (Txt.partition z y).2.2])
    exact q _ _ _ ((e1.trans e2).trans e3) (r2.ext e3 h3) (.tup (.inl (.inl upd_same)) (dps_strs [(Txt.partition z y).1, (Txt.partition z y).2.1, (Txt.partition z y).2.2])), ex⟩⟩
theorem strs_pair {K : PySem.W.Frag} {F : Hp} : ∀ {vs : List V} {ys : List Str}, Paired (SR K F) vs (ys.map fun y => S.d (.str y)) → vs = ys.map V.str
  | _, [], h => by cases h; rfl
  | _, y :: ys, h => by
    cases h with
    | cons h1 h2 =>
      cases h1
      rw [strs_pair h2]
      rfl
/-- sep.join(list) -/
theorem e_join {ys : List Str} {s : S} (ho : EV Y o γ M (.d (.str y)) M1) (he : EV Y e γ M1 s M2) (hv : VL M2 s (ys.map fun y => S.d (.str y))) (hz : (ys.map (·.length)).sum + ys.length * y.length ≤ 16777216)
    (hs : starEach [e] Y.X.env = [(false, eval e Y.X.env)] := by rfl) (hbase : attributeBase o "join" Y.X.env (eval o Y.X.env) = eval o Y.X.env := by rfl) (hline : (apos.endLine == pos.line) = true := by rfl) :
    EV Y (.Call (.Attribute o "join" apos) [e] [] pos) γ M (.d (.str (Str.join y ys))) M2 :=
  ⟨PE.imp (pe_join ho.pe he.pe hs hbase hline) fun σ H Q ⟨F, r, q, ex⟩ => ⟨F, r, fun F1 v H1 e1 r1 v1 => by
    cases v1
    refine ⟨⟨y, rfl⟩, F1, r1, fun F2 w H2 e2 r2 w2 => ?_, ex.mono e1⟩
    obtain ⟨a, vs, rfl, g1, g2⟩ := hv.ok r2.hm w2
    rw [strs_pair g2] at g1
    refine ⟨y, a, ys, rfl, rfl, .inl g1, hz, ?_⟩
    rw [TL.join_eq]
    exact q F2 _ H2 (e1.trans e2) r2 (.str _), ex⟩⟩
end
end Mi

/-! Mi: str(text), list.count(data). -/
namespace Mi
open PySem PySem.Spec PyProof.Rows L2
section
variable {X : Cx}
def rCountD (K : PySem.W.Frag) : V → List V → Hp → VK → Prop := fun x xs H Q => ∃ (a : Addr) (y : V) (d : PyData) (ds : List PyData), x = V.ref a ∧ xs = [y] ∧ Dp K H (V.ref a) (.list ds) ∧ Dp K H y d ∧
  SeqAt.shaped (.list ds) = true ∧ SeqAt.shaped d = true ∧ Q (.int ((ds.countP fun z => PyData.eqv z d : Nat) : Int)) H
theorem mt_countD (hu : X.A.units + 65 < cLine) : MtR X "list.count" (rCountD X.K) := by
  intro pins s σ H x xs v us Q I rx rxs h
  obtain ⟨a, y, d, ds, rfl, rfl, hl, hy, sl, sd, q⟩ := h
  cases rx
  cases rxs with
  | cons ry rt =>
    rename_i uy ut
    cases rt
    obtain ⟨bs, r1⟩ := Dp.reads I d y uy hy ry
    have hxs : PyData.canLayAll0 ds = true := SeqAt.canLay_of_shaped sl
    have hroom : X.A.units + 1 + min (PyData.depthAll ds) d.depth < cLine := room_in_shaped sd hu
    cases hl with
    | lst hs ha =>
      obtain ⟨its, rv, ⟨⟨cls, dd, data, sls⟩, n, ho, hc, hdn, hdt⟩, hlen⟩ := I.list hs
      simp only at hc hdt
      subst hc hdt
      obtain ⟨as, h4⟩ := Dp.readsAll I ds _ its ha rv
      have hmap : its.map (SeqAt.readOf s.heap) = ds := SeqAt.readsAll_map ds its as hxs h4
      refine call_meets PySem.F.slot_list_count ⟨_, ho, rfl⟩ PySem.F.entry_list_count (PySem.F.args_list_count_2 _ _)
        (SeqAt.list_countAt a its.toArray n dd sls uy (fun u => PyData.eqv (SeqAt.readOf s.heap u) d)) ⟨ho, SeqAt.items_eqAt (vs := its.toArray) (show ReadsAll s.heap its.toArray.toList ds as from h4) r1 hxs (SeqAt.canLay_of_shaped sd) hroom, ?_⟩
      have ec : its.toArray.toList.countP (fun u => PyData.eqv (SeqAt.readOf s.heap u) d) = ds.countP fun z => PyData.eqv z d := by
        rw [← hmap, List.countP_map]
        rfl
      refine ⟨.int ((ds.countP fun z => PyData.eqv z d : Nat) : Int), H, I.tok _, ⟨s.toks, ?_⟩, q⟩
      show Value.int ((its.toArray.toList.countP (fun u => PyData.eqv (SeqAt.readOf s.heap u) d) : Nat) : Int) s.toks = _
      rw [ec]
end
/-- str(text) -/
theorem e_strS {Y : Ct} {γ : List S} {M M1 : MM} {e : Expr} {es : List Expr} {p pos : Pos} {z : Str} (hg : Gl Y.X "str" := by rfl) (hm : Y.X.mg "str" = none) (ha : EA Y (e :: es) γ M [.d (.str z)] M1)
    (he : starEach (e :: es) Y.X.env = (false, eval e Y.X.env) :: starEach es Y.X.env := by rfl) (hpl : (backTo pos (starEach es Y.X.env)).any (·.1) = false := by rfl) : EV Y (.Call (.Name "str" p) (e :: es) [] pos) γ M (.d (.str z)) M1 :=
  e_callTy SkE.call_str_str hg hm (by decide +kernel) ha (he := he) (hpl := hpl) (hr := ⟨fun F vs H Q hm h q => by
    obtain ⟨v, rfl, h1⟩ := pair_one h
    cases h1
    exact ⟨z, rfl, q F _ H (Same.refl F) hm (.str _)⟩⟩)
section
variable {Y : Ct} {γ : List S} {M M1 M2 : MM} {s1 s2 : S} {o e : Expr} {pos : Pos}
/-- l.count(x): data -/
theorem e_countD {n : Nat} (hu : Y.X.A.units + 65 < cLine) {d : PyData} {ds : List PyData} {apos : Pos} (ho : EV Y o γ M (.d (.list ds)) M1) (he : EA Y [e] γ M1 [.d d] M2) (h1 : SeqAt.shaped (.list ds) = true) (h2 : SeqAt.shaped d = true) (hn : (ds.countP fun z => PyData.eqv z d) = n)
    (hbase : attributeBase o "count" Y.X.env (eval o Y.X.env) = eval o Y.X.env := by rfl)
    (hfew : ((backTo pos (starEach [e] Y.X.env)).all (fun x => !x.1) && (backToKw pos (keywordEach [] Y.X.env)).all (fun x => x.1.isSome)
      && decide ([e].length + ([] : List Keyword).length + (if ([] : List Keyword).isEmpty then 0 else 1) < 30)) = true := by rfl)
    (hline : (apos.endLine == pos.line) = true := by rfl) (hs : starEach [e] Y.X.env = (false, eval e Y.X.env) :: starEach [] Y.X.env := by rfl) (hplain : (backTo pos (starEach [] Y.X.env)).any (·.1) = false := by rfl) :
    EV Y (.Call (.Attribute o "count" apos) [e] [] pos) γ M (.d (.int (n : Int))) M2 :=
  ⟨PE.imp (pe_bm PySem.F.plainAttrs_list PySem.F.slot_list_count PySem.F.type_list_count (mt_countD hu) ho.pe he.pa hbase hfew hline hs hplain) fun σ H Q ⟨F, r, qq, ex⟩ => ⟨F, r, fun F1 v H1 e1 r1 v1 => by
    have v1' := v1
    cases v1 with
    | lst hs1 ha1 =>
    refine ⟨Or.inl ⟨rfl, _, r1.hm.fh.seq hs1⟩, F1, r1, fun F2 vs H2 e2 r2 v2 => ?_, ex.mono e1⟩
    obtain ⟨v, rfl, sv⟩ := pair_one v2
    refine ⟨_, _, d, ds, rfl, rfl, ?_, ?_, h1, h2, ?_⟩
    · exact (Vw.d (M := M2)).ok r2.hm ((SR.mono e2 v1' : SR Y.X.K F2 _ (.d (.list ds))))
    · exact (Vw.d (M := M2)).ok r2.hm sv
    · exact hn ▸ qq F2 _ H2 (e1.trans e2) r2 (.int _), ex⟩⟩
end
end Mi

/-! Mi: try with several except clauses, each with or without a name. -/
namespace Mi
open PySem PySem.Spec PyProof.Rows L2
/-- an except clause: its class, its name's slot, its suite -/
structure Hd where
  c : Value
  i : Option Nat
  b : List Stmt
inductive HdV (X : Cx) : ExceptHandler → Hd → Prop
  | o {x : Str} {c : Value} {b₀ : Stmt} {bs : List Stmt} {np hp : Pos} (hc : Names X x c) : HdV X (.ExceptHandler (some (.Name x np)) none (b₀ :: bs) hp) ⟨c, none, b₀ :: bs⟩
  | n {x m : Str} {c : Value} {i : Nat} {b₀ : Stmt} {bs : List Stmt} {np hp : Pos} (hc : Names X x c) (hi : X.N[i]? = some m) (hl : X.env.kindOf m = some .local) : HdV X (.ExceptHandler (some (.Name x np)) (some m) (b₀ :: bs) hp) ⟨c, some i, b₀ :: bs⟩
inductive HdsV (X : Cx) : List ExceptHandler → List Hd → Prop
  | nil : HdsV X [] []
  | cons {h : ExceptHandler} {q : Hd} {hs : List ExceptHandler} {qs : List Hd} (a : HdV X h q) (b : HdsV X hs qs) : HdsV X (h :: hs) (q :: qs)
def stOf (i : Option Nat) (a : Addr) (σ : L2.St) : L2.St := match i with
  | none => σ
  | some j => σ.set j (some (.ref a))
def endOf (i : Option Nat) (D : Ends) : Ends := match i with
  | none => D
  | some j => ⟨fun σ H => D.nx (σ.set j none) H, D.rt, fun σ H => D.bk (σ.set j none) H, fun σ H => D.ct (σ.set j none) H⟩
/-- what the clauses ask of an error that comes -/
def wMix (K : PySem.W.Frag) (ts : Hd → Addr → Value → Option Addr → TS) (W : WX) (D : Ends) : List Hd → WX
  | [] => W
  | q :: qs => fun cls d σ H => ∃ b, PySem.W.exmOne K cls q.c = some b ∧ (b = true → ∀ a, H a = none → ts q a cls d (endOf q.i D) (stOf q.i a σ) H) ∧ (b = false → wMix K ts W D qs cls d σ H)
/-- an error that has come to the clauses -/
structure Fly (X : Cx) (pins : List (Addr × Obj)) (a : Addr) (B : Heap) (sI : Shared) (σ : L2.St) (H : Hp) (cls : Value) (d : Option Addr) (s : Shared) : Prop where
  J : Inv X pins σ H sI
  nb : ∀ b o, sI.heap.get? b = some o → b ∉ frs X.stack → B.get? b = some o
  up : sI.heap.UpToSlots s.heap
  os : s.os = sI.os
  ag : AllBare s.gens
  na : H a = none
  nL : a ≠ X.env.locals
  nF : a ∉ X.fs
  fl : HandSPX.FlyingZ B (X.env :: X.outer) a (Zc cls d) s.heap
section
variable {X : Cx} {pins : List (Addr × Obj)} {a : Addr} {B : Heap} {sI s : Shared} {σ : L2.St} {H : Hp} {cls : Value} {d : Option Addr} {D : Ends} {W : WX} {ts : Hd → Addr → Value → Option Addr → TS}
theorem Fly.inv (f : Fly X pins a B sI σ H cls d s) : Inv X pins σ H s := f.J.landed f.nb f.fl.1 f.up f.os f.ag
theorem Fly.to (f : Fly X pins a B sI σ H cls d s) {h : Heap} (e : HandSPX.FlyingZ B (X.env :: X.outer) a (Zc cls d) h) (u : s.heap.UpToSlots h) : Fly X pins a B sI σ H cls d { s with heap := h } :=
  ⟨f.J, f.nb, f.up.trans u, f.os, f.ag, f.na, f.nL, f.nF, e⟩
theorem Fly.there (f : Fly X pins a B sI σ H cls d s) : ∃ oe, s.heap.get? a = some oe ∧ Zc cls d oe ∧ (∃ vs, oe.data = .fields vs) ∧ Inv (X.suite a ((a, oe) :: (X.pn ++ pins))) [] σ H s := by
  obtain ⟨oe, vs, h1, h2, h3⟩ := f.fl.there
  exact ⟨oe, h1, h2, ⟨vs, h3⟩, f.inv.suite h1 h3 f.na f.nL f.nF⟩
/-- no clause takes it -/
theorem fly_out (f : Fly X pins a B sI σ H cls d s) (hs : X.stack = X.env :: X.outer) (hf : X.env.frame = some X.env.locals) (tk : Takes X W) (w : W cls d σ H) :
    wpAny (model X.prog X.w) X.A (handleBy (.ref a) X.env []) (SP X pins D) X.xe s := by
  have go : wpAny (model X.prog X.w) X.A (setFlight (.ref a) X.env.frame) (fun _ s2 => wpAny (model X.prog X.w) X.A (throw (.ref a) : Sem Flow) (SP X pins D) X.xe s2) X.xe s := by
    rw [hf]
    refine HandSPX.setFlight_upZ f.fl fun h2 held u2 => wpAny_throw (tk _ _ ?_)
    refine ⟨a, B, sI, pins, σ, H, cls, d, rfl, f.J, f.nb, f.up.trans u2, .inr (.inr ?_), f.na, f.os, f.ag, w⟩
    rw [hs]
    exact held
  obtain ⟨_, _, _, oe, vs, c, oc, tb, i1, _, i3, i4, _⟩ := id f.fl
  refine wpAny_handleBy_nil ?_
  unfold PySem.passOn
  refine wpAny_bind (wpAny_field i1 i3 i4 ?_)
  have ne : ¬ ((Value.ref c == Value.none) = true) := by simp
  rw [if_neg ne]
  first
    | exact wpAny_bind (wpAny_pure (wpAny_bind go))
    | exact wpAny_bind go
/-- the clauses in their order -/
theorem fly_go (hs : X.stack = X.env :: X.outer) (hf : X.env.frame = some X.env.locals) (hN : X.N.Nodup) (tk : Takes X W)
    (hsu : ∀ (q : Hd) (a : Addr) (oe : Obj) (cls : Value) (d : Option Addr) (pn : List (Addr × Obj)), Zc cls d oe → (∃ vs, oe.data = .fields vs) → PSs (X.suite a ((a, oe) :: pn)) q.b (ts q a cls d)) :
    ∀ {hds : List ExceptHandler} {qs : List Hd}, HdsV X hds qs → Fly X pins a B sI σ H cls d s → wMix X.K ts W D qs cls d σ H → wpAny (model X.prog X.w) X.A (handleBy (.ref a) X.env hds) (SP X pins D) X.xe s := by
  intro hds qs hk
  induction hk with
  | nil => exact fun f w => fly_out f hs hf tk w
  | @cons h q hds2 qs2 hv hr ih =>
    intro f ⟨b, e1, yes, no⟩
    have ok := f.J.ok
    obtain ⟨oe, o1, o2, o3, S1⟩ := f.there
    have LM := PySem.W.exm_one (M := model X.prog X.w) f.inv.kIn (show PySem.W.Looks (model X.prog X.w) s.heap (typeOf (.ref a)) cls from fun A Q E s' k z => wpAny_typeOf_ref (k _ _ o1) (by rw [o2.1]; exact z)) e1
    have ask : ∀ {x : Str} {np : Pos} {Q : Value → Shared → Prop} {E : Value → Shared → Prop}, Names X x q.c → Q q.c s → wpAny (model X.prog X.w) (X.A.mark (some (.ref a))) (eval (.Name x np) X.env) Q E s := fun {x np Q E} hn z => by
      rcases hn with ⟨n1, n2, n3 | ⟨n3, n4, n5⟩⟩
      · exact ld_glob (X := X.suite a ((a, oe) :: (X.pn ++ pins))) S1 n1 n3 z n2
      · exact ld_blt (X := X.suite a ((a, oe) :: (X.pn ++ pins))) S1 n1 n3 n4 z n5 n2
    cases hv with
    | o hc =>
      refine wpAny_handleBy_cons (codeAny_handlers_test (ask hc (LM.here ?_))) (fun z => nomatch z)
      cases b with
      | false => exact ih f (no rfl)
      | true =>
        refine codeAny_handlers_suite (HandSPX.lands_againZ f.fl fun h2 fl2 u2 => ?_)
        obtain ⟨oe2, _, z2, f2, S2⟩ := (f.to fl2 u2).there
        refine wpAny_mono ((hsu ⟨_, none, _⟩ a oe2 cls d (X.pn ++ pins) z2 f2).run [] _ _ H _ S2 (yes rfl a f.na)) (fun fw s3 r3 => ?_) (fun _ _ z => z.elim)
        cases fw with
        | next => obtain ⟨σ3, H3, I3, r4⟩ := r3; exact ⟨σ3, H3, I3.unsuite ok, r4⟩
        | brk => obtain ⟨σ3, H3, I3, r4⟩ := r3; exact ⟨σ3, H3, I3.unsuite ok, r4⟩
        | cont => obtain ⟨σ3, H3, I3, r4⟩ := r3; exact ⟨σ3, H3, I3.unsuite ok, r4⟩
        | ret u => obtain ⟨v3, σ3, H3, I3, r4, r5⟩ := r3; exact ⟨v3, σ3, H3, I3.unsuite ok, r4, r5⟩
    | @n x m c i b₀ bs np hp hc hi hl =>
      refine wpAny_handleBy_cons (codeAny_handlers_test (ask hc (LM.here ?_))) (fun z => nomatch z)
      cases b with
      | false => exact ih f (no rfl)
      | true =>
        refine codeAny_handlers_suite_as (HandSPX.lands_againZ f.fl fun h2 fl2 u2 => ?_)
        obtain ⟨oe2, _, z2, f2, S2⟩ := (f.to fl2 u2).there
        refine store_ok (X := X.suite a ((a, oe2) :: (X.pn ++ pins))) (v := .ref a) S2 hN hi (.inl hl) rfl (fun s3 S3 => ?_) (.inr hl)
        refine wpAny_mono ((hsu ⟨c, some i, b₀ :: bs⟩ a oe2 cls d (X.pn ++ pins) z2 f2).run [] s3 _ H _ S3 (yes rfl a f.na)) (fun fw s4 r3 => ?_) (fun _ _ z => z.elim)
        have bye : ∀ {σ4 : L2.St} {H4 : Hp} {Q : Shared → Prop}, Inv (X.suite a ((a, oe2) :: (X.pn ++ pins))) [] σ4 H4 s4 → (∀ s5, Inv X pins (σ4.set i none) H4 s5 → Q s5) → wpAny (model X.prog X.w) X.A (do bindName X.env m .none; unbindBehindTheSuite X.env m hp) (fun _ s5 => Q s5) X.xe s4 :=
          fun {σ4 H4 Q} I4 z => gone_ok (I4.unsuite ok) hN hi hl z
        cases fw with
        | next => obtain ⟨σ4, H4, I4, r4⟩ := r3; exact bye I4 fun s5 I5 => ⟨_, H4, I5, r4⟩
        | brk => obtain ⟨σ4, H4, I4, r4⟩ := r3; exact bye I4 fun s5 I5 => ⟨_, H4, I5, r4⟩
        | cont => obtain ⟨σ4, H4, I4, r4⟩ := r3; exact bye I4 fun s5 I5 => ⟨_, H4, I5, r4⟩
        | ret u => obtain ⟨v4, σ4, H4, I4, r4, r5⟩ := r3; exact bye I4 fun s5 I5 => ⟨v4, _, H4, I5, r4, r5⟩
theorem ps_mix {h₀ : ExceptHandler} {hds : List ExceptHandler} {qs : List Hd} {body : List Stmt} {pos : Pos} {tb : WX → TS} (hs : X.stack = X.env :: X.outer) (hf : X.env.frame = some X.env.locals) (hN : X.N.Nodup) (tk : Takes X W) (hk : HdsV X (h₀ :: hds) qs)
    (hb : ∀ (V : WX) (pn : List (Addr × Obj)) (xe : Value → Shared → Prop), Takes (X.tr pn xe) V → PassesOwn (model X.prog X.w) X.A X.env xe → PSs (X.tr pn xe) body (tb V))
    (hsu : ∀ (q : Hd) (a : Addr) (oe : Obj) (cls : Value) (d : Option Addr) (pn : List (Addr × Obj)), Zc cls d oe → (∃ vs, oe.data = .fields vs) → PSs (X.suite a ((a, oe) :: pn)) q.b (ts q a cls d)) :
    PS X (.Try body (h₀ :: hds) [] [] pos) (fun D σ H => tb (wMix X.K ts W D qs) D σ H) := by
  constructor
  intro pins s0 σ0 H0 D0 I0 t0
  have ok := I0.ok
  have hfr : X.A.frames = some (X.env :: X.outer) := by rw [ok.frames, hs]
  let xe' : Value → Shared → Prop := fun e s₁ => wpAny (model X.prog X.w) X.A (noteFrame e X.env) (fun _ s₂ => wpAny (model X.prog X.w) X.A (setFlight e none) (fun _ s₃ => wpAny (model X.prog X.w) X.A (handleBy e X.env (h₀ :: hds)) (SP X pins D0) X.xe s₃) X.xe s₂) X.xe s₁
  have took : Takes (X.tr (X.pn ++ pins) xe') (wMix X.K ts W D0 qs) := by
    rintro u s1 ⟨a, B, sI, pins1, σ, H, cls, d, rfl, J1, nb, up, sky, na, os, ag, w⟩
    have J := J1.ofTry ok
    rw [show (X.tr (X.pn ++ pins) xe').stack = X.env :: X.outer from hs] at sky
    show wpAny (model X.prog X.w) X.A (noteFrame (.ref a) X.env) _ _ s1
    refine Sky.land Zc.steady hfr hf sky fun h2 fl2 u2 => ?_
    obtain ⟨oe, vs, g1, g2, g3⟩ := fl2.there
    have away : a ∉ frs (X.env :: X.outer) := fun hm => by
      obtain ⟨_, o, g4, g5⟩ := fl2.2.2.1.mem hm
      rw [g1] at g4
      cases g4
      exact g5 _ g3
    have nL : a ≠ X.env.locals := fun z => away (List.mem_filterMap.mpr ⟨X.env, .head _, by rw [hf, z]⟩)
    have nF : a ∉ X.fs := fun hm => by
      obtain ⟨v, v1, v2⟩ := List.mem_filterMap.mp hm
      exact away (List.mem_filterMap.mpr ⟨v, .tail _ v1, v2⟩)
    exact fly_go hs hf hN tk hsu hk ⟨J, nb, up.trans u2, os, ag, na, nL, nF, fl2⟩ w
  refine wpAny_Try_except (wpAny_mono ((hb _ (X.pn ++ pins) xe' took PassesOwn.looking).run [] s0 σ0 H0 D0 (I0.toTry _) t0) (fun fw s1 r1 => ?_) (fun e s1 z => z))
  cases fw with
  | next => obtain ⟨σ1, H1, I1, r2⟩ := r1; exact wpAny_execs_nil ⟨σ1, H1, I1.ofTry ok, r2⟩
  | brk => obtain ⟨σ1, H1, I1, r2⟩ := r1; exact ⟨σ1, H1, I1.ofTry ok, r2⟩
  | cont => obtain ⟨σ1, H1, I1, r2⟩ := r1; exact ⟨σ1, H1, I1.ofTry ok, r2⟩
  | ret u => obtain ⟨v1, σ1, H1, I1, r2, r3⟩ := r1; exact ⟨v1, σ1, H1, I1.ofTry ok, r2, r3⟩
end
section
variable {Y : Ct} {γ : List S} {M : MM} {P : Po} {body : List Stmt} {h₀ : ExceptHandler} {hds : List ExceptHandler} {qs : List Hd} {pos : Pos}
def sOf (i : Option Nat) (a : Addr) (γ : List S) : List S := match i with
  | none => γ
  | some j => γ.set j (.ob a)
def pOf (i : Option Nat) (P : Po) : Po := match i with
  | none => P
  | some j => { P with nx := fun γ2 M2 => P.nx (γ2.set j .no) M2, bk := fun γ2 M2 => P.bk (γ2.set j .no) M2, ct := fun γ2 M2 => P.ct (γ2.set j .no) M2 }
/-- an error told by its class, met by the clauses -/
def met (Y : Ct) (P : Po) : List Hd → Value → List S → MM → Prop
  | [], cls, γ', M' => Y.Rx cls γ' M'
  | q :: qs, cls, γ', M' => ∃ b1, PySem.W.exmOne Y.X.K (xcl cls).1 q.c = some b1 ∧ (b1 = true → ∀ (a : Addr) (oe : Obj) (pn : List (Addr × Obj)), Zc (xcl cls).1 (xcl cls).2 oe → (∃ vs, oe.data = .fields vs) →
      BL ⟨Y.X.suite a ((a, oe) :: pn), fun _ _ _ _ => False, fun _ _ _ => False⟩ q.b (sOf q.i a γ') M' (pOf q.i P)) ∧ (b1 = false → met Y P qs cls γ' M')
/-- try with clauses -/
theorem s_tryM (hs : Y.X.stack = Y.X.env :: Y.X.outer) (hf : Y.X.env.frame = some Y.X.env.locals) (hN : Y.X.N.Nodup) (tk : Takes Y.X Y.Er) (hk : HdsV Y.X (h₀ :: hds) qs)
    (hb : ∀ (W : WX) (pn : List (Addr × Obj)) (xe : Value → Shared → Prop), Takes (Y.X.tr pn xe) W → PassesOwn (model Y.X.prog Y.X.w) Y.X.A Y.X.env xe → BL ⟨Y.X.tr pn xe, W, met Y P qs⟩ body γ M P) :
    ST Y (.Try body (h₀ :: hds) [] [] pos) γ M P := by
  let ts : Hd → Addr → Value → Option Addr → TS := fun q a cls d D σ H => ∃ γ2 M2 P2, (∀ (oe : Obj) (pn : List (Addr × Obj)), Zc cls d oe → (∃ vs, oe.data = .fields vs) → BL ⟨Y.X.suite a ((a, oe) :: pn), fun _ _ _ _ => False, fun _ _ _ => False⟩ q.b γ2 M2 P2) ∧ tB' ⟨Y.X, fun _ _ _ _ => False, fun _ _ _ => False⟩ γ2 M2 P2 D σ H
  refine ⟨PS.imp (ps_mix (tb := fun W => tB' ⟨Y.X, W, met Y P qs⟩ γ M P) (ts := ts) (W := Y.Er) hs hf hN tk hk (fun W pn xe t po => (hb W pn xe t po).ps) (fun q a oe cls d pn hz hf2 => ⟨fun pins s σ H D I ⟨γ2, M2, P2, h, t⟩ => (h oe pn hz hf2).ps.run pins s σ H D I t⟩)) fun D σ H ⟨F, r, q, ex⟩ => ?_⟩
  refine ⟨F, r, ⟨q.nx, q.rt, q.bk, q.ct⟩, ?_⟩
  have go : ∀ (l : List Hd) (cls : Value) (γ' : List S) (M' : MM) (F' : Hp) (σ' : L2.St) (H' : Hp), Same F F' → Rl Y.X.K γ' M' F' σ' H' → met Y P l cls γ' M' → wMix Y.X.K ts Y.Er D l (xcl cls).1 (xcl cls).2 σ' H' := by
    intro l
    induction l with
    | nil => exact fun cls γ' M' F' σ' H' e1 r1 h => ex cls γ' M' F' σ' H' e1 r1 h
    | cons c l ih =>
      intro cls γ' M' F' σ' H' e1 r1 ⟨b1, h1, h2, h3⟩
      refine ⟨b1, h1, fun hb1 a ha => ?_, fun hb1 => ih cls γ' M' F' σ' H' e1 r1 (h3 hb1)⟩
      obtain ⟨cc, ci, cb⟩ := c
      cases ci with
      | none => exact ⟨γ', M', P, fun oe pn hz hf2 => h2 hb1 a oe pn hz hf2, F', r1, q.mono e1, fun _ _ _ _ _ _ _ _ z => z.elim⟩
      | some j =>
        refine ⟨γ'.set j (.ob a), M', pOf (some j) P, fun oe pn hz hf2 => h2 hb1 a oe pn hz hf2, F', ⟨r1.hm, pair_set (sr_or (s := .ob a) rfl) j r1.sl⟩, ⟨?_, ?_, ?_, ?_⟩, fun _ _ _ _ _ _ _ _ z => z.elim⟩
        · exact fun γ3 M3 F3 σ3 H3 e3 r3 z => q.nx _ M3 F3 _ H3 (e1.trans e3) ⟨r3.hm, pair_set (R := OR Y.X.K F3) (y := S.no) trivial j r3.sl⟩ z
        · exact fun s M3 F3 v H3 e3 => q.rt s M3 F3 v H3 (e1.trans e3)
        · exact fun γ3 M3 F3 σ3 H3 e3 r3 z => q.bk _ M3 F3 _ H3 (e1.trans e3) ⟨r3.hm, pair_set (R := OR Y.X.K F3) (y := S.no) trivial j r3.sl⟩ z
        · exact fun γ3 M3 F3 σ3 H3 e3 r3 z => q.ct _ M3 F3 _ H3 (e1.trans e3) ⟨r3.hm, pair_set (R := OR Y.X.K F3) (y := S.no) trivial j r3.sl⟩ z
  exact fun cls γ' M' F' σ' H' e1 r1 h => go qs cls γ' M' F' σ' H' e1 r1 h
end
end Mi

/-! Mi: enumerate over a tuple. -/
namespace Mi
open PySem PySem.Spec PyProof.Rows L2
theorem meets_enumO {v : Value} {o : Obj} {H : Heap → Prop} (B : Begins v o H) :
    Meets (Builtin.«enumerate.__new__» ⟨[.type "enumerate", v], []⟩) (fun _ R s => H s.heap ∧
      R (.ok (.ret (.ref (s.heap.push o).objs.size))) { s with heap := (s.heap.push o).push { cls := .type "enumerate", data := .fields #[.none, .bool false, .ref s.heap.objs.size, rawInt 0, .none, .none] } }) :=
  .of_wp fun prog w A R s h => by
    obtain ⟨hp, g, d, tk, os⟩ := s; obtain ⟨h1, h⟩ := h
    have hsub := sub_enumerate
    have q1 : ∀ {A' : Around} {E : Value → Shared → Prop} {Q : Value → Shared → Prop}, Q (.ref hp.objs.size) ⟨hp.push o, g, d, tk, os⟩ → wpAny (model prog w) A' (pyIter v) Q E ⟨hp, g, d, tk, os⟩ :=
      fun q => B.iter prog w _ _ ⟨hp, g, d, tk, os⟩ _ h1 q
    wp_walk using q1
    refine wpAny_stack_any fun st => wpAny_pure ?_
    split
    · rename_i c _ _ _ _ _
      cases (c == Value.type "enumerate") <;> (wp_walk using q1; exact ⟨_, rfl, h⟩)
    · wp_walk using q1
      exact ⟨_, rfl, h⟩
section
variable {prog : Program} {w : World} {A : Around} {E : Value → Shared → Prop} {s : Shared}
theorem call_enumT {a : Addr} {its : Array Value} {Q : Value → Shared → Prop} (hL : s.heap.IsTuple a its)
    (h : ∀ h', IsEnum h' (s.heap.objs.size + 1) s.heap.objs.size 0 .none → h'.IsTupleIter s.heap.objs.size a 0 → h'.objs.size = s.heap.objs.size + 2 →
      (∀ b o, s.heap.get? b = some o → h'.get? b = some o) → Q (.ref (s.heap.objs.size + 1)) { s with heap := h' }) :
    wpAny (model prog w) A (call (.type "enumerate") [.ref a]) Q E s := by
  refine callType_new F.called_enumerate (by decide) (F.typeCall_enumerate_1 _) (F.newCall_enumerate_1 _) (fun obj => F.args_object_init_2 obj _) F.entry_enumerate_new
    (meets_enumO (begins_tuple a its)) ⟨hL, ?_⟩
  have hz : (s.heap.push { cls := .type "tuple_iterator", data := .fields #[.ref a, .int 0 0] }).objs.size = s.heap.objs.size + 1 := Heap.size_push ..
  show _ ∧ _
  rw [hz]
  have he : IsEnum ((s.heap.push { cls := .type "tuple_iterator", data := .fields #[.ref a, .int 0 0] }).push
      { cls := .type "enumerate", data := .fields #[.none, .bool false, .ref s.heap.objs.size, rawInt 0, .none, .none] }) (s.heap.objs.size + 1) s.heap.objs.size 0 .none := by
    have := Heap.get?_push_size (s.heap.push { cls := .type "tuple_iterator", data := .fields #[.ref a, .int 0 0] })
      (o := { cls := .type "enumerate", data := .fields #[.none, .bool false, .ref s.heap.objs.size, rawInt 0, .none, .none] }) rfl
    rw [hz] at this; exact this
  exact ⟨⟨_, he, rfl⟩, h _ he ⟨_, Heap.get?_push_of_some _ (Heap.get?_push_size _ rfl), rfl, rfl⟩ (by rw [Heap.size_push, hz]) fun b o x => Heap.get?_push_of_some _ (Heap.get?_push_of_some _ x)⟩
theorem next_enumT_end {e it a : Addr} {i : Nat} {its : Array Value} {old : Value} {Q : Option Value → Shared → Prop} (hh : A.handled = none)
    (he : IsEnum s.heap e it i old) (hit : s.heap.IsTupleIter it a i) (hl : s.heap.IsTuple a its) (hx : its[i]? = none)
    (hQ : ∀ h', Heap.ExtBut it s.heap h' → Q none { s with heap := h' }) : wpAny (model prog w) A (pyNext (.ref e)) Q E s := by
  have hT : s.TypeIs (.ref e) "enumerate" := ⟨_, he, rfl⟩
  unfold pyNext
  refine wpAny_bind (wpAny_attempt (wpAny_callSpecial?_slot (name := Str.ofString "__next__") hT F.slot_enumerate_next
    (wpAny_call_entry F.slot_enumerate_next hT F.entry_enumerate_next ?_ (F.args_enumerate_next_1 _))))
  show wpAny _ _ (field (.ref e) 2 >>= _) _ _ _
  refine wpAny_bind (wpAny_field he rfl (x := .ref it) rfl ?_)
  refine wpAny_bind (wpAny_nextOf_tuple_end hh hit hl hx fun h' x he' hx' => ?_)
  obtain ⟨o, ho, hc⟩ := hx'
  refine wpAny_bind (wpAny_isInstance (T := "StopIteration") (b := true) ⟨o, ho, hc⟩ isSubtype_stop ?_)
  exact wpAny_pure (hQ _ he')
end
/-- the tuple at a, each item in a new pair with its number -/
def ItE (K : PySem.W.Frag) (a : Addr) : It :=
  ⟨fun i H => ∃ (xs : List V) (x : V), SqT K H a xs ∧ xs[i]? = some x, fun i H v H' => ∃ T x, v = .ref T ∧ H T = none ∧ H' = upd H T (.tup [.int (i : Nat), x]) ∧ ∀ xs, SqT K H a xs → xs[i]? = some x, fun i H => ∃ xs : List V, SqT K H a xs ∧ xs.length ≤ i⟩
theorem turn_enumT {P : Program} {w : World} {K : PySem.W.Frag} {elts : List Expr} {kk : Nat} {tpos : Pos} (a e it : Addr) :
    Turn P w K (.Tuple elts kk tpos) (ItE K a) [e, it] e (fun i h => (∃ old, IsEnum h e it ((i : Nat) : Int) old) ∧ h.IsTupleIter it a i ∧ e ≠ it ∧ a ≠ it ∧ a ≠ e) where
  mem := by simp
  obj := fun i h st b hb => by
    obtain ⟨⟨old, he⟩, ⟨o, ho, hc, hd⟩, _⟩ := st
    have e' : b = e ∨ b = it := by simpa using hb
    rcases e' with z | z
    · rw [z]; exact ⟨_, he, fun v q => nomatch q⟩
    · rw [z]; exact ⟨o, ho, fun v q => by rw [hd] at q; cases q⟩
  keep := fun i h h' st k => let ⟨⟨old, he⟩, hi, hne⟩ := st; ⟨⟨old, k e (by simp) _ he⟩, hi.at fun o q => k it (by simp) o q, hne⟩
  item := by
    intro X hP hw hK hc i pins s σ H E I hf st hg
    subst hP hw hK
    obtain ⟨⟨old, he⟩, hit, hne, hai, hae⟩ := st
    obtain ⟨xs, x, hq, hx⟩ := hg
    obtain ⟨its, rv, p, hz⟩ := I.tuple hq
    obtain ⟨u, hu, ru⟩ := rv.get hx
    have hel : e < s.heap.objs.size := Heap.lt_size he
    have hil : it < s.heap.objs.size := by obtain ⟨_, q, _⟩ := hit; exact Heap.lt_size q
    have hua : its.toArray[i]? = some u := by simpa using hu
    have hiz : i < its.toArray.size := by
      rcases Nat.lt_or_ge i its.toArray.size with q | q
      · exact q
      · rw [Array.getElem?_eq_none q] at hua; cases hua
    refine wpAny_pyNext_enum_itemD (Draws.tuple (A := X.A.in1) (prog := X.prog) (w := X.w) (I.ok.hd hc) it a hai its.toArray) he ⟨hit, p⟩ hiz hne (by simp [hne, Ne.symm hae]) fun x1 h' tk hP ho hs' hT hsz hk => ?_
    rw [hua] at hP
    cases hP
    refine ⟨_, rfl, wpAny_letOwnedTupleGo_enum (s := { s with heap := h', toks := tk + 1 }) ho fun h'' he' sb => ?_⟩
    have hT2 : h''.get? s.heap.objs.size = some { cls := .type "tuple", data := .seq #[.int i tk, u] } := (sb.2 _ (Nat.ne_of_gt hel)).trans hT
    have new : ObjOk X.prog X.w (upd H s.heap.objs.size (.tup [.int (i : Nat), x])) h'' s.heap.objs.size (.tup [.int (i : Nat), x]) :=
      ⟨by show 2 ≤ sizeLine; decide, [.int i tk, u], .cons ⟨_, rfl⟩ (.cons ru .nil), ⟨_, hT2, rfl, _, rfl⟩⟩
    have I1 : Inv X pins σ (upd H s.heap.objs.size (.tup [.int (i : Nat), x])) { s with heap := h'', toks := tk + 1 } :=
      I.turnedNew (ch := [e, it]) (fun b ob hb q => (sb.2 b (fun z => hb (by simp [z]))).trans (hk b ob (fun z => hb (by simp [z])) (fun z => hb (by simp [z])) q)) hf (Nat.le_refl _) new
    refine ⟨.ref s.heap.objs.size, _, I1, rfl, ⟨_, x, rfl, I.hok.fresh (Nat.le_refl _), rfl, fun ys hy => by rw [I.tuple_inj hy hq]; exact hx⟩, ⟨⟨u, ?_⟩, hs'.1.at fun o q => (sb.2 it (Ne.symm hne)).trans q, hne, hai, hae⟩, fun b hb => ?_⟩
    · have e1 : ((i + 1 : Nat) : Int) = (i : Int) + 1 := by omega
      rw [e1]; exact he'
    · have hb' : b < s.heap.objs.size := by
        have e' : b = e ∨ b = it := by simpa using hb
        rcases e' with z | z
        · rw [z]; exact hel
        · rw [z]; exact hil
      rw [upd_ne (Nat.ne_of_lt hb')]
      exact (hf b hb).1
  done := by
    intro X hP hw hK hc i pins s σ H E I hf st hg
    subst hP hw hK
    obtain ⟨⟨old, he⟩, hit, hne, hai, hae⟩ := st
    obtain ⟨xs, hq, hx⟩ := hg
    obtain ⟨its, rv, p, hz⟩ := I.tuple hq
    obtain ⟨f0, f1, f2, f3, f4, f5⟩ := hf it (by simp)
    have hl := rv.length
    exact next_enumT_end (I.ok.hd hc) he hit p (by simp; omega) fun h' eb => ⟨rfl, I.turned (t' := s.toks) (fun b o hb q => eb b o hb q) f0 f1 f3 f4 f5⟩
  self := fun A i s Q E st h => let ⟨⟨_, he⟩, _⟩ := st; wpAny_pyIter_enum he h
def iEnumT (K : PySem.W.Frag) (ta : TA) : TI := fun σ H R => ta σ H fun vs H1 => ∃ a xs, vs = [.ref a] ∧ SqT K H1 a xs ∧ R (ItE K a) H1
theorem pi_enumT {X : Cx} {e : Expr} {ta : TA} {p pos tpos : Pos} {elts : List Expr} {kk : Nat} (hg : Gl X "enumerate") (hm : X.mg "enumerate" = none) (ha : PA X [e] ta) (hs : starEach [e] X.env = [(false, eval e X.env)] := by rfl) :
    PI X (.Tuple elts kk tpos) (.Call (.Name "enumerate" p) [e] [] pos) (iEnumT X.K ta) := by
  refine ⟨fun pins s σ H R I h => ?_⟩
  refine Call_ (ld_blt I hg hm boot_enumerate (PyProof.Rows.callWith_type1 (thn (ha.run pos pins s σ H _ I h) fun us s1 ⟨vs, H1, I1, r1, q1⟩ => ?_) hs rfl))
  obtain ⟨a, xs, ex, hq, q⟩ := q1
  subst ex
  cases r1 with
  | cons r rr =>
    cases rr
    cases r
    obtain ⟨its, rv, p', hz⟩ := I1.tuple hq
    have hal : a < s1.heap.objs.size := by obtain ⟨_, q, _⟩ := p'; exact Heap.lt_size q
    refine call_enumT p' fun h' he hit hsz hk => wpAny_pyIter_enum he ?_
    have I2 : Inv X pins σ H1 { s1 with heap := h' } := I1.kept (t' := s1.toks) hk
    refine ⟨s1.heap.objs.size + 1, [s1.heap.objs.size + 1, s1.heap.objs.size], _, _, H1, rfl, I2, turn_enumT a (s1.heap.objs.size + 1) s1.heap.objs.size, ⟨⟨.none, he⟩, hit, Nat.succ_ne_self _, Nat.ne_of_lt hal, Nat.ne_of_lt (Nat.lt_succ_of_lt hal)⟩, fun b hb => ?_, q⟩
    have e' : b = s1.heap.objs.size + 1 ∨ b = s1.heap.objs.size := by simpa using hb
    have hle : s1.heap.objs.size ≤ b := by
      rcases e' with z | z
      · rw [z]; exact Nat.le_add_right _ _
      · rw [z]; exact Nat.le_refl _
    exact I1.fpOk hle (I1.hok.fresh hle)
theorem walks_eT {K : PySem.W.Frag} {F1 : Hp} {a : Addr} {vs : List V} {ds : List PyData} (h1 : SqT K F1 a vs) (h2 : DpAll K F1 vs ds) : Walks K (ItE K a) F1 (enumS ds) (fun _ => True) := by
  have hl : vs.length = ds.length := dps_len h2
  refine ⟨fun i H' F' M' e hm _ hi => ?_, fun i H' v H'' x F' γ' M' σ' hx e r _ y => ?_, fun i H' F' M' e hm _ hi => ?_⟩
  · rw [enumS_len] at hi
    exact ⟨vs, vs[i]'(by omega), same_t (e.trans hm.fh) h1, by simp⟩
  · obtain ⟨T, x1, rfl, hT, rfl, hx1⟩ := y
    have e4 := hx1 vs (same_t (e.trans r.hm.fh) h1)
    obtain ⟨d, hd, rfl⟩ := enumS_at hx
    obtain ⟨d2, hd2, dp1⟩ := dps_getV h2 e4
    rw [hd] at hd2; cases hd2
    obtain ⟨e6, h6⟩ := r.hm.newF hT (.tup [.int (i : Nat), x1])
    exact ⟨_, e6, r.ext e6 h6, .tup (.inl (.inl upd_same)) (.cons (.int _) (.cons (dp_mono (e.trans e6) _ _ dp1) .nil))⟩
  · rw [enumS_len] at hi
    exact ⟨vs, same_t (e.trans hm.fh) h1, by omega⟩
section
variable {Y : Ct} {γ : List S} {M M1 : MM} {a : Expr} {pos p tpos : Pos} {elts : List Expr}
theorem i_enumT {kk : Nat} {ds : List PyData} (hg : Gl Y.X "enumerate" := by rfl) (hm : Y.X.mg "enumerate" = none) (ha : EA Y [a] γ M [.d (.tuple ds)] M1) (hs : starEach [a] Y.X.env = [(false, eval a Y.X.env)] := by rfl) :
    EI Y (.Tuple elts kk tpos) (.Call (.Name "enumerate" p) [a] [] pos) γ M (enumS ds) (fun _ => True) M1 :=
  ⟨_, pi_enumT hg hm ha.pa hs, fun F σ H R r ex k => ⟨F, r, fun F1 vs H1 e1 r1 v1 => by
    obtain ⟨v, rfl, h1⟩ := pair_one v1
    cases h1 with
    | tup g1 g2 => exact ⟨_, _, rfl, same_t r1.hm.fh g1, k F1 H1 _ e1 r1 (walks_eT g1 g2)⟩, ex⟩⟩
end
end Mi

namespace Pl
open PySem PySem.Spec PyProof.Rows L2 Mi
section
variable {P : Program} {w : World} {K : PySem.W.Frag} {mg : Str → Option Value} {base : Heap}
structure Fd where
  c : Int
  k : Int
  f : Int
def fdM (F : Fd) : MO := .lst [.d (.int F.c), .d (.int F.k), .d (.int F.f)]
def Fd.on (F : Fd) : Bool := decide (F.f = 1) && decide (0 < F.c)
def Fd.mix (F : Fd) : Int := ((F.c % 1000000000000000000 + 7919 * F.k * F.k + F.k) * 48271 % 2305843009213693951 * 1442695040888963407 + 4321) % 2305843009213693921
def Fd.v (F : Fd) (m : Int) : Int := if F.on = true then F.c % m else F.mix.fdiv 16 % m
def Fd.nx (F : Fd) (m : Int) : Fd := if F.on = true then ⟨F.c.fdiv m, F.k + 1, F.f⟩ else ⟨F.c, F.k + 1, F.f⟩
/-- at most n draws so far -/
def Fk (n : Nat) (F : Fd) : Prop := 0 ≤ F.k ∧ F.k ≤ n
theorem Fd.v_nn (F : Fd) {m : Int} (h : 0 < m) : 0 ≤ F.v m := by
  unfold Fd.v
  split <;> exact Int.emod_nonneg _ (by omega)
theorem Fd.v_lt (F : Fd) {m : Int} (h : 0 < m) : F.v m < m := by
  unfold Fd.v
  split <;> exact Int.emod_lt_of_pos _ h
theorem Fk.nx {n : Nat} {F : Fd} (h : Fk n F) (m : Int) : Fk (n + 1) (F.nx m) := by
  obtain ⟨h1, h2⟩ := h
  unfold Fd.nx
  split <;> exact ⟨by show 0 ≤ F.k + 1; omega, by show F.k + 1 ≤ _; omega⟩
theorem Fk.mono {n m : Nat} {F : Fd} (h : Fk n F) (k : n ≤ m) : Fk m F := ⟨h.1, by have := h.2; omega⟩
theorem gs {α : Type} {M : List α} {i : Nat} {x : α} (h : i < M.length) : (M.set i x)[i]? = some x := List.getElem?_set_self h
theorem gs_lt {α : Type} {M : List α} {i : Nat} {x : α} (h : M[i]? = some x) : i < M.length := (List.getElem?_eq_some_iff.mp h).1
theorem mul_ok {i j : Int} {a b : Nat} (ha : i.natAbs < 2 ^ a) (hb : j.natAbs < 2 ^ b) (h0 : 0 < a := by decide) (h1 : 0 < b := by decide) (h : a + b ≤ 1000000 := by decide) : CMulW i j := wide_mul ha hb h0 h1 h
theorem div_ok {i j : Int} {b : Nat} (hj : j ≠ 0) (hb : j.natAbs < 2 ^ b) (h0 : 0 < b := by decide) (h1 : b ≤ 9000 := by decide) : CDivG i j := ⟨hj, Nat.lt_of_lt_of_le (PySem.Flt.log2_lt_of h0 hb) h1⟩
theorem im_mul {i j : Int} {a b : Nat} (ha : i.natAbs < 2 ^ a) (hb : j.natAbs < 2 ^ b) : (i * j).natAbs < 2 ^ (a + b) := wide_lt ha hb
theorem fb_zero : Fb 1 (0 : Rat) := ⟨by decide, by decide⟩
theorem fb_one : Fb 1 (1 : Rat) := ⟨by decide, by decide⟩
local macro_rules | `(tactic| walk_at "fb") => `(tactic| with_reducible first | assumption | (apply fb_add <;> walk_at "fb") | (apply fb_sub <;> walk_at "fb") | (apply fb_mul <;> walk_at "fb") | (apply fb_div <;> walk_at "fb") | (apply fb_neg <;> walk_at "fb") | exact fb_one | exact fb_zero)
theorem nn_mul {x y : Rat} {n m : Nat} (hx : Fb n x) (hy : Fb m y) (h : n + m ≤ 9000) : CMulW x.num y.num := wide_mul hx.1 hy.1 hx.pos hy.pos (by omega)
theorem nd_mul {x y : Rat} {n m : Nat} (hx : Fb n x) (hy : Fb m y) (h : n + m ≤ 9000) : CMulW x.num y.den := wide_mul hx.1 (nd_lt hy) hx.pos hy.pos (by omega)
theorem dd_mul {x y : Rat} {n m : Nat} (hx : Fb n x) (hy : Fb m y) (h : n + m ≤ 9000) : CMulW x.den y.den := wide_mul (nd_lt hx) (nd_lt hy) hx.pos hy.pos (by omega)
theorem dd_lt {x y : Rat} {n m : Nat} (hx : Fb n x) (hy : Fb m y) (h : n + m ≤ 9000) : ((x.den : Int) * y.den).natAbs < 2 ^ 9000 := Nat.lt_of_lt_of_le (im_lt (nd_lt hx) (nd_lt hy)) (p2_le h)
theorem den_ne (x : Rat) : (x.den : Int) ≠ 0 := by have := x.den_pos; omega
theorem dd_ne (x y : Rat) : (x.den : Int) * y.den ≠ 0 := Int.mul_ne_zero (den_ne x) (den_ne y)
theorem eqv_tup2 (a b c d : PyData) : PyData.eqv (.tuple [a, b]) (.tuple [c, d]) = (PyData.eqv a c && (PyData.eqv b d && true)) := rfl
theorem eqv_fr (x y : Rat) : PyData.eqv (fr x) (fr y) = decide (x = y) := by
  unfold fr
  rw [eqv_tup2, eqv_int, eqv_int, Bool.and_true]
  by_cases h : x = y
  · subst h
    simp
  · rw [decide_eq_false h]
    by_cases h1 : x.num = y.num
    · by_cases h2 : (x.den : Int) = y.den
      · exact absurd (Rat.ext h1 (by omega)) h
      · rw [decide_eq_false h2, Bool.and_false]
    · rw [decide_eq_false h1, Bool.false_and]
/-- the items of a list in some place -/
theorem mem_of_map {l : List PyData} {i : Nat} {x : S} (h : (l.map S.d)[i]? = some x) : ∃ d ∈ l, x = .d d := by
  rw [List.getElem?_map] at h
  cases e : l[i]? with
  | none => rw [e] at h; cases h
  | some d => rw [e] at h; exact ⟨d, List.mem_of_getElem? e, (Option.some.inj h).symm⟩
/-- the cells that a law walks -/
theorem cells {ns : List Int} {lo hi : Option Int} {i : Nat} {x : S} (h : ((cutL (ns.map PyData.int ++ [.int 0]) lo hi).map S.d)[i]? = some x) : ∃ c : Int, x = .d (.int c) := by
  obtain ⟨d, h2, rfl⟩ := mem_of_map h
  have h3 : d ∈ ns.map PyData.int ++ [.int 0] := List.mem_of_mem_drop (List.mem_of_mem_take h2)
  rcases List.mem_append.mp h3 with h4 | h4
  · obtain ⟨c, _, rfl⟩ := List.mem_map.mp h4
    exact ⟨c, rfl⟩
  · exact ⟨0, by rw [List.mem_singleton.mp h4]⟩
local macro_rules | `(tactic| walk_at "fk") => `(tactic| with_reducible first | assumption | (apply Fk.nx; walk_at "fk"))
theorem fb_int {a : Int} {n : Nat} (h : a.natAbs < 2 ^ n) (h0 : 0 < n) : Fb n (a : Rat) := ⟨h, by show (1 : Nat) < _; exact one_lt_p2 h0⟩
def Ib (n : Nat) (i : Int) : Prop := 0 < n ∧ i.natAbs < 2 ^ n
theorem two_le {n : Nat} (h : 0 < n) : 2 ≤ 2 ^ n := by
  cases n with
  | zero => omega
  | succ n => rw [Nat.pow_succ]; have := Nat.two_pow_pos n; omega
theorem ib_num {x : Rat} {n : Nat} (h : Fb n x) : Ib n x.num := ⟨h.pos, h.1⟩
theorem ib_den {x : Rat} {n : Nat} (h : Fb n x) : Ib n (x.den : Int) := ⟨h.pos, nd_lt h⟩
theorem ib_mul {a b : Int} {n m : Nat} (ha : Ib n a) (hb : Ib m b) : Ib (n + m) (a * b) := ⟨by have := ha.1; omega, im_lt ha.2 hb.2⟩
theorem p2_sum {n m : Nat} (hn : 0 < n) (hm : 0 < m) : 2 ^ n + 2 ^ m ≤ 2 ^ (n + m) := by
  rw [Nat.pow_add]
  have h1 := two_le hn
  have h2 := two_le hm
  have h3 : 2 ^ n * 2 ≤ 2 ^ n * 2 ^ m := Nat.mul_le_mul_left _ h2
  have h4 : 2 * 2 ^ m ≤ 2 ^ n * 2 ^ m := Nat.mul_le_mul_right _ h1
  omega
theorem ib_add {a b : Int} {n m : Nat} (ha : Ib n a) (hb : Ib m b) : Ib (n + m) (a + b) := ⟨by have := ha.1; omega, by have := p2_sum ha.1 hb.1; have := ha.2; have := hb.2; omega⟩
theorem ib_sub {a b : Int} {n m : Nat} (ha : Ib n a) (hb : Ib m b) : Ib (n + m) (a - b) := ⟨by have := ha.1; omega, by have := p2_sum ha.1 hb.1; have := ha.2; have := hb.2; omega⟩
theorem ib_neg {a : Int} {n : Nat} (ha : Ib n a) : Ib n (-a) := ⟨ha.1, by rw [Int.natAbs_neg]; exact ha.2⟩
theorem ib_lit {a : Int} (h : Nat.ble (a.natAbs + 1) 18446744073709551616 = true) : Ib 64 a := ⟨by decide, by have := Nat.le_of_ble_eq_true h; show a.natAbs < 18446744073709551616; omega⟩
theorem ib_lit2 {a : Int} (h : Nat.ble (a.natAbs + 1) 1645504557321206042154969182557350504982735865633579863348609024 = true) : Ib 210 a := ⟨by decide, by
  have h2 := Nat.le_of_ble_eq_true h
  have e210 : (2 : Nat) ^ 210 = 1645504557321206042154969182557350504982735865633579863348609024 := by decide
  rw [e210]
  omega⟩
theorem ib_n (n : Nat) {a : Int} (h : (Nat.blt 0 n && Nat.ble (a.natAbs + 1) (2 ^ n)) = true) : Ib n a := by
  rw [Bool.and_eq_true] at h
  exact ⟨Nat.le_of_ble_eq_true h.1, Nat.le_of_ble_eq_true h.2⟩
theorem ib_v {F : Fd} {m : Int} {n : Nat} (hm : Ib n m) (h0 : 0 < m) : Ib n (F.v m) := ⟨hm.1, by have := F.v_nn h0; have := F.v_lt h0; have := hm.2; omega⟩
theorem Ib.mono {a : Int} {n m : Nat} (h : Ib n a) (k : n ≤ m) : Ib m a := ⟨by have := h.1; omega, Nat.lt_of_lt_of_le h.2 (p2_le k)⟩
theorem cmul_ib {a b : Int} {n m : Nat} (ha : Ib n a) (hb : Ib m b) (h : n + m ≤ 1000000) : CMulW a b := wide_mul ha.2 hb.2 ha.1 hb.1 h
theorem lt_ib {b : Int} {n : Nat} (hb : Ib n b) (h : n ≤ 9000) : b.natAbs < 2 ^ 9000 := Nat.lt_of_lt_of_le hb.2 (p2_le h)
theorem lt_ib8 {b : Int} {n : Nat} (hb : Ib n b) (h : n ≤ 8000) : b.natAbs < 2 ^ 8000 := Nat.lt_of_lt_of_le hb.2 (p2_le h)
theorem fb_ib {a b : Int} {n m : Nat} (ha : Ib n a) (hb : Ib m b) : Fb (n + m) (Rat.divInt a b) := fb_divInt (ha.mono (by omega)).2 (hb.mono (by omega)).2 (one_lt_p2 (by have := ha.1; omega))
theorem one_v {F : Fd} {m : Int} (h : 0 < m) : 1 + F.v m ≠ 0 := by have := F.v_nn h; omega
local macro_rules | `(tactic| walk_at "ib") => `(tactic| with_reducible first | assumption | (apply ib_num; walk_at "fb") | (apply ib_den; walk_at "fb") | (apply ib_mul <;> walk_at "ib") | (apply ib_add <;> walk_at "ib") | (apply ib_sub <;> walk_at "ib") | (apply ib_neg; walk_at "ib") | (apply ib_v; walk_at "ib"; decide) | exact ib_n 2 (by decide) | exact ib_n 6 (by decide) | exact ib_n 12 (by decide) | exact ib_n 20 (by decide) | exact ib_n 32 (by decide) | exact ib_lit (by decide) | exact ib_lit2 (by decide))
local macro_rules | `(tactic| walk_at "nz") => `(tactic| first | with_reducible exact den_ne _ | assumption | ((with_reducible apply one_v); decide) | ((with_reducible apply Int.mul_ne_zero) <;> walk_at "nz") | omega | decide)
local macro_rules | `(tactic| walk_at "ob") => `(tactic| first | ((with_reducible apply cmul_ib); walk_at "ib"; walk_at "ib"; omega) | ((with_reducible apply lt_ib); walk_at "ib"; omega) | ((with_reducible apply lt_ib8); walk_at "ib"; omega) | walk_at "nz" | (with_reducible rfl) | omega | decide | assumption | exact k_int_int | exact k_int_bool | exact k_bool_bool | exact k_tuple_tuple)
theorem neg_tup (x : Rat) : PyData.tuple [.int (0 - x.num), .int x.den] = fr (-x) := by
  unfold fr
  rw [Rat.neg_num, Rat.neg_den, Int.zero_sub]
local macro_rules | `(tactic| walk_at "eqv") => `(tactic| first | exact SeqAt.eqv_refl _ rfl | (rw [eqv_fr]; first | exact decide_eq_true (by assumption) | exact decide_eq_false (by assumption)))
local macro_rules | `(tactic| walk_at "dec") => `(tactic| first | rfl | decide | exact decide_eq_true (by omega) | exact decide_eq_false (by omega))

structure Pt where
  x : Rat
  y : Rat
deriving DecidableEq
def pt (p : Pt) : PyData := .tuple [fr p.x, fr p.y]
def Pb (n : Nat) (p : Pt) : Prop := Fb n p.x ∧ Fb n p.y
def Pt.add (p q : Pt) : Pt := ⟨p.x + q.x, p.y + q.y⟩
def Pt.sub (p q : Pt) : Pt := ⟨p.x - q.x, p.y - q.y⟩
def Pt.smul (p : Pt) (t : Rat) : Pt := ⟨p.x * t, p.y * t⟩
def Pt.along (p q : Pt) : Rat := p.x * q.x + p.y * q.y
def Pt.across (p q : Pt) : Rat := p.x * q.y - p.y * q.x
def Pt.far (p q : Pt) : Rat := (p.sub q).along (p.sub q)
theorem Pb.fx {n : Nat} {p : Pt} (h : Pb n p) : Fb n p.x := h.1
theorem Pb.fy {n : Nat} {p : Pt} (h : Pb n p) : Fb n p.y := h.2
theorem Pb.mono {n m : Nat} {p : Pt} (h : Pb n p) (k : n ≤ m) : Pb m p := ⟨h.1.mono k, h.2.mono k⟩
theorem pb_add {p q : Pt} {n m : Nat} (hp : Pb n p) (hq : Pb m q) : Pb (n + m + 1) (p.add q) := ⟨fb_add hp.1 hq.1, fb_add hp.2 hq.2⟩
theorem pb_sub {p q : Pt} {n m : Nat} (hp : Pb n p) (hq : Pb m q) : Pb (n + m + 1) (p.sub q) := ⟨fb_sub hp.1 hq.1, fb_sub hp.2 hq.2⟩
theorem pb_smul {p : Pt} {t : Rat} {n m : Nat} (hp : Pb n p) (ht : Fb m t) : Pb (n + m) (p.smul t) := ⟨fb_mul hp.1 ht, fb_mul hp.2 ht⟩
theorem fb_along {p q : Pt} {n m : Nat} (hp : Pb n p) (hq : Pb m q) : Fb (n + m + (n + m) + 1) (p.along q) := fb_add (fb_mul hp.1 hq.1) (fb_mul hp.2 hq.2)
theorem fb_across {p q : Pt} {n m : Nat} (hp : Pb n p) (hq : Pb m q) : Fb (n + m + (n + m) + 1) (p.across q) := fb_sub (fb_mul hp.1 hq.2) (fb_mul hp.2 hq.1)
theorem fb_far {p q : Pt} {n m : Nat} (hp : Pb n p) (hq : Pb m q) : Fb (n + m + 1 + (n + m + 1) + (n + m + 1 + (n + m + 1)) + 1) (p.far q) := fb_along (pb_sub hp hq) (pb_sub hp hq)
local macro_rules | `(tactic| walk_at "fb") => `(tactic| with_reducible first | (apply Pb.fx; walk_at "fb") | (apply Pb.fy; walk_at "fb") | (apply pb_add <;> walk_at "fb") | (apply pb_sub <;> walk_at "fb") | (apply pb_smul <;> walk_at "fb") | (apply fb_along <;> walk_at "fb") | (apply fb_across <;> walk_at "fb") | (apply fb_far <;> walk_at "fb"))
def Pt.quarter (p : Pt) : Pt := ⟨-p.y, p.x⟩
def Pt.turn (p : Pt) : Nat → Pt
  | 0 => p
  | n + 1 => (p.turn n).quarter
theorem pb_quarter {p : Pt} {n : Nat} (h : Pb n p) : Pb n p.quarter := ⟨fb_neg h.2, h.1⟩
theorem pb_turn {p : Pt} {n : Nat} (h : Pb n p) : ∀ k, Pb n (p.turn k)
  | 0 => h
  | k + 1 => pb_quarter (pb_turn h k)
theorem pt_eqv (p q : Pt) : PyData.eqv (pt p) (pt q) = decide (p = q) := by
  show (PyData.eqv (fr p.x) (fr q.x) && (PyData.eqv (fr p.y) (fr q.y) && true)) = _
  rw [eqv_fr, eqv_fr, Bool.and_true]
  cases p; cases q
  simp only [Pt.mk.injEq, Bool.decide_and]
/-- above, at, below -/
def sgI (a b : Int) : Int := (if decide (a > b) = true then 1 else 0) - (if decide (a < b) = true then 1 else 0)
def lessI (x y : Rat) : Int := x.num * y.den - y.num * x.den
theorem ib_less {x y : Rat} {n m : Nat} (hx : Fb n x) (hy : Fb m y) : Ib (n + m + (m + n)) (lessI x y) := ib_sub (ib_mul (ib_num hx) (ib_den hy)) (ib_mul (ib_num hy) (ib_den hx))
local macro_rules | `(tactic| walk_at "ib") => `(tactic| with_reducible (apply ib_less <;> walk_at "fb"))
def Pt.before (p q : Pt) : Bool := decide (p.x < q.x) || (decide (p.x = q.x) && decide (p.y < q.y))
theorem mul_den_num (x : Rat) : x * x.den = x.num := by
  have h : (x.den : Rat) ≠ 0 := by
    intro h
    have : x.den = 0 := by exact_mod_cast h
    exact x.den_nz this
  have h2 : x = (x.num : Rat) / (x.den : Rat) := by
    conv => lhs; rw [← Rat.num_divInt_den x, Rat.divInt_eq_div]
    rw [Rat.intCast_natCast]
  have h3 : (x.num : Rat) / x.den * x.den = x.num := by grind
  rw [← h2] at h3
  exact h3
theorem num_pos (q : Rat) : 0 < q.num ↔ 0 < q := by
  have h := @Rat.num_nonneg (-q)
  rw [Rat.neg_num] at h
  constructor
  · intro h1
    by_cases h2 : 0 < q
    · exact h2
    · have : (0 : Rat) ≤ -q := by grind
      have := h.mpr this
      omega
  · intro h1
    rcases Int.lt_or_le 0 q.num with h2 | h2
    · exact h2
    · have := h.mp (by omega)
      grind
theorem num_neg (q : Rat) : q.num < 0 ↔ q < 0 := by
  have h := num_pos (-q)
  rw [Rat.neg_num] at h
  constructor
  · intro h1
    have := h.mp (by omega)
    grind
  · intro h1
    have := h.mpr (by grind)
    omega
theorem fb_int8 {a : Int} (h : a.natAbs < 2 ^ 8) : Fb 8 (a : Rat) := fb_int h (by decide)
local macro_rules | `(tactic| walk_at "fb") => `(tactic| with_reducible first | (apply fb_ib <;> walk_at "ib") | (apply fb_int8; decide))
def Pt.mix (p q : Pt) (t : Rat) : Pt := ⟨p.x + (q.x - p.x) * t, p.y + (q.y - p.y) * t⟩
def onS (a b p : Pt) : Bool := decide (sgI ((b.sub a).across (p.sub a)).num 0 = 0) && (!(p.before a) && !(b.before p))
theorem bef_iff {p q : Pt} : p.before q = true ↔ p.x < q.x ∨ (p.x = q.x ∧ p.y < q.y) := by
  unfold Pt.before
  simp only [Bool.or_eq_true, Bool.and_eq_true, decide_eq_true_eq]
theorem bef_tri {p q : Pt} (h : p ≠ q) (h2 : q.before p = false) : p.before q = true := by
  have h3 : ¬ (q.x < p.x ∨ (q.x = p.x ∧ q.y < p.y)) := fun z => by rw [bef_iff.mpr z] at h2; cases h2
  rw [bef_iff]
  have h4 : ¬ (p.x = q.x ∧ p.y = q.y) := fun ⟨e1, e2⟩ => h (by cases p; cases q; simp at e1 e2; simp [e1, e2])
  by_cases e1 : p.x < q.x
  · exact .inl e1
  · have e2 : p.x = q.x := by grind
    refine .inr ⟨e2, ?_⟩
    grind
theorem sg_zero {q : Rat} : sgI q.num 0 = 0 ↔ q = 0 := by
  unfold sgI
  constructor
  · intro h
    rcases Int.lt_trichotomy q.num 0 with h1 | h1 | h1
    · rw [if_neg (by rw [decide_eq_false (by omega)]; decide), if_pos (decide_eq_true h1)] at h
      omega
    · exact Rat.num_eq_zero.mp h1
    · rw [if_pos (decide_eq_true h1), if_neg (by rw [decide_eq_false (by omega)]; decide)] at h
      omega
  · intro h
    subst h
    decide
theorem bef_irr (p : Pt) : p.before p = false := by
  cases h : p.before p with
  | false => rfl
  | true =>
    rw [bef_iff] at h
    rcases h with h | ⟨_, h⟩ <;> exact absurd h Rat.lt_irrefl
def stD (a b : Pt) : PyData := .tuple [.str "stretch", pt a, pt b]
def dotD (a : Pt) : PyData := .tuple [.str "dot", pt a]

def shU (t : Rat) : Rat := Rat.divInt ((t.den : Int) * t.den - t.num * t.num) ((t.den : Int) * t.den + t.num * t.num)
def shV (t : Rat) : Rat := Rat.divInt (2 * t.num * t.den) ((t.den : Int) * t.den + t.num * t.num)
def Pt.share (c a : Pt) (t : Rat) : Pt := c.add ⟨shU t * (a.x - c.x) - shV t * (a.y - c.y), shV t * (a.x - c.x) + shU t * (a.y - c.y)⟩
theorem sq_ib {i : Int} {k : Nat} (h : i.natAbs < 2 ^ k) : 0 ≤ i * i ∧ i * i < ((2 ^ (2 * k) : Nat) : Int) := by
  have h1 : (i * i).natAbs < 2 ^ (k + k) := im_lt h h
  rw [show k + k = 2 * k by omega] at h1
  have h2 : 0 ≤ i * i := by
    rcases Int.le_total 0 i with h | h
    · exact Int.mul_nonneg h h
    · exact Int.mul_nonneg_of_nonpos_of_nonpos h h
  exact ⟨h2, by omega⟩
theorem fb_uS {t : Rat} {k : Nat} (ht : Fb k t) : Fb (2 * k + 1) (shU t) := by
  obtain ⟨a1, a2⟩ := sq_ib ht.1
  obtain ⟨b1, b2⟩ := sq_ib (nd_lt ht)
  have e : 2 ^ (2 * k + 1) = 2 ^ (2 * k) * 2 := Nat.pow_succ ..
  exact fb_divInt (by omega) (by omega) (one_lt_p2 (by omega))
theorem fb_vS {t : Rat} {k : Nat} (ht : Fb k t) : Fb (2 * k + 1) (shV t) := by
  obtain ⟨a1, a2⟩ := sq_ib ht.1
  obtain ⟨b1, b2⟩ := sq_ib (nd_lt ht)
  have e : 2 ^ (2 * k + 1) = 2 ^ (2 * k) * 2 := Nat.pow_succ ..
  have h1 : (t.num * t.den).natAbs < 2 ^ (k + k) := im_lt ht.1 (nd_lt ht)
  rw [show k + k = 2 * k by omega] at h1
  have e2 : 2 * t.num * t.den = 2 * (t.num * t.den) := Int.mul_assoc ..
  exact fb_divInt (by rw [e2]; omega) (by omega) (one_lt_p2 (by omega))
theorem pb_share {c a : Pt} {t : Rat} {n m k : Nat} (hc : Pb n c) (ha : Pb m a) (ht : Fb k t) : Pb (3 * n + 2 * m + 4 * k + 8) (c.share a t) := by
  have hx := fb_sub ha.1 hc.1
  have hy := fb_sub ha.2 hc.2
  have hu := fb_uS ht
  have hv := fb_vS ht
  exact (pb_add hc (q := ⟨shU t * (a.x - c.x) - shV t * (a.y - c.y), shV t * (a.x - c.x) + shU t * (a.y - c.y)⟩) ⟨fb_sub (fb_mul hu hx) (fb_mul hv hy), fb_add (fb_mul hv hx) (fb_mul hu hy)⟩).mono (by omega)
theorem sq_nn (t : Rat) : 0 ≤ t * t := by
  rcases Rat.le_total (a := 0) (b := t) with h | h
  · exact Rat.mul_nonneg h h
  · have h2 : 0 ≤ -t := by grind
    have := Rat.mul_nonneg h2 h2
    grind
theorem one_sq (t : Rat) : 1 + t * t ≠ 0 := by
  have := sq_nn t
  grind
theorem uS_eq (t : Rat) : shU t = (1 - t * t) / (1 + t * t) := by
  have h1 := mul_den_num t
  have hd : (t.den : Rat) ≠ 0 := by
    intro h
    have : t.den = 0 := by exact_mod_cast h
    exact t.den_nz this
  have h2 := one_sq t
  unfold shU
  rw [Rat.divInt_eq_div]
  simp only [Rat.intCast_add, Rat.intCast_mul, Rat.intCast_sub, Rat.intCast_natCast, ← h1]
  generalize (t.den : Rat) = a at *
  have h3 : a * a + t * a * (t * a) ≠ 0 := by
    have : a * a + t * a * (t * a) = a * a * (1 + t * t) := by grind
    rw [this]
    grind
  grind
theorem vS_eq (t : Rat) : shV t = (t + t) / (1 + t * t) := by
  have h1 := mul_den_num t
  have hd : (t.den : Rat) ≠ 0 := by
    intro h
    have : t.den = 0 := by exact_mod_cast h
    exact t.den_nz this
  have h2 := one_sq t
  unfold shV
  rw [Rat.divInt_eq_div]
  simp only [Rat.intCast_add, Rat.intCast_mul, Rat.intCast_natCast, ← h1]
  generalize (t.den : Rat) = a at *
  have h3 : a * a + t * a * (t * a) ≠ 0 := by
    have : a * a + t * a * (t * a) = a * a * (1 + t * t) := by grind
    rw [this]
    grind
  have : ((2 : Int) : Rat) = 2 := rfl
  grind
local macro_rules | `(tactic| walk_at "fb") => `(tactic| with_reducible first | (apply fb_uS; walk_at "fb") | (apply fb_vS; walk_at "fb") | (apply pb_share <;> walk_at "fb"))
/-- the share told back -/
def Pt.whole (c a p : Pt) : Rat := (a.sub c).along (a.sub c) + (a.sub c).along (p.sub c)
theorem r_pos {c a : Pt} (h : a ≠ c) : 0 < (a.sub c).along (a.sub c) := by
  show 0 < (a.x - c.x) * (a.x - c.x) + (a.y - c.y) * (a.y - c.y)
  have h1 := sq_nn (a.x - c.x)
  have h2 := sq_nn (a.y - c.y)
  have h3 : ¬ ((a.x - c.x) * (a.x - c.x) = 0 ∧ (a.y - c.y) * (a.y - c.y) = 0) := by
    rintro ⟨e1, e2⟩
    refine h ?_
    have z1 : a.x - c.x = 0 := by rcases Rat.mul_eq_zero.mp e1 with z | z <;> exact z
    have z2 : a.y - c.y = 0 := by rcases Rat.mul_eq_zero.mp e2 with z | z <;> exact z
    cases a; cases c
    simp only [Pt.mk.injEq]
    exact ⟨by grind, by grind⟩
  grind
theorem share_sub (c a : Pt) (t : Rat) : (c.share a t).sub c = ⟨shU t * (a.x - c.x) - shV t * (a.y - c.y), shV t * (a.x - c.x) + shU t * (a.y - c.y)⟩ := by
  unfold Pt.share Pt.add Pt.sub
  congr 1 <;> grind
theorem whole_share {c a : Pt} {t : Rat} : c.whole a (c.share a t) = (a.sub c).along (a.sub c) * (1 + shU t) := by
  unfold Pt.whole
  rw [share_sub]
  unfold Pt.along Pt.sub
  grind
theorem across_share {c a : Pt} {t : Rat} : (a.sub c).across ((c.share a t).sub c) = (a.sub c).along (a.sub c) * shV t := by
  rw [share_sub]
  unfold Pt.along Pt.across Pt.sub
  grind
theorem uS1 (t : Rat) : 1 + shU t = 2 / (1 + t * t) := by
  have := one_sq t
  rw [uS_eq]
  grind
theorem share_0 (c a : Pt) : c.share a 0 = a := by
  have h1 : shU 0 = 1 := by decide
  have h2 : shV 0 = 0 := by decide
  unfold Pt.share Pt.add
  rw [h1, h2]
  cases a
  congr 1 <;> grind
def qOf (s l : Rat) : Int := if 0 < s ∧ 0 ≤ l then 0 else if 0 < l then 1 else if s < 0 then 2 else 3
def aheadB (c f p q : Pt) : Bool :=
  if qOf ((f.sub c).along (p.sub c)) ((f.sub c).across (p.sub c)) ≠ qOf ((f.sub c).along (q.sub c)) ((f.sub c).across (q.sub c)) then decide (qOf ((f.sub c).along (p.sub c)) ((f.sub c).across (p.sub c)) < qOf ((f.sub c).along (q.sub c)) ((f.sub c).across (q.sub c)))
  else decide (0 < (p.sub c).across (q.sub c))
/-- the place of a point: in which part of the way round, and how far by the half of the angle -/
def placeP (c f p : Pt) : Int × Rat :=
  if c.whole f p = 0 then (1, 0) else if (f.sub c).across (p.sub c) < 0 then (2, (f.sub c).across (p.sub c) / c.whole f p) else (0, (f.sub c).across (p.sub c) / c.whole f p)
def earlierB (z w : Int × Rat) : Bool := if z.1 ≠ w.1 then decide (z.1 < w.1) else decide (z.2 < w.2)
/-- on the circle -/
def OnC (c f p : Pt) : Prop := (p.sub c).along (p.sub c) = (f.sub c).along (f.sub c)
theorem pt_ext {p q : Pt} (h1 : p.x = q.x) (h2 : p.y = q.y) : p = q := by
  cases p; cases q
  simp only [Pt.mk.injEq]
  exact ⟨h1, h2⟩
theorem along_share {c a : Pt} {t : Rat} : (a.sub c).along ((c.share a t).sub c) = (a.sub c).along (a.sub c) * shU t := by
  rw [share_sub]
  unfold Pt.along Pt.sub
  grind
theorem uv_one (t : Rat) : shU t * shU t + shV t * shV t = 1 := by
  have := one_sq t
  rw [uS_eq, vS_eq]
  grind
theorem onC_share (c a : Pt) (t : Rat) : OnC c a (c.share a t) := by
  have h := uv_one t
  unfold OnC
  rw [share_sub]
  unfold Pt.along Pt.sub
  generalize shU t = u at *
  generalize shV t = v at *
  grind
theorem onC_opp (c a : Pt) : OnC c a ((c.add c).sub a) := by
  unfold OnC Pt.along Pt.sub Pt.add
  grind
theorem sum_sq {x y : Rat} (h : x * x + y * y = 0) : x = 0 ∧ y = 0 := by
  have h1 := sq_nn x
  have h2 := sq_nn y
  have e1 : x * x = 0 := by grind
  have e2 : y * y = 0 := by grind
  exact ⟨by rcases Rat.mul_eq_zero.mp e1 with z | z <;> exact z, by rcases Rat.mul_eq_zero.mp e2 with z | z <;> exact z⟩
/-- a point of the circle is opposite, or at a share -/
theorem onC_cases {c f p : Pt} (hf : f ≠ c) (h : OnC c f p) : p = (c.add c).sub f ∨ p = c.share f ((f.sub c).across (p.sub c) / c.whole f p) := by
  have hr := r_pos hf
  unfold OnC at h
  unfold Pt.whole
  by_cases hw : (f.sub c).along (f.sub c) + (f.sub c).along (p.sub c) = 0
  · left
    have e : ((f.x - c.x) + (p.x - c.x)) * ((f.x - c.x) + (p.x - c.x)) + ((f.y - c.y) + (p.y - c.y)) * ((f.y - c.y) + (p.y - c.y)) = 0 := by
      unfold Pt.along Pt.sub at hw h
      grind
    obtain ⟨e1, e2⟩ := sum_sq e
    refine pt_ext ?_ ?_ <;> unfold Pt.add Pt.sub <;> grind
  · right
    generalize ht : (f.sub c).across (p.sub c) / ((f.sub c).along (f.sub c) + (f.sub c).along (p.sub c)) = t
    have h1 := one_sq t
    unfold Pt.share
    rw [uS_eq, vS_eq]
    have hx : ∃ x, x = f.x - c.x := ⟨_, rfl⟩
    have hy : ∃ y, y = f.y - c.y := ⟨_, rfl⟩
    have hu : ∃ u, u = p.x - c.x := ⟨_, rfl⟩
    have hv : ∃ v, v = p.y - c.y := ⟨_, rfl⟩
    obtain ⟨x, hx⟩ := hx
    obtain ⟨y, hy⟩ := hy
    obtain ⟨u, hu⟩ := hu
    obtain ⟨v, hv⟩ := hv
    have hw2 : x * x + y * y + (x * u + y * v) ≠ 0 := by unfold Pt.along Pt.sub at hw; rw [hx, hy, hu, hv]; exact hw
    have hr2 : 0 < x * x + y * y := by unfold Pt.along Pt.sub at hr; rw [hx, hy]; exact hr
    have h2 : u * u + v * v = x * x + y * y := by unfold Pt.along Pt.sub at h; rw [hx, hy, hu, hv]; exact h
    have ht2 : t * (x * x + y * y + (x * u + y * v)) = x * v - y * u := by
      have : t = (x * v - y * u) / (x * x + y * y + (x * u + y * v)) := by rw [← ht, hx, hy, hu, hv]; rfl
      rw [this]
      grind
    have key : (1 + t * t) * (x * x + y * y + (x * u + y * v)) = 2 * (x * x + y * y) := by
      have : (1 + t * t) * (x * x + y * y + (x * u + y * v)) * (x * x + y * y + (x * u + y * v)) = 2 * (x * x + y * y) * (x * x + y * y + (x * u + y * v)) := by grind
      grind
    have gx : (1 - t * t) / (1 + t * t) * x - (t + t) / (1 + t * t) * y = u := by
      have : ((1 - t * t) * x - (t + t) * y) = u * (1 + t * t) := by
        have : (((1 - t * t) * x - (t + t) * y) - u * (1 + t * t)) * (x * x + y * y + (x * u + y * v)) = 0 := by grind
        grind
      grind
    have gy : (t + t) / (1 + t * t) * x + (1 - t * t) / (1 + t * t) * y = v := by
      have : ((t + t) * x + (1 - t * t) * y) = v * (1 + t * t) := by
        have : (((t + t) * x + (1 - t * t) * y) - v * (1 + t * t)) * (x * x + y * y + (x * u + y * v)) = 0 := by grind
        grind
      grind
    refine pt_ext ?_ ?_
    · show p.x = c.x + ((1 - t * t) / (1 + t * t) * (f.x - c.x) - (t + t) / (1 + t * t) * (f.y - c.y))
      rw [← hx, ← hy, gx]
      grind
    · show p.y = c.y + ((t + t) / (1 + t * t) * (f.x - c.x) + (1 - t * t) / (1 + t * t) * (f.y - c.y))
      rw [← hx, ← hy, gy]
      grind
theorem pos_mul_iff {r x : Rat} (hr : 0 < r) : 0 < r * x ↔ 0 < x := by
  have := @Rat.mul_lt_mul_right 0 x r hr
  rw [Rat.zero_mul, Rat.mul_comm x r] at this
  exact this
theorem neg_mul_iff {r x : Rat} (hr : 0 < r) : r * x < 0 ↔ x < 0 := by
  have := @Rat.mul_lt_mul_right x 0 r hr
  rw [Rat.zero_mul, Rat.mul_comm x r] at this
  exact this
theorem uS_pos (t : Rat) : 0 < shU t ↔ -1 < t ∧ t < 1 := by
  have h := one_sq t
  have h0 := sq_nn t
  have hd : 0 < 1 + t * t := by grind
  have e : shU t * (1 + t * t) = (1 - t) * (1 + t) := by rw [uS_eq]; grind
  rw [← pos_mul_iff hd, Rat.mul_comm, e]
  constructor
  · intro h
    constructor
    · by_cases h1 : -1 < t
      · exact h1
      · exfalso
        have : 0 ≤ (1 - t) * (-(1 + t)) := Rat.mul_nonneg (by grind) (by grind)
        grind
    · by_cases h1 : t < 1
      · exact h1
      · exfalso
        have : 0 ≤ (-(1 - t)) * (1 + t) := Rat.mul_nonneg (by grind) (by grind)
        grind
  · rintro ⟨h1, h2⟩
    exact Rat.mul_pos (by grind) (by grind)
theorem uS_neg (t : Rat) : shU t < 0 ↔ t < -1 ∨ 1 < t := by
  have h := one_sq t
  have h0 := sq_nn t
  have hd : 0 < 1 + t * t := by grind
  have e : shU t * (1 + t * t) = (1 - t) * (1 + t) := by rw [uS_eq]; grind
  rw [← neg_mul_iff hd, Rat.mul_comm, e]
  constructor
  · intro h
    by_cases h1 : t < -1
    · exact .inl h1
    · by_cases h2 : 1 < t
      · exact .inr h2
      · exfalso
        have : 0 ≤ (1 - t) * (1 + t) := Rat.mul_nonneg (by grind) (by grind)
        grind
  · rintro (h1 | h1)
    · have : 0 < (1 - t) * (-(1 + t)) := Rat.mul_pos (by grind) (by grind)
      grind
    · have : 0 < (-(1 - t)) * (1 + t) := Rat.mul_pos (by grind) (by grind)
      grind
theorem vS_pos (t : Rat) : 0 < shV t ↔ 0 < t := by
  have h := one_sq t
  have h0 := sq_nn t
  have hd : 0 < 1 + t * t := by grind
  have e : shV t * (1 + t * t) = 2 * t := by rw [vS_eq]; grind
  rw [← pos_mul_iff hd, Rat.mul_comm, e]
  grind
theorem vS_neg (t : Rat) : shV t < 0 ↔ t < 0 := by
  have h := one_sq t
  have h0 := sq_nn t
  have hd : 0 < 1 + t * t := by grind
  have e : shV t * (1 + t * t) = 2 * t := by rw [vS_eq]; grind
  rw [← neg_mul_iff hd, Rat.mul_comm, e]
  grind
theorem qOf_share {r t : Rat} (hr : 0 < r) : qOf (r * shU t) (r * shV t) = if 0 ≤ t then (if t < 1 then 0 else 1) else (if t < -1 then 2 else 3) := by
  unfold qOf
  have h1 : 0 ≤ r * shV t ↔ 0 ≤ t := by
    have := neg_mul_iff (x := shV t) hr
    have h3 := vS_neg t
    constructor
    · intro h
      by_cases h4 : 0 ≤ t
      · exact h4
      · have : r * shV t < 0 := this.mpr (h3.mpr (by grind))
        grind
    · intro h
      by_cases h4 : 0 ≤ r * shV t
      · exact h4
      · have := h3.mp (this.mp (by grind))
        grind
  simp only [pos_mul_iff hr, neg_mul_iff hr, h1, uS_pos, uS_neg, vS_pos]
  by_cases a : 0 ≤ t
  · rw [if_pos a]
    by_cases b : t < 1
    · rw [if_pos b, if_pos ⟨⟨by grind, b⟩, a⟩]
    · rw [if_neg b, if_neg (fun h => b h.1.2), if_pos (by grind)]
  · rw [if_neg a, if_neg (fun h => a h.2), if_neg (by grind)]
    by_cases b : t < -1
    · rw [if_pos b, if_pos (.inl b)]
    · rw [if_neg b, if_neg (by grind)]
theorem placeP_share {c f : Pt} (hf : f ≠ c) (t : Rat) : placeP c f (c.share f t) = if t < 0 then (2, t) else (0, t) := by
  have hr := r_pos hf
  have h1 := one_sq t
  unfold placeP
  rw [whole_share, across_share, uS1]
  simp only [neg_mul_iff hr, vS_neg]
  rw [vS_eq]
  generalize (f.sub c).along (f.sub c) = r at *
  have hw : r * (2 / (1 + t * t)) ≠ 0 := by
    have : r * (2 / (1 + t * t)) * (1 + t * t) = 2 * r := by grind
    grind
  rw [if_neg hw]
  have : r * ((t + t) / (1 + t * t)) / (r * (2 / (1 + t * t))) = t := by grind
  rw [this]
theorem placeP_opp {c f : Pt} : placeP c f ((c.add c).sub f) = (1, 0) := by
  unfold placeP
  rw [if_pos]
  unfold Pt.whole Pt.along Pt.sub Pt.add
  grind
theorem q_opp {c f : Pt} (hf : f ≠ c) : qOf ((f.sub c).along (((c.add c).sub f).sub c)) ((f.sub c).across (((c.add c).sub f).sub c)) = 2 := by
  have hr := r_pos hf
  have e1 : (f.sub c).along (((c.add c).sub f).sub c) = - (f.sub c).along (f.sub c) := by
    unfold Pt.along Pt.sub Pt.add
    grind
  have e2 : (f.sub c).across (((c.add c).sub f).sub c) = 0 := by
    unfold Pt.across Pt.sub Pt.add
    grind
  rw [e1, e2]
  unfold qOf
  rw [if_neg (by grind), if_neg (by grind), if_pos (by grind)]
theorem across_two {c f : Pt} {t s : Rat} : ((c.share f t).sub c).across ((c.share f s).sub c) = (f.sub c).along (f.sub c) * (shU t * shV s - shV t * shU s) := by
  rw [share_sub, share_sub]
  unfold Pt.along Pt.across Pt.sub
  grind
theorem cross_pos {t s : Rat} (h : 0 ≤ t ∧ 0 ≤ s ∨ t < 0 ∧ s < 0) : 0 < shU t * shV s - shV t * shU s ↔ t < s := by
  have h1 := one_sq t
  have h2 := one_sq s
  have a1 := sq_nn t
  have a2 := sq_nn s
  have hts : 0 ≤ t * s := by
    rcases h with ⟨x, y⟩ | ⟨x, y⟩
    · exact Rat.mul_nonneg x y
    · have : 0 ≤ (-t) * (-s) := Rat.mul_nonneg (by grind) (by grind)
      grind
  have hd : 0 < (1 + t * t) * (1 + s * s) := Rat.mul_pos (by grind) (by grind)
  have e : (1 + t * t) * (1 + s * s) * (shU t * shV s - shV t * shU s) = 2 * (1 + t * s) * (s - t) := by
    rw [uS_eq, uS_eq, vS_eq, vS_eq]
    grind
  rw [← pos_mul_iff hd, e, pos_mul_iff (by grind)]
  grind
theorem ahead_place {c f p q : Pt} (hf : f ≠ c) (hp : OnC c f p) (hq : OnC c f q) : aheadB c f p q = earlierB (placeP c f p) (placeP c f q) := by
  have hr := r_pos hf
  unfold aheadB
  rcases onC_cases hf hp with e | e <;> rcases onC_cases hf hq with e' | e'
  · rw [e, e', placeP_opp, q_opp hf]
    have : ((((c.add c).sub f).sub c).across (((c.add c).sub f).sub c)) = 0 := by unfold Pt.across; grind
    rw [this]
    rfl
  · generalize (f.sub c).across (q.sub c) / c.whole f q = s at e'
    rw [e, e', placeP_opp, q_opp hf, placeP_share hf, along_share, across_share, qOf_share hr]
    have : (((c.add c).sub f).sub c).across ((c.share f s).sub c) = - ((f.sub c).along (f.sub c) * shV s) := by
      rw [← across_share]
      unfold Pt.across Pt.sub Pt.add
      grind
    rw [this]
    have hv := neg_mul_iff (x := shV s) hr
    rw [vS_neg] at hv
    unfold earlierB
    by_cases a : 0 ≤ s
    · rw [if_pos a, if_neg (by grind : ¬ s < 0)]
      by_cases b : s < 1
      · rw [if_pos b] <;> rfl
      · rw [if_neg b] <;> rfl
    · rw [if_neg a, if_pos (by grind : s < 0)]
      by_cases b : s < -1
      · rw [if_pos b, if_neg (by decide)]
        have : 0 < -((f.sub c).along (f.sub c) * shV s) := by
          have := hv.mpr (by grind)
          grind
        rw [decide_eq_true this]
        rfl
      · rw [if_neg b] <;> rfl
  · generalize (f.sub c).across (p.sub c) / c.whole f p = s at e
    rw [e, e', placeP_opp, q_opp hf, placeP_share hf, along_share, across_share, qOf_share hr]
    have : ((c.share f s).sub c).across (((c.add c).sub f).sub c) = ((f.sub c).along (f.sub c) * shV s) := by
      rw [← across_share]
      unfold Pt.across Pt.sub Pt.add
      grind
    rw [this]
    have hv := neg_mul_iff (x := shV s) hr
    rw [vS_neg] at hv
    unfold earlierB
    by_cases a : 0 ≤ s
    · rw [if_pos a, if_neg (by grind : ¬ s < 0)]
      by_cases b : s < 1
      · rw [if_pos b] <;> rfl
      · rw [if_neg b] <;> rfl
    · rw [if_neg a, if_pos (by grind : s < 0)]
      by_cases b : s < -1
      · rw [if_pos b, if_neg (by decide)]
        have : ¬ 0 < ((f.sub c).along (f.sub c) * shV s) := by
          have := hv.mpr (by grind)
          grind
        rw [decide_eq_false this]
        rfl
      · rw [if_neg b] <;> rfl
  · generalize (f.sub c).across (p.sub c) / c.whole f p = t at e
    generalize (f.sub c).across (q.sub c) / c.whole f q = s at e'
    rw [e, e', placeP_share hf, placeP_share hf, along_share, across_share, along_share, across_share, qOf_share hr, qOf_share hr, across_two]
    unfold earlierB
    simp only [pos_mul_iff hr]
    by_cases a : 0 ≤ t <;> by_cases b : 0 ≤ s
    · rw [if_pos a, if_pos b, if_neg (by grind : ¬ t < 0), if_neg (by grind : ¬ s < 0)]
      simp only [cross_pos (.inl ⟨a, b⟩)]
      by_cases x : t < 1 <;> by_cases y : s < 1
      · rw [if_pos x, if_pos y] <;> rfl
      · rw [if_pos x, if_neg y]
        have : t < s := by grind
        rw [decide_eq_true this] <;> rfl
      · rw [if_neg x, if_pos y]
        have : ¬ t < s := by grind
        rw [decide_eq_false this] <;> rfl
      · rw [if_neg x, if_neg y] <;> rfl
    · rw [if_pos a, if_neg b, if_neg (by grind : ¬ t < 0), if_pos (by grind : s < 0)]
      by_cases x : t < 1 <;> by_cases y : s < -1
      · rw [if_pos x, if_pos y] <;> rfl
      · rw [if_pos x, if_neg y] <;> rfl
      · rw [if_neg x, if_pos y] <;> rfl
      · rw [if_neg x, if_neg y] <;> rfl
    · rw [if_neg a, if_pos b, if_pos (by grind : t < 0), if_neg (by grind : ¬ s < 0)]
      by_cases x : t < -1 <;> by_cases y : s < 1
      · rw [if_pos x, if_pos y] <;> rfl
      · rw [if_pos x, if_neg y] <;> rfl
      · rw [if_neg x, if_pos y] <;> rfl
      · rw [if_neg x, if_neg y] <;> rfl
    · rw [if_neg a, if_neg b, if_pos (by grind : t < 0), if_pos (by grind : s < 0)]
      simp only [cross_pos (t := t) (s := s) (.inr ⟨by grind, by grind⟩)]
      by_cases x : t < -1 <;> by_cases y : s < -1
      · rw [if_pos x, if_pos y] <;> rfl
      · rw [if_pos x, if_neg y]
        have : t < s := by grind
        rw [decide_eq_true this] <;> rfl
      · rw [if_neg x, if_pos y]
        have : ¬ t < s := by grind
        rw [decide_eq_false this] <;> rfl
      · rw [if_neg x, if_neg y] <;> rfl
/-- as the law draws points round a centre -/
def Rnd (k : Nat) (c a p : Pt) : Prop := p = (c.add c).sub a ∨ ∃ t, Fb k t ∧ p = c.share a t
theorem Rnd.on {k : Nat} {c a p : Pt} (h : Rnd k c a p) : OnC c a p := by
  rcases h with rfl | ⟨t, _, rfl⟩
  · exact onC_opp c a
  · exact onC_share c a t
theorem Rnd.pb {k n m : Nat} {c a p : Pt} (h : Rnd k c a p) (hc : Pb n c) (ha : Pb m a) : Pb (3 * n + 2 * m + 4 * k + 8) p := by
  rcases h with rfl | ⟨t, ht, rfl⟩
  · exact (pb_sub (pb_add hc hc) ha).mono (by omega)
  · exact pb_share hc ha ht
def Lay (n : Nat) (d : PyData) : Prop := d.canLay0 = true ∧ d.depth ≤ n
theorem Lay.mono {n m : Nat} {d : PyData} (h : Lay n d) (k : n ≤ m) : Lay m d := ⟨h.1, Nat.le_trans h.2 k⟩
theorem lay_all {n : Nat} : ∀ {ds : List PyData}, (∀ d ∈ ds, Lay n d) → PyData.canLayAll0 ds = true ∧ PyData.depthAll ds ≤ n
  | [], _ => ⟨by simp only [PyData.canLayAll0], by simp only [PyData.depthAll]; omega⟩
  | d :: ds, h => by
    have h1 := h d List.mem_cons_self
    have h2 := lay_all fun e he => h e (List.mem_cons_of_mem _ he)
    refine ⟨by simp only [PyData.canLayAll0, h1.1, h2.1, Bool.and_self], ?_⟩
    have := h1.2
    have := h2.2
    simp only [PyData.depthAll]
    omega
theorem lay_list {n : Nat} {ds : List PyData} (h : ∀ d ∈ ds, Lay n d) : Lay (n + 1) (.list ds) := by
  have := lay_all h
  exact ⟨by simp only [PyData.canLay0]; exact this.1, by simp only [PyData.depth]; omega⟩
theorem lay_tup {n : Nat} {ds : List PyData} (h : ∀ d ∈ ds, Lay n d) : Lay (n + 1) (.tuple ds) := by
  have := lay_all h
  exact ⟨by simp only [PyData.canLay0]; exact this.1, by simp only [PyData.depth]; omega⟩
theorem lay_nil {n : Nat} : ∀ d ∈ ([] : List PyData), Lay n d := fun _ h => nomatch h
theorem lay_cons {n : Nat} {d : PyData} {ds : List PyData} (h : Lay n d) (t : ∀ e ∈ ds, Lay n e) : ∀ e ∈ d :: ds, Lay n e := fa_cons h t
theorem lay_map {α : Type} {n : Nat} {l : List α} {f : α → PyData} (h : ∀ a, Lay n (f a)) : ∀ d ∈ l.map f, Lay n d := fun d hd => by
  obtain ⟨a, _, rfl⟩ := List.mem_map.mp hd
  exact h a
theorem lay_int (i : Int) : Lay 0 (.int i) := ⟨rfl, Nat.le_refl _⟩
theorem lay_str {x : Str} (h : PyData.canLay0 (.str x) = true) : Lay 0 (.str x) := ⟨h, Nat.le_refl _⟩
theorem lay_fr (x : Rat) : Lay 1 (fr x) := lay_tup (lay_cons (lay_int _) (lay_cons (lay_int _) lay_nil))
theorem lay_pt (p : Pt) : Lay 2 (pt p) := lay_tup (lay_cons (lay_fr _) (lay_cons (lay_fr _) lay_nil))
theorem Lay.sh {n : Nat} {d : PyData} (h : Lay n d) (k : n ≤ 64 := by decide) : SeqAt.shaped d = true := by
  show (d.canLay0 && decide (d.depth ≤ 64)) = true
  rw [h.1, decide_eq_true (Nat.le_trans h.2 k)]
  rfl
theorem Lay.rfl {n : Nat} {d : PyData} (h : Lay n d) : PyData.eqv d d = true := SeqAt.eqv_refl d h.1
theorem take_snoc {α : Type} {l : List α} {i : Nat} {x : α} (h : l[i]? = some x) : l.take (i + 1) = l.take i ++ [x] := by
  rw [List.take_add_one, h]
  rfl

local macro_rules | `(tactic| walk_at "ob") => `(tactic| with_reducible exact div_ok (b := 64) (by decide) (by decide))
def drawnR (o t : Int) : Rat := if t % 5 = 4 then Rat.divInt (o * 7 % 1999999 - 999999) (1 + t * 13 % 999999) else Rat.divInt (o % 41 - 20) (1 + o.fdiv 41 % (if t % 3 = 2 then 9 else 1))
structure Fr where
  place : Pt
  turns : Int
  hand : Int
  size : Rat
deriving DecidableEq
def frD (f : Fr) : PyData := .tuple [pt f.place, .int f.turns, .int f.hand, fr f.size]
structure Fr.ok (f : Fr) : Prop where
  t0 : 0 ≤ f.turns
  t1 : f.turns < 4
  hd : f.hand = 1 ∨ f.hand = -1
  sz : 0 < f.size
structure Frb (n : Nat) (f : Fr) : Prop where
  pl : Pb n f.place
  sz : Fb n f.size
def Fr.one : Fr := ⟨⟨0, 0⟩, 0, 1, 1⟩
def Fr.led (f : Fr) (p : Pt) : Pt := (((⟨p.x, (f.hand : Rat) * p.y⟩ : Pt).turn (f.turns % 4).toNat).smul f.size).add f.place
theorem hand_fr {h : Int} (hh : h = 1 ∨ h = -1) (y : Rat) : PyData.tuple [.int (h * y.num), .int y.den] = fr ((h : Rat) * y) := by
  rcases hh with rfl | rfl
  · rw [Int.one_mul]
    have : ((1 : Int) : Rat) * y = y := Rat.one_mul y
    rw [this] <;> rfl
  · have : ((-1 : Int) : Rat) * y = -y := by
      have e : ((-1 : Int) : Rat) = -1 := by decide
      rw [e]
      grind
    rw [this]
    unfold fr
    rw [Rat.neg_num, Rat.neg_den, Int.neg_mul, Int.one_mul]
theorem fb_hand {h : Int} (hh : h = 1 ∨ h = -1) {y : Rat} {n : Nat} (hy : Fb n y) : Fb n ((h : Rat) * y) := by
  rcases hh with rfl | rfl
  · have : ((1 : Int) : Rat) * y = y := Rat.one_mul y
    rw [this]
    exact hy
  · have : ((-1 : Int) : Rat) * y = -y := by
      have e : ((-1 : Int) : Rat) = -1 := by decide
      rw [e]
      grind
    rw [this]
    exact fb_neg hy
theorem pb_handed {f : Fr} (hf : f.ok) {p : Pt} {n : Nat} (hp : Pb n p) : Pb n (⟨p.x, (f.hand : Rat) * p.y⟩ : Pt) := ⟨hp.1, fb_hand hf.hd hp.2⟩
theorem pb_led {f : Fr} {p : Pt} {n k : Nat} (hf : f.ok) (hn : Frb n f) (hp : Pb k p) : Pb (k + n + n + 1) (f.led p) := pb_add (pb_smul (pb_turn (pb_handed hf hp) _) hn.sz) hn.pl
theorem led_one (p : Pt) : Fr.one.led p = p := by
  show ((⟨p.x, ((1 : Int) : Rat) * p.y⟩ : Pt).smul 1).add ⟨0, 0⟩ = p
  have : ((1 : Int) : Rat) * p.y = p.y := Rat.one_mul _
  rw [this]
  unfold Pt.smul Pt.add
  cases p
  simp only [Pt.mk.injEq]
  exact ⟨by grind, by grind⟩
theorem one_ok : Fr.one.ok := ⟨by decide, by decide, .inl rfl, by decide⟩
theorem cut_len {α : Type} (xs : List α) (lo hi : Option Int) : (cutL xs lo hi).length ≤ xs.length := by
  unfold cutL
  rw [List.length_take, List.length_drop]
  omega
def Fr.behind (f g : Fr) : Fr := ⟨f.led g.place, (f.turns + f.hand * g.turns) % 4, f.hand * g.hand, f.size * g.size⟩
def Fr.undone (f : Fr) : Fr := ⟨(⟨0, 0⟩ : Pt).sub ((⟨⟨0, 0⟩, (0 - f.hand * f.turns) % 4, f.hand, 1 / f.size⟩ : Fr).led f.place), (0 - f.hand * f.turns) % 4, f.hand, 1 / f.size⟩
theorem fr_ext {f g : Fr} (h1 : f.place = g.place) (h2 : f.turns = g.turns) (h3 : f.hand = g.hand) (h4 : f.size = g.size) : f = g := by
  cases f; cases g
  simp only [Fr.mk.injEq]
  exact ⟨h1, h2, h3, h4⟩
theorem hand_pm {h : Int} (hh : h = 1 ∨ h = -1) : (h : Rat) = 1 ∨ (h : Rat) = -1 := by
  rcases hh with rfl | rfl
  · left; rfl
  · right; rfl
/-- what a frame does, by its turns and hand -/
def lin (t : Nat) (h : Rat) (p : Pt) : Pt := (⟨p.x, h * p.y⟩ : Pt).turn t
theorem lin_add (t : Nat) (h : Rat) (p q : Pt) : lin t h (p.add q) = (lin t h p).add (lin t h q) := by
  unfold lin
  induction t with
  | zero =>
    unfold Pt.turn Pt.add
    refine pt_ext rfl ?_
    show h * (p.y + q.y) = h * p.y + h * q.y
    grind
  | succ n ih =>
    unfold Pt.turn
    rw [ih]
    unfold Pt.quarter Pt.add
    refine pt_ext ?_ rfl
    show -(_ + _) = -_ + -_
    grind
theorem lin_smul (t : Nat) (h : Rat) (p : Pt) (z : Rat) : lin t h (p.smul z) = (lin t h p).smul z := by
  unfold lin
  induction t with
  | zero =>
    unfold Pt.turn Pt.smul
    refine pt_ext rfl ?_
    show h * (p.y * z) = h * p.y * z
    grind
  | succ n ih =>
    unfold Pt.turn
    rw [ih]
    unfold Pt.quarter Pt.smul
    refine pt_ext ?_ rfl
    show -(_ * _) = -_ * _
    grind
theorem turn_add (p : Pt) (m n : Nat) : (p.turn m).turn n = p.turn (m + n) := by
  induction n with
  | zero => rfl
  | succ n ih => show ((p.turn m).turn n).quarter = (p.turn (m + n)).quarter; rw [ih]
theorem turn4 (p : Pt) : p.turn 4 = p := by
  show (⟨- -p.x, - -p.y⟩ : Pt) = p
  refine pt_ext ?_ ?_ <;> exact Rat.neg_neg _
theorem turn_mod (p : Pt) (n : Nat) : p.turn n = p.turn (n % 4) := by
  induction n using Nat.strongRecOn with
  | ind n ih =>
    by_cases h : n < 4
    · rw [Nat.mod_eq_of_lt h]
    · have e : n = 4 + (n - 4) := by omega
      have e2 : n % 4 = (n - 4) % 4 := by omega
      rw [e2, ← ih (n - 4) (by omega), e, ← turn_add, turn4]
      congr 1
      omega
/-- a hand behind turns -/
theorem hand_turn {h : Rat} (hh : h = 1 ∨ h = -1) (p : Pt) (t : Int) (h0 : 0 ≤ t) (h1 : t < 4) {hi : Int} (he : (hi : Rat) = h) (hp : hi = 1 ∨ hi = -1) : (⟨(p.turn t.toNat).x, h * (p.turn t.toNat).y⟩ : Pt) = (⟨p.x, h * p.y⟩ : Pt).turn ((hi * t) % 4).toNat := by
  rcases hp with rfl | rfl
  · have e : h = 1 := he.symm
    subst e
    have e2 : ((1 * t) % 4).toNat = t.toNat := by omega
    rw [e2]
    have : ∀ q : Pt, (⟨q.x, 1 * q.y⟩ : Pt) = q := fun q => pt_ext rfl (Rat.one_mul _)
    rw [this, this]
  · have e : h = -1 := he.symm
    subst e
    rcases (show t = 0 ∨ t = 1 ∨ t = 2 ∨ t = 3 by omega) with rfl | rfl | rfl | rfl <;> refine pt_ext ?_ ?_ <;> simp only [show ((-1 * 0 : Int) % 4).toNat = 0 from rfl, show ((-1 * 1 : Int) % 4).toNat = 3 from rfl, show ((-1 * 2 : Int) % 4).toNat = 2 from rfl, show ((-1 * 3 : Int) % 4).toNat = 1 from rfl, show (0 : Int).toNat = 0 from rfl, show (1 : Int).toNat = 1 from rfl, show (2 : Int).toNat = 2 from rfl, show (3 : Int).toNat = 3 from rfl, Pt.turn, Pt.quarter] <;> grind
theorem led_lin (f : Fr) (p : Pt) : f.led p = ((lin (f.turns % 4).toNat f.hand p).smul f.size).add f.place := rfl
theorem led_behind {f g : Fr} (hf : f.ok) (hg : g.ok) (p : Pt) : (f.behind g).led p = f.led (g.led p) := by
  have e0 : f.led (g.led p) = ((lin (f.turns % 4).toNat f.hand (lin (g.turns % 4).toNat g.hand p)).smul (f.size * g.size)).add (f.led g.place) := by
    rw [led_lin f, led_lin g, lin_add, lin_smul, led_lin f g.place]
    unfold Pt.smul Pt.add
    refine pt_ext ?_ ?_
    · show (_ * _ + _) * _ + _ = _ * (_ * _) + (_ * _ + _)
      grind
    · show (_ * _ + _) * _ + _ = _ * (_ * _) + (_ * _ + _)
      grind
  rw [e0]
  show ((lin (((f.turns + f.hand * g.turns) % 4) % 4).toNat ((f.hand * g.hand : Int) : Rat) p).smul (f.size * g.size)).add (f.led g.place) = _
  congr 2
  unfold lin
  have hgt : (g.turns % 4).toNat = g.turns.toNat := by have := hg.t0; have := hg.t1; omega
  rw [hgt, hand_turn (hand_pm hf.hd) _ g.turns hg.t0 hg.t1 rfl hf.hd, turn_add, turn_mod _ (_ + _)]
  have e1 : (((f.hand * g.turns) % 4).toNat + (f.turns % 4).toNat) % 4 = (((f.turns + f.hand * g.turns) % 4) % 4).toNat := by
    generalize f.hand * g.turns = z
    omega
  rw [e1, Rat.intCast_mul, Rat.mul_assoc]
theorem behind_ok {f g : Fr} (hf : f.ok) (hg : g.ok) : (f.behind g).ok where
  t0 := Int.emod_nonneg _ (by decide)
  t1 := Int.emod_lt_of_pos _ (by decide)
  hd := by
    show f.hand * g.hand = 1 ∨ f.hand * g.hand = -1
    rcases hf.hd with h | h <;> rcases hg.hd with h' | h' <;> rw [h, h'] <;> decide
  sz := Rat.mul_pos hf.sz hg.sz
theorem led_zero {f : Fr} (hf : f.ok) : f.led ⟨0, 0⟩ = f.place := by
  rw [led_lin]
  have : lin (f.turns % 4).toNat f.hand ⟨0, 0⟩ = ⟨0, 0⟩ := by
    have h0 := hf.t0
    have h1 := hf.t1
    have ht : f.turns = 0 ∨ f.turns = 1 ∨ f.turns = 2 ∨ f.turns = 3 := by omega
    rcases ht with t | t | t | t <;> rw [t] <;> refine pt_ext ?_ ?_ <;> simp [lin, Pt.turn, Pt.quarter]
  rw [this]
  unfold Pt.smul Pt.add
  refine pt_ext ?_ ?_
  · show 0 * _ + _ = _
    grind
  · show 0 * _ + _ = _
    grind
theorem behind_assoc {f g k : Fr} (hf : f.ok) (hg : g.ok) : (f.behind g).behind k = f.behind (g.behind k) := by
  refine fr_ext ?_ ?_ ?_ ?_
  · exact led_behind hf hg _
  · show ((f.turns + f.hand * g.turns) % 4 + f.hand * g.hand * k.turns) % 4 = (f.turns + f.hand * ((g.turns + g.hand * k.turns) % 4)) % 4
    rcases hf.hd with h | h <;> rw [h]
    · rw [Int.one_mul, Int.one_mul, Int.one_mul]
      generalize g.hand * k.turns = z
      omega
    · rw [show (-1 : Int) * g.turns = -g.turns by omega, show (-1 : Int) * g.hand * k.turns = -(g.hand * k.turns) by rw [Int.neg_mul, Int.one_mul, Int.neg_mul]]
      generalize g.hand * k.turns = z
      omega
  · exact Int.mul_assoc _ _ _
  · exact Rat.mul_assoc _ _ _
theorem one_behind {f : Fr} (hf : f.ok) (h1 : ∀ p, Fr.one.led p = p) : Fr.one.behind f = f := by
  have h0 := hf.t0
  have h2 := hf.t1
  refine fr_ext (h1 _) ?_ (Int.one_mul _) (Rat.one_mul _)
  show (0 + 1 * f.turns) % 4 = f.turns
  omega
theorem behind_one {f : Fr} (hf : f.ok) : f.behind Fr.one = f := by
  have h0 := hf.t0
  have h2 := hf.t1
  refine fr_ext (led_zero hf) ?_ (Int.mul_one _) (Rat.mul_one _)
  show (f.turns + f.hand * 0) % 4 = f.turns
  omega
theorem Frb.mono {n m : Nat} {f : Fr} (h : Frb n f) (k : n ≤ m) : Frb m f := ⟨h.pl.mono k, h.sz.mono k⟩

inductive Pc where
  | dot (p : Pt)
  | st (p q : Pt)
  | arc (c p q : Pt)
  | ring (c p : Pt)
deriving DecidableEq
def Pc.D : Pc → PyData
  | .dot p => .tuple [.str "dot", pt p]
  | .st p q => .tuple [.str "stretch", pt p, pt q]
  | .arc c p q => .tuple [.str "arc", pt c, pt p, pt q]
  | .ring c p => .tuple [.str "ring", pt c, pt p]
def Pc.pb (n : Nat) : Pc → Prop
  | .dot p => Pb n p
  | .st p q => Pb n p ∧ Pb n q
  | .arc c p q => Pb n c ∧ Pb n p ∧ Pb n q
  | .ring c p => Pb n c ∧ Pb n p
theorem lay_w {x : Str} (h : PyData.canLay0 (.str x) = true) {n : Nat} : Lay n (.str x) := (lay_str h).mono (Nat.zero_le _)
theorem lay_pc : ∀ z : Pc, Lay 3 z.D
  | .dot _ => lay_tup (lay_cons (lay_w (by decide +kernel)) (lay_cons (lay_pt _) lay_nil))
  | .st _ _ => lay_tup (lay_cons (lay_w (by decide +kernel)) (lay_cons (lay_pt _) (lay_cons (lay_pt _) lay_nil)))
  | .arc _ _ _ => lay_tup (lay_cons (lay_w (by decide +kernel)) (lay_cons (lay_pt _) (lay_cons (lay_pt _) (lay_cons (lay_pt _) lay_nil))))
  | .ring _ _ => lay_tup (lay_cons (lay_w (by decide +kernel)) (lay_cons (lay_pt _) (lay_cons (lay_pt _) lay_nil)))
def stretchP (p q : Pt) : Pc := if p = q then .dot p else if q.before p = true then .st q p else .st p q
def Pc.led (f : Fr) : Pc → Pc
  | .dot p => .dot (f.led p)
  | .st p q => stretchP (f.led p) (f.led q)
  | .arc c p q => if f.hand < 0 then .arc (f.led c) (f.led q) (f.led p) else .arc (f.led c) (f.led p) (f.led q)
  | .ring c p => .ring (f.led c) (f.led p)
inductive Raw where
  | dot (p : Pt)
  | st (p q : Pt)
  | arc (c p q : Pt)
def Raw.ok : Raw → Prop
  | .st p q => p.before q = true
  | _ => True
def Raw.led (f : Fr) : Raw → Pc
  | .dot p => .dot (f.led p)
  | .st p q => if (f.led q).before (f.led p) = true then .st (f.led q) (f.led p) else if f.led p = f.led q then .dot (f.led p) else .st (f.led p) (f.led q)
  | .arc c p q => if f.led p = f.led q then .ring (f.led c) (f.led p) else if f.hand < 0 then .arc (f.led c) (f.led q) (f.led p) else .arc (f.led c) (f.led p) (f.led q)
theorem bef_asym {p q : Pt} (h : p.before q = true) : q.before p = false := by
  cases h2 : q.before p with
  | false => rfl
  | true =>
    rw [bef_iff] at h h2
    exfalso
    grind
def Pc.on : Pc → Pt → Bool
  | .dot p, x => decide (x = p)
  | .st a b, x => onS a b x
  | .arc c p q, x => decide (c.far x = c.far p) && (decide (x = p) || decide (x = q) || aheadB c p x q)
  | .ring c p, x => decide (c.far x = c.far p)
def Pc.ok : Pc → Prop
  | .dot _ => True
  | .st p q => p.before q = true
  | .arc c p q => p ≠ c ∧ OnC c p q ∧ p ≠ q
  | .ring c p => p ≠ c
def Pc.flat : Pc → Prop
  | .dot _ => True
  | .st _ _ => True
  | _ => False
def Pc.last : Pc → Pt
  | .dot p => p
  | .st _ q => q
  | .arc _ _ q => q
  | .ring _ p => p
theorem far_on {c p x : Pt} : (c.far x = c.far p) ↔ OnC c p x := by
  unfold OnC Pt.far Pt.along Pt.sub
  constructor <;> intro h <;> grind
theorem placeP_self {c p : Pt} (h : p ≠ c) : placeP c p p = (0, 0) := by
  have e : p = c.share p 0 := (share_0 c p).symm
  have h2 := placeP_share h 0
  rw [← e] at h2
  rw [h2, if_neg (by decide)]
theorem placeP_inj {c f p q : Pt} (hf : f ≠ c) (hp : OnC c f p) (hq : OnC c f q) (h : placeP c f p = placeP c f q) : p = q := by
  rcases onC_cases hf hp with e | e <;> rcases onC_cases hf hq with e' | e'
  · rw [e, e']
  · generalize (f.sub c).across (q.sub c) / c.whole f q = s at e'
    rw [e, e', placeP_opp, placeP_share hf] at h
    exfalso
    have := congrArg Prod.fst h
    split at this <;> simp at this
  · generalize (f.sub c).across (p.sub c) / c.whole f p = s at e
    rw [e, e', placeP_opp, placeP_share hf] at h
    exfalso
    have := congrArg Prod.fst h
    split at this <;> simp at this
  · generalize (f.sub c).across (p.sub c) / c.whole f p = t at e
    generalize (f.sub c).across (q.sub c) / c.whole f q = s at e'
    rw [e, e', placeP_share hf, placeP_share hf] at h
    have h2 := congrArg Prod.snd h
    have g : ∀ t : Rat, (if t < 0 then ((2 : Int), t) else (0, t)).2 = t := fun t => by split <;> rfl
    rw [g, g] at h2
    rw [e, e', h2]
theorem place_nn {c f p : Pt} (hf : f ≠ c) (hp : OnC c f p) : earlierB (placeP c f p) (0, 0) = false := by
  rcases onC_cases hf hp with e | e
  · rw [e, placeP_opp]
    rfl
  · generalize (f.sub c).across (p.sub c) / c.whole f p = t at e
    rw [e, placeP_share hf]
    unfold earlierB
    by_cases c1 : t < 0
    · rw [if_pos c1]; rfl
    · rw [if_neg c1]
      show decide (t < 0) = false
      exact decide_eq_false c1
theorem earlier_irr (z : Int × Rat) : earlierB z z = false := by
  unfold earlierB
  rw [if_neg (fun h => h rfl)]
  exact decide_eq_false Rat.lt_irrefl
theorem earlier_not {z w : Int × Rat} (h : z ≠ w) : earlierB z w = !earlierB w z := by
  obtain ⟨i, x⟩ := z
  obtain ⟨j, y⟩ := w
  unfold earlierB
  by_cases c1 : i = j
  · subst c1
    rw [if_neg (fun h => h rfl), if_neg (fun h => h rfl)]
    have hxy : x ≠ y := fun e => h (by rw [e])
    show decide (x < y) = !decide (y < x)
    by_cases c2 : x < y
    · rw [decide_eq_true c2, decide_eq_false (by grind)]; rfl
    · rw [decide_eq_false c2, decide_eq_true (by grind)]; rfl
  · rw [if_pos c1, if_pos (fun e => c1 e.symm)]
    show decide (i < j) = !decide (j < i)
    by_cases c2 : i < j
    · rw [decide_eq_true c2, decide_eq_false (by omega)]; rfl
    · rw [decide_eq_false c2, decide_eq_true (by omega)]; rfl
theorem arc_on {c p q x : Pt} (hp : p ≠ c) (hq : OnC c p q) (hx : OnC c p x) : (decide (x = p) || decide (x = q) || aheadB c p x q) = !earlierB (placeP c p q) (placeP c p x) := by
  rw [ahead_place hp hx hq]
  by_cases c1 : x = p
  · subst c1
    rw [decide_eq_true rfl, Bool.true_or, Bool.true_or, placeP_self hp, place_nn hp hq]
    rfl
  · rw [decide_eq_false c1, Bool.false_or]
    by_cases c2 : x = q
    · subst c2
      rw [decide_eq_true rfl, Bool.true_or, earlier_irr]
      rfl
    · rw [decide_eq_false c2, Bool.false_or]
      exact earlier_not (fun e => c2 (placeP_inj hp hx hq e))
def Pc.pc (n m : Nat) : Pc → Prop
  | .dot p => Pb m p
  | .st p q => Pb m p ∧ Pb m q
  | .arc c p q => Pb n c ∧ Pb m p ∧ Pb m q
  | .ring c p => Pb n c ∧ Pb m p
def Pc.word : Pc → PyData
  | .dot _ => .str "dot"
  | .st _ _ => .str "stretch"
  | .arc _ _ _ => .str "arc"
  | .ring _ _ => .str "ring"
def Pc.isSt : Pc → Bool
  | .st _ _ => true
  | _ => false
theorem word_at (z : Pc) : itD z.D 0 = some z.word := by cases z <;> rfl
theorem word_sh : ∀ z : Pc, SeqAt.shaped z.word = true
  | .dot _ => (show SeqAt.shaped (.str "dot") = true by decide +kernel)
  | .st _ _ => (show SeqAt.shaped (.str "stretch") = true by decide +kernel)
  | .arc _ _ _ => (show SeqAt.shaped (.str "arc") = true by decide +kernel)
  | .ring _ _ => (show SeqAt.shaped (.str "ring") = true by decide +kernel)
/-- ahead or alike, by x, then by y -/
def Le (p q : Pt) : Prop := q.before p = false
theorem le_iff {p q : Pt} : Le p q ↔ p.x < q.x ∨ (p.x = q.x ∧ p.y ≤ q.y) := by
  unfold Le
  rw [← Bool.not_eq_true, bef_iff]
  constructor <;> intro h <;> grind
theorem le_refl (p : Pt) : Le p p := bef_irr p
theorem le_trans {p q r : Pt} (h1 : Le p q) (h2 : Le q r) : Le p r := by
  rw [le_iff] at *
  grind
theorem le_total (p q : Pt) : Le p q ∨ Le q p := by
  rw [le_iff, le_iff]
  grind
theorem le_bef {p q : Pt} (h : p.before q = true) : Le p q := by
  rw [bef_iff] at h
  rw [le_iff]
  grind
theorem pt_ne {p q : Pt} (h : p ≠ q) : q.x - p.x ≠ 0 ∨ q.y - p.y ≠ 0 := by
  by_cases h1 : q.x - p.x = 0
  · by_cases h2 : q.y - p.y = 0
    · exact absurd (pt_ext (by grind) (by grind)) h
    · exact .inr h2
  · exact .inl h1
def cr (a b x : Pt) : Rat := (b.sub a).across (x.sub a)
theorem onS_iff {a b x : Pt} : onS a b x = true ↔ cr a b x = 0 ∧ Le a x ∧ Le x b := by
  unfold onS cr Le
  simp only [Bool.and_eq_true, decide_eq_true_eq, Bool.not_eq_true', sg_zero]
theorem cr_e (a b x : Pt) : cr a b x = (b.x - a.x) * (x.y - a.y) - (b.y - a.y) * (x.x - a.x) := rfl
theorem onS_ends {f l : Pt} (h : Le f l) : onS f l f = true ∧ onS f l l = true := by
  rw [onS_iff, onS_iff]
  exact ⟨⟨by rw [cr_e]; grind, le_refl _, h⟩, by rw [cr_e]; grind, h, le_refl _⟩
def pw (f : Fr) : Nat → Fr
  | 0 => Fr.one
  | k + 1 => f.behind (pw f k)
theorem pw_ok {f : Fr} (hf : f.ok) : ∀ k, (pw f k).ok
  | 0 => one_ok
  | k + 1 => behind_ok hf (pw_ok hf k)
theorem pw_one {f : Fr} (hf : f.ok) : pw f 1 = f := behind_one hf
theorem pw_add {f : Fr} (hf : f.ok) : ∀ a b, (pw f a).behind (pw f b) = pw f (a + b)
  | 0, b => by rw [Nat.zero_add]; exact one_behind (pw_ok hf b) led_one
  | a + 1, b => by
    show (f.behind (pw f a)).behind (pw f b) = _
    rw [behind_assoc hf (pw_ok hf a), pw_add hf a b, Nat.add_right_comm]
    rfl
/-- so many parts of E, not beyond B -/
def InE (E : Nat) (B : Rat) (x : Rat) : Prop := (∃ z : Int, x * (E : Rat) = (z : Rat)) ∧ -B ≤ x ∧ x ≤ B
structure Gd (D q P : Nat) (f : Fr) : Prop where
  ok : f.ok
  sz : ∃ p : Nat, f.size * (q : Rat) = (p : Rat)
  le : f.size ≤ 1
  ix : InE D P f.place.x
  iy : InE D P f.place.y
/-- the least of 1, 2, 4 whose power neither turns nor mirrors -/
def plainB (f : Fr) : Bool := decide (f.turns = 0) && decide (f.hand = 1)
def cntI (f : Fr) : Nat := if plainB (pw f 1) = true then 1 else if plainB (pw f 2) = true then 2 else 4
def midP (g : Fr) : Pt := g.place.smul (1 / (1 - g.size))
/-- a map as it is drawn -/
structure MapOk (f : Fr) : Prop where
  ok : f.ok
  pl : Pb 41 f.place
  sz : ∃ q p : Nat, 0 < q ∧ q ≤ 12 ∧ f.size * (q : Rat) = (p : Rat) ∧ (f.size = 1 → q = 1)
  le : f.size ≤ 1
def absR (x : Rat) : Rat := if x < 0 then -x else x
theorem fb_abs {x : Rat} {n : Nat} (h : Fb n x) : Fb n (absR x) := by
  unfold absR
  split
  · exact fb_neg h
  · exact h
local macro_rules | `(tactic| walk_at "fb") => `(tactic| with_reducible (apply fb_abs; walk_at "fb"))
theorem at_end {α : Type} {M : List α} {y : α} : (M ++ [y])[M.length]? = some y := by simp
theorem set_end {α : Type} {M : List α} {y z : α} : (M ++ [y]).set M.length z = M ++ [z] := by simp
/-- kinds as such -/
inductive Kd where
  | round
  | on (w : Pt)
  | smaller (c : Pt) (s : Rat)
def Kd.D : Kd → PyData
  | .round => .tuple [.str "round"]
  | .on w => .tuple [.str "on", pt w]
  | .smaller c s => .tuple [.str "smaller", pt c, fr s]
def kdOf (f : Fr) : Kd := if (pw f (cntI f)).size = 1 then (if (pw f (cntI f)).place = ⟨0, 0⟩ then .round else .on (pw f (cntI f)).place) else .smaller (midP (pw f (cntI f))) (pw f (cntI f)).size
def Kd.word : Kd → Str
  | .round => "round"
  | .on _ => "on"
  | .smaller _ _ => "smaller"
def Kd.pb (m : Nat) : Kd → Prop
  | .round => True
  | .on w => Pb m w
  | .smaller c s => Pb m c ∧ Fb m s
/-- told pieces of an end -/
abbrev Tl := Pc × PyData × PyData
/-- heights of a piece, by a step; squares of distances, from a middle -/
def wdR (w c p : Pt) : Rat := (absR (p.sub c).x + absR (p.sub c).y) * (absR w.x + absR w.y)
def hgL (w : Pt) : Pc → List Rat
  | .dot p => [w.along p]
  | .st p q => [w.along p, w.along q]
  | .arc c p _ => [w.along c - wdR w c p, w.along c + wdR w c p]
  | .ring c p => [w.along c - wdR w c p, w.along c + wdR w c p]
def dsL (m : Pt) : Pc → List Rat
  | .dot p => [p.far m]
  | .st p q => [p.far m, q.far m]
  | .arc c p _ => [2 * (c.far m + c.far p)]
  | .ring c p => [2 * (c.far m + c.far p)]
def minL (l : List Rat) : Rat := l.foldl (fun f x => if x < f then x else f) (l.headD 0)
def maxL (l : List Rat) : Rat := l.foldl (fun f x => if f < x then x else f) (l.headD 0)
/-- by form: straight ones with their points, round ones with centre and first point -/
inductive PcV : Pc → Type where
  | fl {z : Pc} (ps : List Pt) (hD : z.D = .tuple (z.word :: ps.map pt)) (hn : ps.length ≤ 2) (h0 : PyData.eqv z.word (.str "dot") = true ∨ PyData.eqv z.word (.str "stretch") = true) (hi : ([PyData.str "dot", .str "stretch"].any fun y => PyData.eqv y z.word) = true) (hh : ∀ w, hgL w z = ps.map fun p => w.along p) (hd : ∀ m, dsL m z = ps.map fun p => p.far m) (hb : ∀ n, z.pc n n → ∀ p ∈ ps, Pb n p) : PcV z
  | rd {z : Pc} (c p : Pt) (r : List PyData) (hD : z.D = .tuple (z.word :: pt c :: pt p :: r)) (h0 : PyData.eqv z.word (.str "dot") = false ∧ PyData.eqv z.word (.str "stretch") = false) (hi : ([PyData.str "dot", .str "stretch"].any fun y => PyData.eqv y z.word) = false) (hh : ∀ w, hgL w z = [w.along c - wdR w c p, w.along c + wdR w c p]) (hd : ∀ m, dsL m z = [2 * (c.far m + c.far p)]) (hb : ∀ n, z.pc n n → Pb n c ∧ Pb n p) : PcV z
structure EndOk (f : Fr) (ts : List Tl) (n : Nat) : Prop where
  map : MapOk f
  ne : ts ≠ []
  len : ts.length ≤ 1000
  pcs : ∀ t ∈ ts, t.1.ok ∧ t.1.pc 20 n ∧ Lay 1 t.2.1 ∧ Lay 1 t.2.2
theorem atI_nat {α : Type} {l : List α} {k : Nat} {x : α} (h : l[k]? = some x) : atI l (k : Int) = some x := by
  have hl := (List.getElem?_eq_some_iff.mp h).1
  have h1 : ixN l.length (k : Int) = some k := by
    unfold ixN
    simp [hl]
  unfold atI
  rw [h1]
  exact h
theorem put_nil {f : Str} {s : S} : putS f s [] = [(f, s)] := rfl
theorem put_ne {f g : Str} {s x : S} {r : List (Str × S)} (h : ¬ g = f) : putS f s ((g, x) :: r) = (g, x) :: putS f s r := by
  rw [putS, if_neg h]
theorem cell_of {ns : List Int} {l h : Option Int} {a : Int} {i : Nat} {x : S} (hx : (([PyData.int a] ++ cutL (ns.map PyData.int) l h).map S.d)[i]? = some x) : ∃ c : Int, x = .d (.int c) := by
  obtain ⟨d, hd, rfl⟩ := mem_of_map hx
  rcases List.mem_append.mp hd with hd | hd
  · rw [List.mem_singleton.mp hd]; exact ⟨_, rfl⟩
  · rw [cutL_map] at hd
    obtain ⟨c, _, rfl⟩ := List.mem_map.mp hd
    exact ⟨c, rfl⟩

theorem nd_mulW {x y : Rat} {n m : Nat} (hx : Fb n x) (hy : Fb m y) (h : n + m ≤ 1000000) : CMulW x.num y.den := wide_mul hx.1 (nd_lt hy) hx.pos hy.pos h
def floorI (x : Rat) : Int := x.num.fdiv x.den
def ceilI (x : Rat) : Int := -((-x.num).fdiv x.den)
def spB (at_ high each : Rat) : Int := max 0 (ceilI ((at_ - high) / each))
def spP (at_ low high each : Rat) : Int := max (spB at_ high each) (floorI ((at_ - low) / each) + 1)
/-- so often shrunk -/
def mst (m s : Rat) : Nat → Rat
  | 0 => m
  | k + 1 => mst m s k * s
structure Stop (m s away : Rat) (k : Nat) : Prop where
  le : k ≤ 1001
  no : ∀ j, j < k → ¬ mst m s j < away
  yes : k = 1001 ∨ mst m s k < away
theorem stop_one {m s away : Rat} {k l : Nat} (h : Stop m s away k) (h' : Stop m s away l) : k = l := by
  rcases Nat.lt_trichotomy k l with z | z | z
  · rcases h.yes with e | e
    · have := h'.le; omega
    · exact absurd e (h'.no k z)
  · exact z
  · rcases h'.yes with e | e
    · have := h.le; omega
    · exact absurd e (h.no l z)
/-- the numbers stay small while they are looked at -/
def SmB (m s away : Rat) : Prop := ∀ k, k ≤ 1001 → (∀ j, j < k → ¬ mst m s j < away) → Fb 8900 (mst m s k)
/-- what a span is -/
def eachR (f : Fr) (w : Pt) : Rat := w.along w / (cntI f : Rat)
def SpR (f : Fr) (zs : List Pc) (p : Pt) (b e : Int) : Prop :=
  match kdOf f with
  | .round => b = 0 ∧ e = cntI f
  | .on w => b = spB (w.along p) (maxL (zs.flatMap (hgL w))) (eachR f w) ∧ e = spP (w.along p) (minL (zs.flatMap (hgL w))) (maxL (zs.flatMap (hgL w))) (eachR f w)
  | .smaller c _ => (p = c ∧ b = 0 ∧ e = 1) ∨ (p ≠ c ∧ b = 0 ∧ ∃ k : Nat, e = k ∧ Stop (maxL (zs.flatMap (dsL c))) (f.size * f.size) (p.far c) k)
structure SpanOk (f : Fr) (ts : List Tl) (p : Pt) : Prop where
  ok : f.ok
  bd : ∀ k, k ≤ 9 → Frb 165 (pw f k)
  sz : Fb 4 f.size
  le : f.size ≤ 1
  ne : ts ≠ []
  len : ts.length ≤ 1000
  pcs : ∀ t ∈ ts, t.1.pc 72 72
  pp : Pb 575 p
  sm : ∀ c s, kdOf f = .smaller c s → p ≠ c → SmB (maxL ((ts.map (·.1)).flatMap (dsL c))) (f.size * f.size) (p.far c)
theorem last_it (z : Pc) : itD z.D (-1) = some (pt z.last) := by cases z <;> rfl
/-- an arc lies at the right of its chord -/
theorem chord_share {c p : Pt} {t s : Rat} : ((c.share p t).sub p).across ((c.share p s).sub p) = (p.sub c).along (p.sub c) * ((shU t - 1) * shV s - shV t * (shU s - 1)) := by
  unfold Pt.share Pt.add Pt.sub Pt.across Pt.along
  simp only
  grind
theorem chord_sign {t s : Rat} : ∃ k : Rat, 0 < k ∧ (shU t - 1) * shV s - shV t * (shU s - 1) = k * (t * s * (s - t)) := by
  have h1 := sq_nn t
  have h2 := sq_nn s
  refine ⟨4 * ((1 + t * t)⁻¹ * (1 + s * s)⁻¹), Rat.mul_pos (by decide) (Rat.mul_pos (Rat.inv_pos.mpr (by grind)) (Rat.inv_pos.mpr (by grind))), ?_⟩
  rw [uS_eq, uS_eq, vS_eq, vS_eq]
  have a : 1 + t * t ≠ 0 := by grind
  have b : 1 + s * s ≠ 0 := by grind
  grind
theorem le_mul_iff {k x : Rat} (hk : 0 < k) : k * x ≤ 0 ↔ x ≤ 0 := by
  have := pos_mul_iff (x := x) hk
  constructor
  · intro h
    have : ¬ 0 < x := fun z => by have := this.mpr z; grind
    grind
  · intro h
    have : ¬ 0 < k * x := fun z => by have := this.mp z; grind
    grind
theorem sgn3p {t s : Rat} (c : 0 < t) : t * s * (s - t) ≤ 0 ↔ 0 ≤ s ∧ s ≤ t := by
  rw [Rat.mul_assoc, le_mul_iff c]
  constructor
  · intro h
    constructor
    · by_cases d : 0 ≤ s
      · exact d
      · exfalso
        have : 0 < (-s) * (t - s) := Rat.mul_pos (by grind) (by grind)
        grind
    · by_cases d : s ≤ t
      · exact d
      · exfalso
        have : 0 < s * (s - t) := Rat.mul_pos (by grind) (by grind)
        grind
  · rintro ⟨a, b⟩
    have : 0 ≤ s * (t - s) := Rat.mul_nonneg a (by grind)
    grind
theorem sgn3n {t s : Rat} (c : t < 0) : t * s * (s - t) ≤ 0 ↔ 0 ≤ s ∨ s ≤ t := by
  have e : t * s * (s - t) = (-t) * (s * (t - s)) := by grind
  rw [e, le_mul_iff (by grind)]
  constructor
  · intro h
    by_cases d : 0 ≤ s
    · exact .inl d
    · right
      by_cases d2 : s ≤ t
      · exact d2
      · exfalso
        have : 0 < (-s) * (s - t) := Rat.mul_pos (by grind) (by grind)
        grind
  · rintro (a | a)
    · have : 0 ≤ s * (s - t) := Rat.mul_nonneg a (by grind)
      grind
    · have : 0 ≤ (-s) * (t - s) := Rat.mul_nonneg (by grind) (by grind)
      grind
theorem vS_sign (t : Rat) : ∃ k : Rat, 0 < k ∧ shV t = k * t := by
  have h1 := sq_nn t
  refine ⟨2 * (1 + t * t)⁻¹, Rat.mul_pos (by decide) (Rat.inv_pos.mpr (by grind)), ?_⟩
  rw [vS_eq, Rat.div_def]
  grind
theorem arc_chord {c p q x : Pt} (hp : p ≠ c) (hq : OnC c p q) (hpq : p ≠ q) (hx : OnC c p x) : (!earlierB (placeP c p q) (placeP c p x)) = decide ((q.sub p).across (x.sub p) ≤ 0) := by
  have hr := r_pos hp
  have e0 : ((c.add c).sub p).sub p = ⟨2 * (c.x - p.x), 2 * (c.y - p.y)⟩ := by
    unfold Pt.add Pt.sub
    simp only
    congr 1 <;> grind
  have op : ∀ t : Rat, (((c.add c).sub p).sub p).across ((c.share p t).sub p) = -2 * shV t * (p.sub c).along (p.sub c) := fun t => by
    rw [e0]
    unfold Pt.share Pt.add Pt.sub Pt.across Pt.along
    simp only
    grind
  have po : ∀ t : Rat, ((c.share p t).sub p).across (((c.add c).sub p).sub p) = 2 * shV t * (p.sub c).along (p.sub c) := fun t => by
    rw [e0]
    unfold Pt.share Pt.add Pt.sub Pt.across Pt.along
    simp only
    grind
  rcases onC_cases hp hq with e | e <;> rcases onC_cases hp hx with e' | e'
  · rw [e, e', placeP_opp]
    rw [show ((((c.add c).sub p).sub p).across (((c.add c).sub p).sub p)) = 0 by unfold Pt.across; grind]
    rfl
  · generalize (p.sub c).across (x.sub c) / c.whole p x = s at e'
    rw [e, e', placeP_opp, placeP_share hp, op]
    obtain ⟨k, hk, hv⟩ := vS_sign s
    rw [hv]
    have e2 : -2 * (k * s) * (p.sub c).along (p.sub c) = (2 * k * (p.sub c).along (p.sub c)) * (-s) := by grind
    rw [e2, decide_eq_decide.mpr (le_mul_iff (Rat.mul_pos (Rat.mul_pos (by decide) hk) hr))]
    by_cases d : s < 0
    · rw [if_pos d, decide_eq_false (by grind)]
      rfl
    · rw [if_neg d, decide_eq_true (by grind)]
      rfl
  · generalize (p.sub c).across (q.sub c) / c.whole p q = t at e
    have ht : t ≠ 0 := fun z => hpq (by rw [e, z, share_0])
    rw [e, e', placeP_opp, placeP_share hp, po]
    obtain ⟨k, hk, hv⟩ := vS_sign t
    rw [hv]
    have e2 : 2 * (k * t) * (p.sub c).along (p.sub c) = (2 * k * (p.sub c).along (p.sub c)) * t := by grind
    rw [e2, decide_eq_decide.mpr (le_mul_iff (Rat.mul_pos (Rat.mul_pos (by decide) hk) hr))]
    by_cases d : t < 0
    · rw [if_pos d, decide_eq_true (by grind)]
      rfl
    · rw [if_neg d, decide_eq_false (by grind)]
      rfl
  · generalize (p.sub c).across (q.sub c) / c.whole p q = t at e
    generalize (p.sub c).across (x.sub c) / c.whole p x = s at e'
    have ht : t ≠ 0 := fun z => hpq (by rw [e, z, share_0])
    rw [e, e', placeP_share hp, placeP_share hp, chord_share]
    obtain ⟨k, hk, hv⟩ := chord_sign (t := t) (s := s)
    rw [hv]
    have e2 : (p.sub c).along (p.sub c) * (k * (t * s * (s - t))) = ((p.sub c).along (p.sub c) * k) * (t * s * (s - t)) := by grind
    rw [e2, decide_eq_decide.mpr (le_mul_iff (Rat.mul_pos hr hk))]
    by_cases d1 : t < 0
    · have E : decide (t * s * (s - t) ≤ 0) = decide (0 ≤ s ∨ s ≤ t) := decide_eq_decide.mpr (sgn3n d1)
      rw [E, if_pos d1]
      unfold earlierB
      by_cases d2 : s < 0
      · rw [if_pos d2]
        by_cases d3 : s ≤ t
        · rw [decide_eq_true (.inr d3 : 0 ≤ s ∨ s ≤ t), if_neg (by simp), decide_eq_false (show ¬ t < s by grind)]
          rfl
        · rw [decide_eq_false (show ¬ (0 ≤ s ∨ s ≤ t) by grind), if_neg (by simp), decide_eq_true (show t < s by grind)]
          rfl
      · rw [if_neg d2, decide_eq_true (.inl (by grind) : 0 ≤ s ∨ s ≤ t)]
        rfl
    · have d4 : 0 < t := by grind
      have E : decide (t * s * (s - t) ≤ 0) = decide (0 ≤ s ∧ s ≤ t) := decide_eq_decide.mpr (sgn3p d4)
      rw [E, if_neg d1]
      unfold earlierB
      by_cases d2 : s < 0
      · rw [if_pos d2, decide_eq_false (show ¬ (0 ≤ s ∧ s ≤ t) by grind)]
        rfl
      · rw [if_neg d2]
        by_cases d3 : s ≤ t
        · rw [decide_eq_true (show 0 ≤ s ∧ s ≤ t by grind), if_neg (by simp), decide_eq_false (show ¬ t < s by grind)]
          rfl
        · rw [decide_eq_false (show ¬ (0 ≤ s ∧ s ≤ t) by grind), if_neg (by simp), decide_eq_true (show t < s by grind)]
          rfl
theorem on_arc {c p q x : Pt} (h : (Pc.arc c p q).ok) : (Pc.arc c p q).on x = (decide (c.far x = c.far p) && decide ((q.sub p).across (x.sub p) ≤ 0)) := by
  obtain ⟨h1, h2, h3⟩ := h
  show (decide (c.far x = c.far p) && (decide (x = p) || decide (x = q) || aheadB c p x q)) = _
  by_cases e : c.far x = c.far p
  · rw [decide_eq_true e, Bool.true_and, Bool.true_and, arc_on h1 h2 (far_on.mp e), arc_chord h1 h2 h3 (far_on.mp e)]
  · rw [decide_eq_false e, Bool.false_and, Bool.false_and]
theorem det3 {t1 t2 s : Rat} : ∃ k : Rat, 0 < k ∧ (shU t2 - shU t1) * (shV s - shV t1) - (shV t2 - shV t1) * (shU s - shU t1) = k * ((t2 - t1) * ((s - t1) * (s - t2))) := by
  have h1 := sq_nn t1
  have h2 := sq_nn t2
  have h3 := sq_nn s
  refine ⟨4 * ((1 + t1 * t1)⁻¹ * ((1 + t2 * t2)⁻¹ * (1 + s * s)⁻¹)), Rat.mul_pos (by decide) (Rat.mul_pos (Rat.inv_pos.mpr (by grind)) (Rat.mul_pos (Rat.inv_pos.mpr (by grind)) (Rat.inv_pos.mpr (by grind)))), ?_⟩
  rw [uS_eq, uS_eq, uS_eq, vS_eq, vS_eq, vS_eq]
  have a : 1 + t1 * t1 ≠ 0 := by grind
  have b : 1 + t2 * t2 ≠ 0 := by grind
  have d : 1 + s * s ≠ 0 := by grind
  clear h1 h2 h3
  grind
theorem det_q {t1 s : Rat} : ∃ k : Rat, 0 < k ∧ (-1 - shU t1) * (shV s - shV t1) - (0 - shV t1) * (shU s - shU t1) = k * (t1 - s) := by
  have h1 := sq_nn t1
  have h3 := sq_nn s
  refine ⟨4 * ((1 + t1 * t1)⁻¹ * (1 + s * s)⁻¹), Rat.mul_pos (by decide) (Rat.mul_pos (Rat.inv_pos.mpr (by grind)) (Rat.inv_pos.mpr (by grind))), ?_⟩
  rw [uS_eq, uS_eq, vS_eq, vS_eq]
  have a : 1 + t1 * t1 ≠ 0 := by grind
  have d : 1 + s * s ≠ 0 := by grind
  clear h1 h3
  grind
theorem det_x {t1 t2 : Rat} : ∃ k : Rat, 0 < k ∧ (shU t2 - shU t1) * (0 - shV t1) - (shV t2 - shV t1) * (-1 - shU t1) = k * (t2 - t1) := by
  have h1 := sq_nn t1
  have h3 := sq_nn t2
  refine ⟨4 * ((1 + t1 * t1)⁻¹ * (1 + t2 * t2)⁻¹), Rat.mul_pos (by decide) (Rat.mul_pos (Rat.inv_pos.mpr (by grind)) (Rat.inv_pos.mpr (by grind))), ?_⟩
  rw [uS_eq, uS_eq, vS_eq, vS_eq]
  have a : 1 + t1 * t1 ≠ 0 := by grind
  have d : 1 + t2 * t2 ≠ 0 := by grind
  clear h1 h3
  grind
theorem det_p {t2 s : Rat} : ∃ k : Rat, 0 < k ∧ (shU t2 - -1) * (shV s - 0) - (shV t2 - 0) * (shU s - -1) = k * (s - t2) := by
  have h1 := sq_nn t2
  have h3 := sq_nn s
  refine ⟨4 * ((1 + t2 * t2)⁻¹ * (1 + s * s)⁻¹), Rat.mul_pos (by decide) (Rat.mul_pos (Rat.inv_pos.mpr (by grind)) (Rat.inv_pos.mpr (by grind))), ?_⟩
  rw [uS_eq, uS_eq, vS_eq, vS_eq]
  have a : 1 + t2 * t2 ≠ 0 := by grind
  have d : 1 + s * s ≠ 0 := by grind
  clear h1 h3
  grind
/-- where a point stands on the circle, from a first one -/
inductive Ps where
  | sh (t : Rat)
  | opp
def Ps.U : Ps → Rat
  | .sh t => shU t
  | .opp => -1
def Ps.V : Ps → Rat
  | .sh t => shV t
  | .opp => 0
def Ps.key : Ps → Int × Rat
  | .sh t => if t < 0 then (2, t) else (0, t)
  | .opp => (1, 0)
def Ps.pt (c a : Pt) (z : Ps) : Pt := c.add ⟨z.U * (a.x - c.x) - z.V * (a.y - c.y), z.V * (a.x - c.x) + z.U * (a.y - c.y)⟩
theorem ps_of {c a p : Pt} (ha : a ≠ c) (h : OnC c a p) : ∃ z : Ps, p = z.pt c a ∧ placeP c a p = z.key := by
  rcases onC_cases ha h with e | e
  · refine ⟨.opp, ?_, by rw [e, placeP_opp]; rfl⟩
    rw [e]
    unfold Ps.pt Ps.U Ps.V Pt.add Pt.sub
    simp only
    congr 1 <;> grind
  · exact ⟨.sh _, e, by (conv => lhs; rw [e, placeP_share ha]); rfl⟩
theorem ps_across {c a : Pt} (p q x : Ps) : ((q.pt c a).sub (p.pt c a)).across ((x.pt c a).sub (p.pt c a)) = (a.sub c).along (a.sub c) * ((q.U - p.U) * (x.V - p.V) - (q.V - p.V) * (x.U - p.U)) := by
  unfold Ps.pt Pt.add Pt.sub Pt.across Pt.along
  simp only
  grind
def Ps.det (p q x : Ps) : Rat := (q.U - p.U) * (x.V - p.V) - (q.V - p.V) * (x.U - p.U)
theorem pm_le {y z : Rat} (h : z < y) : y * z ≤ 0 ↔ 0 ≤ y ∧ z ≤ 0 := by
  constructor
  · intro k
    constructor
    · by_cases c : 0 ≤ y
      · exact c
      · exfalso
        have : 0 < (-y) * (-z) := Rat.mul_pos (by grind) (by grind)
        grind
    · by_cases c : z ≤ 0
      · exact c
      · exfalso
        have : 0 < y * z := Rat.mul_pos (by grind) (by grind)
        grind
  · rintro ⟨a, b⟩
    have : 0 ≤ y * (-z) := Rat.mul_nonneg a (by grind)
    grind
theorem pm_ge {y z : Rat} (h : z < y) : 0 ≤ y * z ↔ y ≤ 0 ∨ 0 ≤ z := by
  constructor
  · intro k
    by_cases c : y ≤ 0
    · exact .inl c
    · right
      by_cases d : 0 ≤ z
      · exact d
      · exfalso
        have : 0 < y * (-z) := Rat.mul_pos (by grind) (by grind)
        grind
  · rintro (a | a)
    · have : 0 ≤ (-y) * (-z) := Rat.mul_nonneg (by grind) (by grind)
      grind
    · exact Rat.mul_nonneg (by grind) a
theorem key_lt {z w : Ps} : earlierB z.key w.key = true ↔ (match z, w with
    | .sh t, .sh s => if t < 0 then s < 0 ∧ t < s else s < 0 ∨ t < s
    | .sh t, .opp => 0 ≤ t
    | .opp, .sh s => s < 0
    | .opp, .opp => False) := by
  cases z with
  | sh t =>
    cases w with
    | sh s =>
      unfold Ps.key earlierB
      by_cases a : t < 0 <;> by_cases b : s < 0 <;> simp [a, b] <;> grind
    | opp =>
      unfold Ps.key earlierB
      by_cases a : t < 0 <;> simp [a] <;> grind
  | opp =>
    cases w with
    | sh s =>
      unfold Ps.key earlierB
      by_cases b : s < 0 <;> simp [b]
    | opp => unfold Ps.key earlierB; simp
/-- from p to a later q: what lies between -/
theorem det_between {p q x : Ps} (h : earlierB p.key q.key = true) : p.det q x ≤ 0 ↔ earlierB x.key p.key = false ∧ earlierB q.key x.key = false := by
  rw [key_lt] at h
  rw [← Bool.not_eq_true, ← Bool.not_eq_true, key_lt, key_lt]
  cases p with
  | sh t1 =>
    cases q with
    | sh t2 =>
      cases x with
      | sh s =>
        obtain ⟨k, hk, e⟩ := det3 (t1 := t1) (t2 := t2) (s := s)
        show (shU t2 - shU t1) * (shV s - shV t1) - (shV t2 - shV t1) * (shU s - shU t1) ≤ 0 ↔ _
        rw [e, le_mul_iff hk]
        by_cases c : t1 < t2
        · rw [le_mul_iff (show 0 < t2 - t1 by grind), pm_le (by grind)]
          simp only at h ⊢
          constructor
          · rintro ⟨a, b⟩
            constructor <;> split <;> grind
          · rintro ⟨a, b⟩
            split at a <;> split at b <;> split at h <;> grind
        · have c2 : t2 < t1 := by simp only at h; split at h <;> grind
          have e2 : (t2 - t1) * ((s - t1) * (s - t2)) ≤ 0 ↔ 0 ≤ (s - t2) * (s - t1) := by
            have e3 : (t2 - t1) * ((s - t1) * (s - t2)) = (t1 - t2) * (-((s - t2) * (s - t1))) := by grind
            rw [e3, le_mul_iff (by grind)]
            constructor <;> intro z <;> grind
          rw [e2, pm_ge (by grind)]
          simp only at h ⊢
          constructor
          · rintro (a | a)
            · constructor <;> split <;> split at h <;> grind
            · constructor <;> split <;> split at h <;> grind
          · rintro ⟨a, b⟩
            split at a <;> split at b <;> split at h <;> grind
      | opp =>
        obtain ⟨k, hk, e⟩ := det_x (t1 := t1) (t2 := t2)
        show (shU t2 - shU t1) * (0 - shV t1) - (shV t2 - shV t1) * (-1 - shU t1) ≤ 0 ↔ _
        rw [e, le_mul_iff hk]
        simp only at h ⊢
        split at h <;> constructor
        · intro z; exfalso; grind
        · intro z; exfalso; grind
        · intro z; constructor <;> grind
        · intro z; grind
    | opp =>
      cases x with
      | sh s =>
        obtain ⟨k, hk, e⟩ := det_q (t1 := t1) (s := s)
        show (-1 - shU t1) * (shV s - shV t1) - (0 - shV t1) * (shU s - shU t1) ≤ 0 ↔ _
        rw [e, le_mul_iff hk]
        simp only at h ⊢
        constructor
        · intro z; constructor
          · split <;> grind
          · grind
        · rintro ⟨a, b⟩; split at a <;> grind
      | opp =>
        show (-1 - shU t1) * (0 - shV t1) - (0 - shV t1) * (-1 - shU t1) ≤ 0 ↔ _
        simp only at h ⊢
        constructor
        · intro z; constructor <;> grind
        · intro z; grind
  | opp =>
    cases q with
    | sh t2 =>
      cases x with
      | sh s =>
        obtain ⟨k, hk, e⟩ := det_p (t2 := t2) (s := s)
        show (shU t2 - -1) * (shV s - 0) - (shV t2 - 0) * (shU s - -1) ≤ 0 ↔ _
        rw [e, le_mul_iff hk]
        simp only at h ⊢
        constructor
        · intro z; constructor
          · grind
          · split <;> grind
        · rintro ⟨a, b⟩; split at b <;> grind
      | opp =>
        show (shU t2 - -1) * (0 - 0) - (shV t2 - 0) * (-1 - -1) ≤ 0 ↔ _
        simp only at h ⊢
        constructor
        · intro z; constructor <;> grind
        · intro z; grind
    | opp => exact absurd h id
theorem earlier_iff {z w : Int × Rat} : earlierB z w = true ↔ z.1 < w.1 ∨ (z.1 = w.1 ∧ z.2 < w.2) := by
  unfold earlierB
  split
  · next h => rw [decide_eq_true_eq]; constructor
              · exact fun k => .inl k
              · rintro (k | ⟨k, _⟩)
                · exact k
                · exact absurd k h
  · next h =>
    have h' : z.1 = w.1 := by by_cases c : z.1 = w.1; exact c; exact absurd c h
    rw [decide_eq_true_eq]; constructor
    · exact fun k => .inr ⟨h', k⟩
    · rintro (k | ⟨_, k⟩)
      · omega
      · exact k
def ltK (c a p q : Pt) : Bool := earlierB (placeP c a p) (placeP c a q)
section
variable {c a : Pt} (ha : a ≠ c)
theorem ltK_irr {p : Pt} : ltK c a p p = false := earlier_irr _
include ha
theorem ltK_tri {p q : Pt} (hp : OnC c a p) (hq : OnC c a q) (h : p ≠ q) : ltK c a p q = !ltK c a q p := earlier_not fun e => h (placeP_inj ha hp hq e)
theorem ltK_a {p : Pt} (hp : OnC c a p) (h : p ≠ a) : ltK c a a p = true := by
  have hn := place_nn ha hp
  rw [← placeP_self ha] at hn
  have e : OnC c a a := rfl
  rw [ltK_tri ha e hp (Ne.symm h)]
  show (!earlierB (placeP c a p) (placeP c a a)) = true
  rw [hn]
  rfl
theorem onC_neK {p : Pt} (hp : OnC c a p) : p ≠ c := fun e => by
  have := r_pos ha
  rw [e] at hp
  unfold OnC at hp
  rw [← hp] at this
  unfold Pt.along Pt.sub at this
  simp only at this
  grind
theorem onC_trK {p q : Pt} (hp : OnC c a p) (hq : OnC c a q) : OnC c p q := by unfold OnC at *; rw [hp, hq]
theorem arc_okK {p q : Pt} (hp : OnC c a p) (hq : OnC c a q) (h : p ≠ q) : (Pc.arc c p q).ok := ⟨onC_neK ha hp, onC_trK ha hp hq, h⟩
theorem arc_btw {p q x : Pt} (hp : OnC c a p) (hq : OnC c a q) (hx : OnC c a x) (h : ltK c a p q = true) : (Pc.arc c p q).on x = (!ltK c a x p && !ltK c a q x) := by
  have hne : p ≠ q := fun e => by rw [e, ltK_irr] at h; cases h
  rw [on_arc (arc_okK ha hp hq hne), decide_eq_true (far_on.mpr (onC_trK ha hp hx)), Bool.true_and]
  obtain ⟨zp, ep, kp⟩ := ps_of ha hp
  obtain ⟨zq, eq, kq⟩ := ps_of ha hq
  obtain ⟨zx, ex, kx⟩ := ps_of ha hx
  unfold ltK at h ⊢
  rw [kp, kq] at h
  rw [kp, kq, kx, ep, eq, ex, ps_across, decide_eq_decide.mpr (le_mul_iff (r_pos ha))]
  have hd := det_between (x := zx) h
  unfold Ps.det at hd
  apply Bool.eq_iff_iff.mpr
  rw [decide_eq_true_eq, hd, Bool.and_eq_true, Bool.not_eq_true', Bool.not_eq_true']
end
section
variable {c a : Pt} (ha : a ≠ c)
include ha
end
theorem SpR.one {f : Fr} {zs : List Pc} {p : Pt} {b e b' e' : Int} (h : SpR f zs p b e) (g : SpR f zs p b' e') : b = b' ∧ e = e' := by
  unfold SpR at h g
  cases kd : kdOf f with
  | round =>
    simp only [kd] at h g
    exact ⟨h.1.trans g.1.symm, h.2.trans g.2.symm⟩
  | on w =>
    simp only [kd] at h g
    exact ⟨h.1.trans g.1.symm, h.2.trans g.2.symm⟩
  | smaller c s =>
    simp only [kd] at h g
    rcases h with ⟨h1, h2, h3⟩ | ⟨h1, h2, k, h3, h4⟩ <;> rcases g with ⟨g1, g2, g3⟩ | ⟨g1, g2, l, g3, g4⟩
    · exact ⟨h2.trans g2.symm, h3.trans g3.symm⟩
    · exact absurd h1 g1
    · exact absurd g1 h1
    · exact ⟨h2.trans g2.symm, by rw [h3, g3, stop_one h4 g4]⟩
inductive Outc where
  | much
  | none
  | data (d : PyData)
inductive Rw where
  | go (x : Rat)
  | skip (x : Rat)
  | side (x y : Rat)
  | dot
  | left
  | right
  | round
  | mirror
  | grow (s : Rat)
  | quarter (x : Rat)
  | half (x : Rat)
  | arc (c q : Pt)
  | again (n : Nat) (rs : List Rw)
  | keep (rs : List Rw)
  | ever (rs : List Rw)
def Rw.word : Rw → Str
  | .go _ => "go"
  | .skip _ => "skip"
  | .side _ _ => "side"
  | .dot => "dot"
  | .left => "left"
  | .right => "right"
  | .round => "round"
  | .mirror => "mirror"
  | .grow _ => "grow"
  | .quarter _ => "quarter"
  | .half _ => "half"
  | .arc _ _ => "arc"
  | .again _ _ => "again"
  | .keep _ => "keep"
  | .ever _ => "ever"
mutual
def Rw.D : Rw → PyData
  | .go x => .tuple [.str "go", fr x]
  | .skip x => .tuple [.str "skip", fr x]
  | .side x y => .tuple [.str "side", fr x, fr y]
  | .dot => .tuple [.str "dot"]
  | .left => .tuple [.str "left"]
  | .right => .tuple [.str "right"]
  | .round => .tuple [.str "round"]
  | .mirror => .tuple [.str "mirror"]
  | .grow x => .tuple [.str "grow", fr x]
  | .quarter x => .tuple [.str "quarter", fr x]
  | .half x => .tuple [.str "half", fr x]
  | .arc c q => .tuple [.str "arc", fr c.x, fr c.y, fr q.x, fr q.y]
  | .again n rs => .tuple [.str "again", .int (n : Int), .tuple (rowsD rs)]
  | .keep rs => .tuple [.str "keep", .tuple (rowsD rs)]
  | .ever rs => .tuple [.str "ever", .tuple (rowsD rs)]
def rowsD : List Rw → List PyData
  | [] => []
  | r :: rs => r.D :: rowsD rs
end
def Rw.isW (r : Rw) (w : Str) : Bool := PyData.eqv (.str r.word) (.str w)
def Rw.plain : Rw → Bool
  | .again _ _ => false
  | .keep _ => false
  | .ever _ => false
  | _ => true
mutual
def Rw.lines : Rw → Nat
  | .again _ rs => 2 + linesL rs
  | .keep rs => 2 + linesL rs
  | .ever rs => 2 + linesL rs
  | _ => 1
def linesL : List Rw → Nat
  | [] => 0
  | r :: rs => r.lines + linesL rs
end
mutual
def Rw.done : Rw → Nat
  | .again n rs => n * doneL rs
  | .keep rs => doneL rs
  | .ever rs => doneL rs
  | _ => 1
def doneL : List Rw → Nat
  | [] => 0
  | r :: rs => r.done + doneL rs
end
mutual
def Rw.deep : Rw → Nat
  | .again _ rs => 1 + deepL rs
  | .keep rs => 1 + deepL rs
  | .ever rs => 1 + deepL rs
  | _ => 0
def deepL : List Rw → Nat
  | [] => 0
  | r :: rs => max r.deep (deepL rs)
end
theorem doneL_app : ∀ as bs : List Rw, doneL (as ++ bs) = doneL as + doneL bs
  | [], bs => by rw [List.nil_append]; exact (Nat.zero_add _).symm
  | a :: as, bs => by rw [List.cons_append, doneL, doneL, doneL_app as bs, Nat.add_assoc]
theorem deep_mem : ∀ {rs : List Rw} {r : Rw}, r ∈ rs → r.deep ≤ deepL rs
  | a :: as, r, h => by
    rw [deepL]
    rcases List.mem_cons.mp h with rfl | h
    · exact Nat.le_max_left _ _
    · exact Nat.le_trans (deep_mem h) (Nat.le_max_right _ _)
def stand (p : Pt) (t : Int) : Fr := ⟨p, t, 1, 1⟩
def Rw.mv : Rw → Fr
  | .go x => stand ⟨x, 0⟩ 0
  | .skip x => stand ⟨x, 0⟩ 0
  | .side x y => stand ⟨x, y⟩ 0
  | .left => stand ⟨0, 0⟩ 1
  | .right => stand ⟨0, 0⟩ 3
  | .round => stand ⟨0, 0⟩ 2
  | .mirror => ⟨⟨0, 0⟩, 0, -1, 1⟩
  | .grow s => ⟨⟨0, 0⟩, 0, 1, s⟩
  | .quarter x => stand ⟨absR x, x⟩ (if 0 < x then 1 else 3)
  | .half x => stand ⟨0, x + x⟩ 2
  | .arc _ q => stand q 0
  | _ => Fr.one
def Rw.raw : Rw → Option Raw
  | .go x => some (.st ⟨0, 0⟩ ⟨x, 0⟩)
  | .side x y => some (.st ⟨0, 0⟩ ⟨x, y⟩)
  | .dot => some (.dot ⟨0, 0⟩)
  | .quarter x => some (if 0 < x then .arc ⟨0, x⟩ ⟨0, 0⟩ ⟨absR x, x⟩ else .arc ⟨0, x⟩ ⟨absR x, x⟩ ⟨0, 0⟩)
  | .half x => some (if 0 < x then .arc ⟨0, x⟩ ⟨0, 0⟩ ⟨0, x + x⟩ else .arc ⟨0, x⟩ ⟨0, x + x⟩ ⟨0, 0⟩)
  | .arc c q => some (.arc c ⟨0, 0⟩ q)
  | _ => none
def iterF (g : Fr) : Nat → Fr
  | 0 => Fr.one
  | n + 1 => (iterF g n).behind g
mutual
def Rw.move : Rw → Fr
  | .again n rs => iterF (moveA rs Fr.one) n
  | .keep _ => Fr.one
  | .ever _ => Fr.one
  | .go x => (Rw.go x).mv
  | .skip x => (Rw.skip x).mv
  | .side x y => (Rw.side x y).mv
  | .dot => Rw.dot.mv
  | .left => Rw.left.mv
  | .right => Rw.right.mv
  | .round => Rw.round.mv
  | .mirror => Rw.mirror.mv
  | .grow x => (Rw.grow x).mv
  | .quarter x => (Rw.quarter x).mv
  | .half x => (Rw.half x).mv
  | .arc c q => (Rw.arc c q).mv
def moveA : List Rw → Fr → Fr
  | [], f => f
  | r :: rs, f => moveA rs (f.behind r.move)
end
def rdD (q : List Int) : PyData := .tuple (q.map PyData.int)
/-- an ever met: where the pen stood, where it stood behind its rows, its number, the rounds round it, its pieces -/
structure En where
  f : Fr
  g : Fr
  k : Int
  q : List Int
  ts : List Tl
abbrev Ro := Fr × List Tl × List En
def loopR (F : Nat → Fr → Ro) (f : Fr) : Nat → Ro
  | 0 => (f, [], [])
  | n + 1 => ((F n (loopR F f n).1).1, (loopR F f n).2.1 ++ (F n (loopR F f n).1).2.1, (loopR F f n).2.2 ++ (F n (loopR F f n).1).2.2)
def pcsR (r : Rw) (k : Int) (f : Fr) (q : List Int) : List Tl :=
  match r.raw with
  | none => []
  | some z => [(z.led f, .int k, rdD q)]
def plainR (r : Rw) (k : Int) (f : Fr) (q : List Int) : Ro := (f.behind r.mv, pcsR r k f q, [])
mutual
def Rw.run : Rw → Int → Fr → List Int → Ro
  | .again n rs, k, f, q => loopR (fun i g => runL rs (k + 1) g (q ++ [(i : Int)])) f n
  | .keep rs, k, f, q => (f, (runL rs (k + 1) f q).2)
  | .ever rs, k, f, q => (f, [], [⟨f, moveA rs f, k, q, (runL rs (k + 1) f []).2.1⟩])
  | .go x, k, f, q => plainR (.go x) k f q
  | .skip x, k, f, q => plainR (.skip x) k f q
  | .side x y, k, f, q => plainR (.side x y) k f q
  | .dot, k, f, q => plainR .dot k f q
  | .left, k, f, q => plainR .left k f q
  | .right, k, f, q => plainR .right k f q
  | .round, k, f, q => plainR .round k f q
  | .mirror, k, f, q => plainR .mirror k f q
  | .grow x, k, f, q => plainR (.grow x) k f q
  | .quarter x, k, f, q => plainR (.quarter x) k f q
  | .half x, k, f, q => plainR (.half x) k f q
  | .arc c p, k, f, q => plainR (.arc c p) k f q
def runL : List Rw → Int → Fr → List Int → Ro
  | [], _, f, _ => (f, [], [])
  | r :: rs, k, f, q => ((runL rs (k + r.lines) (r.run k f q).1 q).1, (r.run k f q).2.1 ++ (runL rs (k + r.lines) (r.run k f q).1 q).2.1, (r.run k f q).2.2 ++ (runL rs (k + r.lines) (r.run k f q).1 q).2.2)
end
def Co (L : Nat) (x : Rat) : Prop := Fb 40 x ∧ ∃ z : Int, x * (L : Rat) = (z : Rat)
mutual
def Rw.good (L : Nat) : Rw → Prop
  | .go x => Co L x
  | .skip x => Co L x
  | .side x y => Co L x ∧ Co L y
  | .grow s => 0 < s ∧ s.num.natAbs ≤ 12 ∧ s.den ≤ 12
  | .quarter x => Co L x ∧ x ≠ 0
  | .half x => Co L x ∧ x ≠ 0
  | .arc c q => Pb 40 c ∧ (Co L q.x ∧ Co L q.y) ∧ c ≠ ⟨0, 0⟩ ∧ c.far ⟨0, 0⟩ = c.far q
  | .again n rs => n ≤ 12 ∧ goodL L rs
  | .keep rs => goodL L rs
  | .ever rs => goodL L rs
  | .dot => True
  | .left => True
  | .right => True
  | .round => True
  | .mirror => True
def goodL (L : Nat) : List Rw → Prop
  | [] => True
  | r :: rs => r.good L ∧ goodL L rs
end
theorem good_mem {L : Nat} : ∀ {rs : List Rw} {r : Rw}, goodL L rs → r ∈ rs → r.good L
  | a :: as, r, h, hr => by
    rw [goodL] at h
    rcases List.mem_cons.mp hr with rfl | hr
    · exact h.1
    · exact good_mem h.2 hr
theorem good_all {L : Nat} : ∀ {rs : List Rw}, (∀ r ∈ rs, r.good L) → goodL L rs
  | [], _ => by rw [goodL]; trivial
  | a :: as, h => by rw [goodL]; exact ⟨h a List.mem_cons_self, good_all fun r hr => h r (List.mem_cons_of_mem _ hr)⟩
structure Sz (L n : Nat) (f : Fr) : Prop where
  ok : f.ok
  ex : ∃ (d a : Nat) (X Y : Int), 0 < d ∧ d ≤ 12 ^ n ∧ a ≤ 12 ^ n ∧ f.size * (d : Rat) = (a : Rat) ∧ f.place.x * ((d : Rat) * (L : Rat)) = (X : Rat) ∧ f.place.y * ((d : Rat) * (L : Rat)) = (Y : Rat) ∧
    X.natAbs ≤ n * 12 ^ n * L * 2 ^ 41 ∧ Y.natAbs ≤ n * 12 ^ n * L * 2 ^ 41
structure Lim (S P L N : Nat) : Prop where
  l0 : 0 < L
  s0 : 0 < S
  p0 : 0 < P
  s : 12 ^ N < 2 ^ S
  p : (N + 1) * 12 ^ N * L * 2 ^ 41 < 2 ^ P
structure Frs (s p : Nat) (f : Fr) : Prop where
  sz : Fb s f.size
  pl : Pb p f.place
theorem Frs.mono {f : Fr} {s b s' b' : Nat} (h : Frs s b f) (h1 : s ≤ s') (h2 : b ≤ b') : Frs s' b' f := ⟨h.sz.mono h1, h.pl.1.mono h2, h.pl.2.mono h2⟩
/-- a frame's way alone -/
def Fr.pure (f : Fr) : Fr := ⟨⟨0, 0⟩, f.turns, f.hand, f.size⟩
def Rw.inner : Rw → List Rw
  | .again _ rs => rs
  | .keep rs => rs
  | .ever rs => rs
  | _ => []
theorem good_inner {L : Nat} {r : Rw} (h : r.good L) : goodL L r.inner := by
  cases r <;> first | exact h | exact h.2 | trivial
mutual
def Rw.size : Rw → Nat
  | .again _ rs => 1 + sizeL rs
  | .keep rs => 1 + sizeL rs
  | .ever rs => 1 + sizeL rs
  | _ => 1
def sizeL : List Rw → Nat
  | [] => 0
  | r :: rs => r.size + sizeL rs
end
theorem size_mem : ∀ {rs : List Rw} {r : Rw}, r ∈ rs → r.size ≤ sizeL rs
  | a :: as, r, h => by
    rw [sizeL]
    rcases List.mem_cons.mp h with rfl | h
    · omega
    · have := size_mem h
      omega
/-- rows of a program, not too many, not too deep -/
structure Prg (L d : Nat) (rs : List Rw) : Prop where
  g : goodL L rs
  d : deepL rs ≤ d
  z : sizeL rs ≤ 1000
mutual
def Rw.alld (N : Nat) : Rw → Prop
  | .again _ rs => doneL rs ≤ N ∧ alldL N rs
  | .keep rs => doneL rs ≤ N ∧ alldL N rs
  | .ever rs => doneL rs ≤ N ∧ alldL N rs
  | _ => True
def alldL (N : Nat) : List Rw → Prop
  | [] => True
  | r :: rs => r.alld N ∧ alldL N rs
end
theorem alld_mem {N : Nat} : ∀ {rs : List Rw} {r : Rw}, alldL N rs → r ∈ rs → r.alld N
  | a :: as, r, h, hr => by
    rw [alldL] at h
    rcases List.mem_cons.mp hr with rfl | hr
    · exact h.1
    · exact alld_mem h.2 hr
theorem alld_all {N : Nat} : ∀ {rs : List Rw}, (∀ r ∈ rs, r.alld N) → alldL N rs
  | [], _ => by rw [alldL]; trivial
  | a :: as, h => by rw [alldL]; exact ⟨h a List.mem_cons_self, alld_all fun r hr => h r (List.mem_cons_of_mem _ hr)⟩
/-- the bits of a move -/
structure Mv (L lb N : Nat) : Prop where
  l0 : 0 < L
  l1 : L ≤ 2 ^ lb
  n : N ≤ 2000
  b : 8 * N + 2 * lb + 200 ≤ 8800
section
variable {M : MM} {p C qs qe : Addr} {ts : List Tl} {es : List En}
end
mutual
def Rw.acts : Rw → Nat
  | .again n rs => n * actsL rs
  | .keep rs => actsL rs
  | .ever rs => 1 + actsL rs
  | _ => 1
def actsL : List Rw → Nat
  | [] => 0
  | r :: rs => r.acts + actsL rs
end
structure RunOk (L N lb N2 d : Nat) (rs : List Rw) : Prop where
  g : goodL L rs
  d : deepL rs ≤ d
  l1 : Lim 1080 2600 L N
  l2 : Mv L lb N2
  ev : alldL N2 rs
section
variable {M B : MM} {p C qs qe : Addr} {ts : List Tl} {es : List En}
end

section
variable {M B : MM} {t qs qe : Addr} {ts : List Tl} {es : List En}
end
/-- ends whose numbers are not too great -/
structure EnB (e : En) : Prop where
  f : e.f.ok
  g : e.g.ok
  fb : Frs 1080 2600 e.f
  lb : Frs 1200 5000 (e.g.behind e.f.undone)
theorem co_mul {L m : Nat} {x : Rat} (h : Co L x) : Co (L * m) x := by
  obtain ⟨h1, z, hz⟩ := h
  refine ⟨h1, z * m, ?_⟩
  rw [Rat.natCast_mul, Rat.intCast_mul, ← hz, ← Rat.mul_assoc]
  rfl
mutual
theorem good_mul {L m : Nat} : ∀ r : Rw, r.good L → r.good (L * m)
  | .again n rs, h => by rw [Rw.good] at h ⊢; exact ⟨h.1, goodL_mul rs h.2⟩
  | .keep rs, h => by rw [Rw.good] at h ⊢; exact goodL_mul rs h
  | .ever rs, h => by rw [Rw.good] at h ⊢; exact goodL_mul rs h
  | .go x, h => by rw [Rw.good] at h ⊢; exact co_mul h
  | .skip x, h => by rw [Rw.good] at h ⊢; exact co_mul h
  | .side x y, h => by rw [Rw.good] at h ⊢; exact ⟨co_mul h.1, co_mul h.2⟩
  | .dot, _ => trivial
  | .left, _ => trivial
  | .right, _ => trivial
  | .round, _ => trivial
  | .mirror, _ => trivial
  | .grow x, h => by rw [Rw.good] at h ⊢; exact h
  | .quarter x, h => by rw [Rw.good] at h ⊢; exact ⟨co_mul h.1, h.2⟩
  | .half x, h => by rw [Rw.good] at h ⊢; exact ⟨co_mul h.1, h.2⟩
  | .arc c q, h => by rw [Rw.good] at h ⊢; exact ⟨h.1, ⟨co_mul h.2.1.1, co_mul h.2.1.2⟩, h.2.2⟩
theorem goodL_mul {L m : Nat} : ∀ rs : List Rw, goodL L rs → goodL (L * m) rs
  | [], _ => by rw [goodL]; trivial
  | r :: rs, h => by rw [goodL] at h ⊢; exact ⟨good_mul r h.1, goodL_mul rs h.2⟩
end
theorem plains : ∀ {rs : List Rw}, (∀ r ∈ rs, r.plain = true) → doneL rs = rs.length ∧ actsL rs = rs.length ∧ sizeL rs = rs.length ∧ deepL rs = 0 ∧ ∀ N, alldL N rs
  | [], _ => ⟨rfl, rfl, rfl, rfl, fun _ => by rw [alldL]; trivial⟩
  | r :: rs, h => by
    obtain ⟨h1, h2, h4, h5, h6⟩ := plains fun a ha => h a (List.mem_cons_of_mem _ ha)
    have hp := h r List.mem_cons_self
    have e : r.done = 1 ∧ r.acts = 1 ∧ r.size = 1 ∧ r.deep = 0 ∧ ∀ N, r.alld N := by
      cases r <;> first | exact ⟨rfl, rfl, rfl, rfl, fun _ => trivial⟩ | cases hp
    obtain ⟨e1, e2, e4, e5, e6⟩ := e
    refine ⟨?_, ?_, ?_, ?_, fun N => ?_⟩
    · rw [doneL, e1, h1, List.length_cons, Nat.add_comm]
    · rw [actsL, e2, h2, List.length_cons, Nat.add_comm]
    · rw [sizeL, e4, h4, List.length_cons, Nat.add_comm]
    · rw [deepL, e5, h5]
      rfl
    · rw [alldL]
      exact ⟨e6 N, h6 N⟩
mutual
def Rw.draws : Rw → Bool
  | .again n rs => !decide (n = 0) && drawsL rs
  | .keep rs => drawsL rs
  | .ever rs => drawsL rs
  | .go _ => true
  | .side _ _ => true
  | .dot => true
  | .quarter _ => true
  | .half _ => true
  | .arc _ _ => true
  | _ => false
def drawsL : List Rw → Bool
  | [] => false
  | r :: rs => r.draws || drawsL rs
end
def sizeR (rs : List Rw) : Rat := (moveA rs Fr.one).size
def small34 (x : Rat) : Bool := decide (x = 1) || decide (4 * x.num ≤ 3 * (x.den : Int))
def endlessB (rs : List Rw) : Bool := !decide (300 < doneL rs) && (small34 (sizeR rs) && drawsL rs)
mutual
def Rw.bare : Rw → Rw
  | .again n rs => .again n (bareL rs)
  | .keep rs => .keep (bareL rs)
  | .ever rs => .keep (bareL rs)
  | .go x => .go x
  | .skip x => .skip x
  | .side x y => .side x y
  | .dot => .dot
  | .left => .left
  | .right => .right
  | .round => .round
  | .mirror => .mirror
  | .grow x => .grow x
  | .quarter x => .quarter x
  | .half x => .half x
  | .arc c q => .arc c q
def bareL : List Rw → List Rw
  | [] => []
  | r :: rs => r.bare :: bareL rs
end
inductive Bw where
  | no
  | again
  | keep
  | ever
def Bw.word : Bw → Str
  | .no => ""
  | .again => "again"
  | .keep => "keep"
  | .ever => "ever"
def Bw.isE : Bw → Bool
  | .ever => true
  | _ => false
def twelfth : Rat := ⟨1, 12, by decide, by decide⟩
def dotsFor (rs : List Rw) : List Rw := rs ++ List.replicate (if !drawsL rs then 1 else 0) Rw.dot
def growsFor (rs : List Rw) : List Rw := rs ++ List.replicate (if !endlessB rs then 1 else 0) (Rw.grow twelfth)
def everRows (rs : List Rw) : List Rw := growsFor (dotsFor rs)
def closeR (b : Bw) (n : Nat) (rs : List Rw) : Rw :=
  match b with
  | .ever => if endlessB (everRows rs) then .ever (everRows rs) else .keep (everRows rs)
  | .again => .again (if 90 < n * doneL rs then 1 else n) rs
  | _ => .keep rs
/-- how great rows are, by the cells they were built of -/
structure Mz (c lb d : Nat) (rs : List Rw) : Prop where
  ex : ∃ L N : Nat, 0 < L ∧ L ≤ 2 ^ lb ∧ goodL L rs ∧ alldL N rs ∧ lb + 4 * N ≤ 80 * c
  hb : lb ≤ 40 * c
  dn : doneL rs ≤ c ∨ (lb + 80 ≤ 40 * c ∧ 3 ≤ c)
  d4 : lb + 4 * doneL rs ≤ 80 * c
  dp : deepL rs ≤ d
  sz : sizeL rs ≤ 2 * c
theorem deepL_app : ∀ as bs : List Rw, deepL (as ++ bs) = max (deepL as) (deepL bs)
  | [], bs => by rw [List.nil_append]; exact (Nat.zero_max _).symm
  | a :: as, bs => by rw [List.cons_append, deepL, deepL, deepL_app as bs, Nat.max_assoc]
theorem sizeL_app : ∀ as bs : List Rw, sizeL (as ++ bs) = sizeL as + sizeL bs
  | [], bs => by rw [List.nil_append]; exact (Nat.zero_add _).symm
  | a :: as, bs => by rw [List.cons_append, sizeL, sizeL, sizeL_app as bs, Nat.add_assoc]
mutual
theorem alld_mono {N N' : Nat} (k : N ≤ N') : ∀ r : Rw, r.alld N → r.alld N'
  | .again n rs, h => by rw [Rw.alld] at h ⊢; exact ⟨Nat.le_trans h.1 k, alldL_mono k rs h.2⟩
  | .keep rs, h => by rw [Rw.alld] at h ⊢; exact ⟨Nat.le_trans h.1 k, alldL_mono k rs h.2⟩
  | .ever rs, h => by rw [Rw.alld] at h ⊢; exact ⟨Nat.le_trans h.1 k, alldL_mono k rs h.2⟩
  | .go x, _ => trivial
  | .skip x, _ => trivial
  | .side x y, _ => trivial
  | .dot, _ => trivial
  | .left, _ => trivial
  | .right, _ => trivial
  | .round, _ => trivial
  | .mirror, _ => trivial
  | .grow x, _ => trivial
  | .quarter x, _ => trivial
  | .half x, _ => trivial
  | .arc c q, _ => trivial
theorem alldL_mono {N N' : Nat} (k : N ≤ N') : ∀ rs : List Rw, alldL N rs → alldL N' rs
  | [], _ => by rw [alldL]; trivial
  | r :: rs, h => by rw [alldL] at h ⊢; exact ⟨alld_mono k r h.1, alldL_mono k rs h.2⟩
end
structure Fm where
  t : Addr
  l : Addr
  b : Bw
  n : Nat
  rs : List Rw
section
variable {B : MM} {st : Addr} {fs : List Fm} {i : Nat} {f : Fm}
end

/-- the second number of a block's row is not 0 -/
def Rw.second : Rw → PyData
  | .again n _ => .int (n : Int)
  | .keep rs => .tuple (rowsD rs)
  | .ever rs => .tuple (rowsD rs)
  | _ => .none
theorem atI_last {α : Type} {xs : List α} {x : α} : atI (xs ++ [x]) (-1) = some x := by
  unfold atI
  have : ixN (xs ++ [x]).length (-1) = some xs.length := by
    unfold ixN
    rw [List.length_append, List.length_singleton]
    simp
    omega
  rw [this]
  simp
/-- rows that may be looked at -/
structure Pk (L lb N : Nat) (rs : List Rw) : Prop where
  g : goodL L rs
  a : alldL N rs
  n : doneL rs ≤ N
  d : deepL rs ≤ 8
  z : sizeL rs ≤ 1000
  m : Mv L lb N
theorem Pk.p {L lb N : Nat} {rs : List Rw} (h : Pk L lb N rs) : Prg L 8 rs := ⟨h.g, h.d, h.z⟩
/-- the open blocks' measures: cells, bits -/
inductive FmsOk : List Fm → Nat → Nat → Prop where
  | one {f : Fm} {c lb : Nat} (h : Mz c lb 4 f.rs) : FmsOk [f] c lb
  | snoc {fs : List Fm} {C LB c lb : Nat} {f : Fm} (h : FmsOk fs C LB) (k : Mz c lb (4 - fs.length) f.rs) (hn : f.n ≤ 12) (hb : f.b ≠ .no) : FmsOk (fs ++ [f]) (C + c) (LB + lb)
/-- a program that a law builds -/
structure Built (rs : List Rw) : Prop where
  ex : ∃ c lb : Nat, Mz c lb 4 rs ∧ c ≤ 40 ∧ lb ≤ 1440
  dn : doneL rs ≤ 300
theorem lim300 {L : Nat} (h0 : 0 < L) (h : L ≤ 2 ^ 1440) : Lim 1080 2600 L 300 := by
  refine ⟨h0, by decide, by decide, by decide +kernel, ?_⟩
  have h1 : (300 + 1) * 12 ^ 300 * L * 2 ^ 41 ≤ (300 + 1) * 12 ^ 300 * 2 ^ 1440 * 2 ^ 41 := Nat.mul_le_mul_right _ (Nat.mul_le_mul_left _ h)
  have h2 : (300 + 1) * 12 ^ 300 * 2 ^ 1440 * 2 ^ 41 < 2 ^ 2600 := by decide +kernel
  exact Nat.lt_of_le_of_lt h1 h2
theorem built_run {rs : List Rw} (h : Built rs) : ∃ L lb N : Nat, Prg L 8 rs ∧ RunOk L 300 lb N 8 rs ∧ doneL rs ≤ N := by
  obtain ⟨⟨c, lb, ⟨⟨L, N0, h0, h1, h2, h3, h4⟩, hlb, hdn, hd4, hdp, hsz⟩, hc, hl⟩, hd⟩ := h
  have hn : 4 * max N0 (doneL rs) + lb ≤ 80 * c := by
    rcases Nat.le_total N0 (doneL rs) with z | z
    · rw [Nat.max_eq_right z]; omega
    · rw [Nat.max_eq_left z]; omega
  exact ⟨L, lb, max N0 (doneL rs), ⟨h2, by omega, by omega⟩, ⟨h2, by omega, lim300 h0 (Nat.le_trans h1 (p2_le hl)), ⟨h0, h1, by omega, by omega⟩, alldL_mono (Nat.le_max_left _ _) rs h3⟩, Nat.le_max_right _ _⟩
mutual
def Rw.opn : Rw → Nat
  | .again n rs => n * opnL rs
  | .keep rs => 1 + opnL rs
  | .ever rs => 1 + opnL rs
  | _ => 1
def opnL : List Rw → Nat
  | [] => 0
  | r :: rs => r.opn + opnL rs
end
mutual
def Rw.kp : Rw → Nat
  | .again n rs => n * kpL rs
  | .keep rs => 1 + kpL rs
  | .ever rs => 1 + kpL rs
  | _ => 0
def kpL : List Rw → Nat
  | [] => 0
  | r :: rs => r.kp + kpL rs
end
mutual
theorem opn_kp : ∀ r : Rw, r.opn = r.done + r.kp ∧ r.acts ≤ r.opn
  | .again n rs => by
    obtain ⟨h1, h2⟩ := opnL_kp rs
    rw [Rw.opn, Rw.done, Rw.kp, Rw.acts, h1, Nat.mul_add]
    refine ⟨rfl, ?_⟩
    rw [← Nat.mul_add, ← h1]
    exact Nat.mul_le_mul_left _ h2
  | .keep rs => by
    obtain ⟨h1, h2⟩ := opnL_kp rs
    rw [Rw.opn, Rw.done, Rw.kp, Rw.acts]
    omega
  | .ever rs => by
    obtain ⟨h1, h2⟩ := opnL_kp rs
    rw [Rw.opn, Rw.done, Rw.kp, Rw.acts]
    omega
  | .go x => ⟨rfl, Nat.le_refl _⟩
  | .skip x => ⟨rfl, Nat.le_refl _⟩
  | .side x y => ⟨rfl, Nat.le_refl _⟩
  | .dot => ⟨rfl, Nat.le_refl _⟩
  | .left => ⟨rfl, Nat.le_refl _⟩
  | .right => ⟨rfl, Nat.le_refl _⟩
  | .round => ⟨rfl, Nat.le_refl _⟩
  | .mirror => ⟨rfl, Nat.le_refl _⟩
  | .grow x => ⟨rfl, Nat.le_refl _⟩
  | .quarter x => ⟨rfl, Nat.le_refl _⟩
  | .half x => ⟨rfl, Nat.le_refl _⟩
  | .arc c q => ⟨rfl, Nat.le_refl _⟩
theorem opnL_kp : ∀ rs : List Rw, opnL rs = doneL rs + kpL rs ∧ actsL rs ≤ opnL rs
  | [] => ⟨rfl, Nat.le_refl _⟩
  | r :: rs => by
    obtain ⟨h1, h2⟩ := opn_kp r
    obtain ⟨k1, k2⟩ := opnL_kp rs
    rw [opnL, doneL, kpL, actsL]
    omega
end
theorem kpL_flat : ∀ rs : List Rw, deepL rs = 0 → kpL rs = 0
  | [], _ => rfl
  | r :: rs, h => by
    rw [deepL] at h
    have h1 := kpL_flat rs (by omega)
    have h2 : r.deep = 0 := by omega
    have h3 : r.kp = 0 := by
      cases r <;> first | rfl | (rw [Rw.deep] at h2; omega)
    rw [kpL, h1, h3]
mutual
theorem kp_le {L : Nat} : ∀ (r : Rw) (d : Nat), r.good L → r.deep ≤ d + 1 → r.kp ≤ r.size * 12 ^ d
  | .again n rs, d, h, k => by
    rw [Rw.good] at h
    rw [Rw.deep] at k
    rw [Rw.kp, Rw.size]
    cases d with
    | zero => rw [kpL_flat rs (by omega), Nat.mul_zero]; exact Nat.zero_le _
    | succ e =>
      have h1 := kpL_le rs e h.2 (by omega)
      have h2 : n * kpL rs ≤ 12 * (sizeL rs * 12 ^ e) := Nat.mul_le_mul h.1 h1
      have h3 : 12 * (sizeL rs * 12 ^ e) = sizeL rs * (12 ^ e * 12) := by grind
      rw [Nat.pow_succ]
      have h4 : (1 + sizeL rs) * (12 ^ e * 12) = 12 ^ e * 12 + sizeL rs * (12 ^ e * 12) := by rw [Nat.add_mul, Nat.one_mul]
      omega
  | .keep rs, d, h, k => by
    rw [Rw.good] at h
    rw [Rw.deep] at k
    have h2 : 1 ≤ 12 ^ d := Nat.pow_pos (by decide)
    have h1 := kpL_le rs d h (by omega)
    rw [Rw.kp, Rw.size, Nat.add_mul]
    omega
  | .ever rs, d, h, k => by
    rw [Rw.good] at h
    rw [Rw.deep] at k
    have h2 : 1 ≤ 12 ^ d := Nat.pow_pos (by decide)
    have h1 := kpL_le rs d h (by omega)
    rw [Rw.kp, Rw.size, Nat.add_mul]
    omega
  | .go x, d, _, _ => Nat.zero_le _
  | .skip x, d, _, _ => Nat.zero_le _
  | .side x y, d, _, _ => Nat.zero_le _
  | .dot, d, _, _ => Nat.zero_le _
  | .left, d, _, _ => Nat.zero_le _
  | .right, d, _, _ => Nat.zero_le _
  | .round, d, _, _ => Nat.zero_le _
  | .mirror, d, _, _ => Nat.zero_le _
  | .grow x, d, _, _ => Nat.zero_le _
  | .quarter x, d, _, _ => Nat.zero_le _
  | .half x, d, _, _ => Nat.zero_le _
  | .arc c q, d, _, _ => Nat.zero_le _
theorem kpL_le {L : Nat} : ∀ (rs : List Rw) (d : Nat), goodL L rs → deepL rs ≤ d + 1 → kpL rs ≤ sizeL rs * 12 ^ d
  | [], d, _, _ => Nat.zero_le _
  | r :: rs, d, h, k => by
    rw [goodL] at h
    rw [deepL] at k
    have h1 := kp_le r d h.1 (by omega)
    have h2 := kpL_le rs d h.2 (by omega)
    rw [kpL, sizeL, Nat.add_mul]
    omega
end
theorem mz_drop {c lb d : Nat} {rs : List Rw} (h : Mz c lb d rs) (i : Nat) : Mz c lb d (rs.drop i) := by
  obtain ⟨⟨L, N, h0, h1, h2, h3, h4⟩, hlb, hdn, hd4, hdp, hsz⟩ := h
  have e : rs = rs.take i ++ rs.drop i := (List.take_append_drop _ _).symm
  have e1 : doneL rs = doneL (rs.take i) + doneL (rs.drop i) := by rw [← doneL_app, ← e]
  have e2 : deepL rs = max (deepL (rs.take i)) (deepL (rs.drop i)) := by rw [← deepL_app, ← e]
  have e3 : sizeL rs = sizeL (rs.take i) + sizeL (rs.drop i) := by rw [← sizeL_app, ← e]
  refine ⟨⟨L, N, h0, h1, good_all fun r hr => good_mem h2 (List.mem_of_mem_drop hr), alld_all fun r hr => alld_mem h3 (List.mem_of_mem_drop hr), h4⟩, hlb, by omega, by omega, by omega, by omega⟩
/-- rows to be opened -/
structure Op (d : Nat) (rs : List Rw) : Prop where
  ex : ∃ L : Nat, Prg L d rs
  n : opnL rs ≤ 90000
  z : sizeL rs * 12 ^ (d - 1) ≤ 90000
/-- all that is asked of rows that are opened and drawn -/
structure Od (rs : List Rw) : Prop where
  op : Op 4 rs
  dr : ∃ L lb N, Prg L 8 rs ∧ RunOk L 300 lb N 8 rs
  dn : doneL rs ≤ 300
theorem od_of {c lb : Nat} {rs : List Rw} (h : Mz c lb 4 rs) (hc : c ≤ 18) (hl : lb ≤ 1440) (hd : doneL rs ≤ 300) : Od rs := by
  obtain ⟨L, lb', N, hP, hO, _⟩ := built_run ⟨⟨c, lb, h, by omega, hl⟩, hd⟩
  have hs := h.sz
  have hk := kpL_le rs 3 hP.g h.dp
  have hk2 : sizeL rs * 12 ^ 3 ≤ 36 * 12 ^ 3 := Nat.mul_le_mul_right _ (by omega)
  have hn := (opnL_kp rs).1
  have e : (36 : Nat) * 12 ^ 3 = 62208 := by decide
  refine ⟨⟨⟨L, hP.g, h.dp, hP.z⟩, by omega, ?_⟩, ⟨L, lb', N, hP, hO⟩, hd⟩
  show sizeL rs * 12 ^ 3 ≤ 90000
  omega
mutual
def Rw.evo : Rw → Prop
  | .again _ rs => evoL rs
  | .keep rs => evoL rs
  | .ever rs => 1 ≤ doneL rs ∧ evoL rs
  | _ => True
def evoL : List Rw → Prop
  | [] => True
  | r :: rs => r.evo ∧ evoL rs
end
theorem evoL_nil : evoL [] := by rw [evoL]; trivial
theorem evoL_app : ∀ {as bs : List Rw}, evoL as → evoL bs → evoL (as ++ bs)
  | [], _, _, h => h
  | a :: as, bs, h, k => by rw [evoL] at h; rw [List.cons_append, evoL]; exact ⟨h.1, evoL_app h.2 k⟩
theorem evoL_one {r : Rw} (h : r.evo) : evoL [r] := by rw [evoL, evoL]; exact ⟨h, trivial⟩
theorem evo_plain {r : Rw} (h : r.plain = true) : r.evo := by cases r <;> first | trivial | cases h
mutual
theorem evo_acts : ∀ r : Rw, r.evo → r.acts ≤ (1 + r.deep) * r.done
  | .again n rs, h => by
    rw [Rw.evo] at h
    have i := evoL_acts rs h
    rw [Rw.acts, Rw.deep, Rw.done]
    have h2 : n * actsL rs ≤ n * ((1 + deepL rs) * doneL rs) := Nat.mul_le_mul_left _ i
    have h3 : n * ((1 + deepL rs) * doneL rs) = (1 + deepL rs) * (n * doneL rs) := by rw [Nat.mul_left_comm]
    have h4 : (1 + deepL rs) * (n * doneL rs) ≤ (1 + (1 + deepL rs)) * (n * doneL rs) := Nat.mul_le_mul_right _ (by omega)
    omega
  | .keep rs, h => by
    rw [Rw.evo] at h
    have i := evoL_acts rs h
    rw [Rw.acts, Rw.deep, Rw.done]
    have h4 : (1 + deepL rs) * doneL rs ≤ (1 + (1 + deepL rs)) * doneL rs := Nat.mul_le_mul_right _ (by omega)
    omega
  | .ever rs, h => by
    rw [Rw.evo] at h
    have i := evoL_acts rs h.2
    rw [Rw.acts, Rw.deep, Rw.done]
    have h4 : (1 + (1 + deepL rs)) * doneL rs = doneL rs + (1 + deepL rs) * doneL rs := by rw [Nat.add_mul, Nat.one_mul]
    omega
  | .go x, _ => Nat.le_refl _
  | .skip x, _ => Nat.le_refl _
  | .side x y, _ => Nat.le_refl _
  | .dot, _ => Nat.le_refl _
  | .left, _ => Nat.le_refl _
  | .right, _ => Nat.le_refl _
  | .round, _ => Nat.le_refl _
  | .mirror, _ => Nat.le_refl _
  | .grow x, _ => Nat.le_refl _
  | .quarter x, _ => Nat.le_refl _
  | .half x, _ => Nat.le_refl _
  | .arc c q, _ => Nat.le_refl _
theorem evoL_acts : ∀ rs : List Rw, evoL rs → actsL rs ≤ (1 + deepL rs) * doneL rs
  | [], _ => Nat.zero_le _
  | r :: rs, h => by
    rw [evoL] at h
    have h1 := evo_acts r h.1
    have h2 := evoL_acts rs h.2
    rw [actsL, deepL, doneL, Nat.mul_add]
    have h3 : (1 + r.deep) * r.done ≤ (1 + max r.deep (deepL rs)) * r.done := Nat.mul_le_mul_right _ (by omega)
    have h4 : (1 + deepL rs) * doneL rs ≤ (1 + max r.deep (deepL rs)) * doneL rs := Nat.mul_le_mul_right _ (by omega)
    omega
end
/-- a program built of so many cells -/
structure BuiltN (n : Nat) (rs : List Rw) : Prop where
  ex : ∃ c lb : Nat, Mz c lb 4 rs ∧ c ≤ n + 4 ∧ lb ≤ 40 * n
  dn : doneL rs ≤ 300
  ev : evoL rs
theorem BuiltN.b {n : Nat} {rs : List Rw} (h : BuiltN n rs) (k : n ≤ 36) : Built rs := by
  obtain ⟨⟨c, lb, h1, h2, h3⟩, hd, _⟩ := h
  exact ⟨⟨c, lb, h1, by omega, by omega⟩, hd⟩
theorem BuiltN.acts {n : Nat} {rs : List Rw} (h : BuiltN n rs) : actsL rs ≤ 1500 := by
  obtain ⟨⟨c, lb, h1, h2, h3⟩, hd, he⟩ := h
  have h4 := evoL_acts rs he
  have h5 := h1.dp
  have h6 : (1 + deepL rs) * doneL rs ≤ 5 * 300 := Nat.mul_le_mul (by omega) hd
  omega
theorem BuiltN.od {n : Nat} {rs : List Rw} (h : BuiltN n rs) (k : n ≤ 14) (i : Nat) : Od (rs.drop i) := by
  obtain ⟨⟨c, lb, h1, h2, h3⟩, hd, _⟩ := h
  have e : rs = rs.take i ++ rs.drop i := (List.take_append_drop _ _).symm
  have e1 : doneL rs = doneL (rs.take i) + doneL (rs.drop i) := by rw [← doneL_app, ← e]
  exact od_of (mz_drop h1 i) (by omega) (by omega) (by omega)


structure VwG (M : MM) (s : S) (d : PyData) : Prop where
  ok : ∀ {K : PySem.W.Frag} {F H : Hp} {v : V}, HM K F M H → SR K F v s → Dp K H v d
theorem Vw.g {M : MM} {s : S} {d : PyData} (h : Vw M s d) : VwG M s d := ⟨fun hm r => h.ok hm r⟩
section
variable {Y : Ct} {γ γ' : List S} {M M1 M2 M3 : MM} {s s1 s2 : S} {e a b o : Expr} {es : List Expr} {pos p : Pos} {Q : S → MM → Prop} {b1 : Bool} {sts : List Stmt} {P : Po}
end
abbrev Ql := List (Addr × List PyData)
def Ql.D (qs : Ql) : PyData := .list (qs.map fun q => .list q.2)
def Ql.obs (qs : Ql) : List S := qs.map fun q => S.ob q.1
/-- where they lie -/
structure LL (M : MM) (fo : Addr) (qs : Ql) : Prop where
  o : ∃ k : Nat, M[k]? = some (fo, .lst qs.obs)
  i : ∀ q ∈ qs, ∃ k : Nat, M[k]? = some (q.1, .lst (q.2.map S.d))
theorem ll_pairs {K : PySem.W.Frag} {F H : Hp} {M : MM} (hm : HM K F M H) : ∀ {qs : Ql} {vs : List V}, (∀ q ∈ qs, ∃ k : Nat, M[k]? = some (q.1, .lst (q.2.map S.d))) → Paired (SR K F) vs (Ql.obs qs) → DpAll K H vs (qs.map fun q => .list q.2)
  | [], _, _, h => by cases h; exact .nil
  | q :: qs, _, hi, h => by
    cases h with
    | cons r t =>
      obtain ⟨k, hk⟩ := hi q List.mem_cons_self
      obtain ⟨_, ws, g1, g2⟩ := hm.mo _ _ (List.mem_of_getElem? hk)
      cases r
      exact .cons (.lst (.of g1) (dps_mono hm.fh _ _ (all_d g2))) (ll_pairs hm (fun q' hq' => hi q' (List.mem_cons_of_mem _ hq')) t)
theorem LL.v {M : MM} {fo : Addr} {qs : Ql} (h : LL M fo qs) : VwG M (.ob fo) qs.D := ⟨fun {K F H v} hm r => by
  obtain ⟨k, hk⟩ := h.o
  obtain ⟨_, vs, h1, h2⟩ := hm.mo _ _ (List.mem_of_getElem? hk)
  cases r
  exact .lst (.of h1) (ll_pairs hm h.i h2)⟩
def llM (fo : Addr) (qs : Ql) : MM := (fo, .lst qs.obs) :: qs.map fun q => (q.1, .lst (q.2.map S.d))
inductive Lg where
  | st (p q : Pt)
  | bend (c p q : Pt) (w : Int)
def Lg.D : Lg → PyData
  | .st p q => .tuple [.str "straight", pt p, pt q]
  | .bend c p q w => .tuple [.str "bend", pt c, pt p, pt q, .int w]
def Lg.word : Lg → Str
  | .st _ _ => "straight"
  | .bend _ _ _ _ => "bend"
def Lg.a : Lg → Pt
  | .st p _ => p
  | .bend _ p _ _ => p
def Lg.b : Lg → Pt
  | .st _ q => q
  | .bend _ _ q _ => q
def Lg.led (f : Fr) : Lg → Lg
  | .st p q => .st (f.led p) (f.led q)
  | .bend c p q w => .bend (f.led c) (f.led p) (f.led q) (w * f.hand)
def Lg.pb (k : Nat) : Lg → Prop
  | .st p q => Pb k p ∧ Pb k q
  | .bend c p q w => Pb k c ∧ Pb k p ∧ Pb k q ∧ (w = 1 ∨ w = -1)
def sgnW (x : Rat) : Int := if x.num < 0 then -1 else 1
def stOr (q : Pt) : Option Lg := if q = ⟨0, 0⟩ then none else some (.st ⟨0, 0⟩ q)
def Rw.leg : Rw → Option Lg
  | .go x => stOr ⟨x, 0⟩
  | .side x y => stOr ⟨x, y⟩
  | .quarter x => some (.bend ⟨0, x⟩ ⟨0, 0⟩ ⟨absR x, x⟩ (sgnW x))
  | .half x => some (.bend ⟨0, x⟩ ⟨0, 0⟩ ⟨0, x + x⟩ (sgnW x))
  | .arc c q => some (.bend c ⟨0, 0⟩ q 1)
  | _ => none
def Rw.legR (r : Rw) (f : Fr) : List Lg := match r.leg with
  | none => []
  | some l => [l.led f]
def loopG (F : Fr → List Lg × Fr) (f : Fr) : Nat → List Lg × Fr
  | 0 => ([], f)
  | n + 1 => ((loopG F f n).1 ++ (F (loopG F f n).2).1, (F (loopG F f n).2).2)
mutual
def Rw.legs : Rw → Fr → List Lg × Fr
  | .again n rs, f => loopG (legsL rs) f n
  | .keep rs, f => ((legsL rs f).1, f)
  | .ever _, f => ([], f)
  | .go x, f => ((Rw.go x).legR f, f.behind (Rw.go x).mv)
  | .skip x, f => ((Rw.skip x).legR f, f.behind (Rw.skip x).mv)
  | .side x y, f => ((Rw.side x y).legR f, f.behind (Rw.side x y).mv)
  | .dot, f => (Rw.dot.legR f, f.behind Rw.dot.mv)
  | .left, f => (Rw.left.legR f, f.behind Rw.left.mv)
  | .right, f => (Rw.right.legR f, f.behind Rw.right.mv)
  | .round, f => (Rw.round.legR f, f.behind Rw.round.mv)
  | .mirror, f => (Rw.mirror.legR f, f.behind Rw.mirror.mv)
  | .grow x, f => ((Rw.grow x).legR f, f.behind (Rw.grow x).mv)
  | .quarter x, f => ((Rw.quarter x).legR f, f.behind (Rw.quarter x).mv)
  | .half x, f => ((Rw.half x).legR f, f.behind (Rw.half x).mv)
  | .arc c q, f => ((Rw.arc c q).legR f, f.behind (Rw.arc c q).mv)
def legsL : List Rw → Fr → List Lg × Fr
  | [], f => ([], f)
  | r :: rs, f => ((r.legs f).1 ++ (legsL rs (r.legs f).2).1, (legsL rs (r.legs f).2).2)
end
mutual
def Rw.unit : Rw → Prop
  | .go x => x = 1
  | .dot => True
  | .left => True
  | .right => True
  | .round => True
  | .mirror => True
  | .again _ rs => unitL rs
  | .keep rs => unitL rs
  | .ever rs => unitL rs
  | _ => False
def unitL : List Rw → Prop
  | [] => True
  | r :: rs => r.unit ∧ unitL rs
end
structure Un (n : Nat) (f : Fr) : Prop where
  ok : f.ok
  sz : f.size = 1
  ex : ∃ X Y : Int, f.place.x * 1 = (X : Rat) ∧ f.place.y * 1 = (Y : Rat) ∧ X.natAbs ≤ n ∧ Y.natAbs ≤ n
structure RunU (L N lb N2 d : Nat) (rs : List Rw) : Prop where
  g : goodL L rs
  d : deepL rs ≤ d
  l1 : Lim 1080 2600 L N
  u : unitL rs
  z : sizeL rs ≤ 1000
theorem RunU.p {L N lb N2 d : Nat} {rs : List Rw} (h : RunU L N lb N2 d rs) : Prg L d rs := ⟨h.g, h.d, h.z⟩
mutual
def Rw.ne : Rw → Prop
  | .again _ rs => neL rs
  | .keep rs => neL rs
  | .ever _ => False
  | _ => True
def neL : List Rw → Prop
  | [] => True
  | r :: rs => r.ne ∧ neL rs
end
mutual
def Rw.ei : Rw → Prop
  | .again _ rs => eiL rs
  | .keep rs => eiL rs
  | .ever rs => neL rs
  | _ => True
def eiL : List Rw → Prop
  | [] => True
  | r :: rs => r.ei ∧ eiL rs
end

structure U7 (k : Nat) (e : Bool) (rs : List Rw) : Prop where
  u : unitL rs
  g : goodL 1 rs
  d : deepL rs ≤ k
  z : sizeL rs ≤ 9 + 6 * k
  v : evoL rs
  n : 1 ≤ doneL rs
  ne : e = false → neL rs
  ei : eiL rs
theorem U7.p {k : Nat} {e : Bool} {rs : List Rw} (h : U7 k e rs) (hk : k ≤ 5) : Prg 1 8 rs := by
  have h1 := h.d
  have h2 := h.z
  exact ⟨h.g, by omega, by omega⟩
/-- filled up -/
structure Fd7 (rs : List Rw) : Prop where
  u : unitL rs
  p : Prg 1 8 rs
  v : evoL rs
  ei : eiL rs
theorem Fd7.run {rs : List Rw} (h : Fd7 rs) : RunU 1 300 0 0 8 rs := ⟨h.p.g, h.p.d, lim300 (by decide) (by decide +kernel), h.u, h.p.z⟩
theorem Fd7.acts {rs : List Rw} (h : Fd7 rs) (hd : doneL rs ≤ 300) : actsL rs ≤ 90000 := by
  have h1 := evoL_acts rs h.v
  have h2 := h.p.d
  have h3 : (1 + deepL rs) * doneL rs ≤ 9 * 300 := Nat.mul_le_mul (by omega) hd
  omega
structure CuQ (A B : Pt) (ts : List Rat) (n : Nat) : Prop where
  so : ts.Pairwise (· < ·)
  hd : ∃ l, ts = 0 :: l
  la : ts.getLast? = some 1
  rg : ∀ t ∈ ts, 0 ≤ t ∧ t ≤ 1 ∧ Pb 200 (A.mix B t)
  ln : ts.length ≤ n + 2
def lnD (a b d : Int) : PyData := .tuple [.str "line", .int a, .int b, .int d]
/-- the divisor of three, with the sign that makes the first one above 0, or the second -/
def lnG (a b d : Int) : Int := if a < 0 ∨ (a = 0 ∧ b < 0) then -(Int.gcd (Int.gcd a b) d : Int) else (Int.gcd (Int.gcd a b) d : Int)
def lnN (a b d : Int) : Int × Int × Int := (a.fdiv (lnG a b d), b.fdiv (lnG a b d), d.fdiv (lnG a b d))
def lnA (w : Pt) (h : Rat) : Int := w.y.num * ((w.x.den : Int) * h.den)
def lnB (w : Pt) (h : Rat) : Int := 0 - w.x.num * ((w.y.den : Int) * h.den)
def lnC (w : Pt) (h : Rat) : Int := 0 - h.num * ((w.x.den : Int) * w.y.den)
def lineW (w : Pt) (h : Rat) : PyData := lnD (lnN (lnA w h) (lnB w h) (lnC w h)).1 (lnN (lnA w h) (lnB w h) (lnC w h)).2.1 (lnN (lnA w h) (lnB w h) (lnC w h)).2.2
def lineD (p q : Pt) : PyData := lineW (q.sub p) ((q.sub p).across p)
def circD (c : Pt) (r : Rat) : PyData := .tuple [.str "circle", pt c, fr r]
def carD : Pc → PyData
  | .dot _ => .none
  | .st p q => lineD p q
  | .arc c p _ => circD c (c.far p)
  | .ring c p => circD c (c.far p)
def Pc.isDot : Pc → Bool
  | .dot _ => true
  | _ => false
def samK : Option Pt → Pc → Prop
  | none, .st _ _ => True
  | some c, .arc c' _ _ => c' = c
  | some c, .ring c' _ => c' = c
  | _, _ => False
structure Jk (k : Option Pt) (z : Pc) : Prop where
  s : samK k z
  b : z.pc 300 300
theorem word_ring (z : Pc) : PyData.eqv z.word (.str "ring") = (match z with | .ring _ _ => true | _ => false) := by cases z <;> simp only [Pc.word] <;> decide +kernel
def Pc.two : Pc → Pt
  | .dot p => p
  | .st _ q => q
  | .arc _ p _ => p
  | .ring _ p => p
def dotP : Pc → Pt
  | .dot p => p
  | .st p _ => p
  | .arc c _ _ => c
  | .ring c _ => c
def cov (L : List (Int × Int)) (x : Int) : Prop := ∃ s ∈ L, 2 * s.1 ≤ x ∧ x ≤ 2 * s.2
structure MOk (b : Int) (acc : List (Int × Int)) : Prop where
  p : acc.Pairwise fun s t => s.2 < t.1
  v : ∀ s ∈ acc, s.1 ≤ s.2 ∧ s.1 ≤ b
def inS (s : Int × Int) (x : Int) : Prop := 2 * s.1 ≤ x ∧ x ≤ 2 * s.2
instance (s : Int × Int) (x : Int) : Decidable (inS s x) := by unfold inS; infer_instance
instance (L : List (Int × Int)) (x : Int) : Decidable (cov L x) := by unfold cov; infer_instance
structure Rk (c a : Pt) (l : List Pt) (r : Pt → Int) : Prop where
  on : ∀ p ∈ l, OnC c a p
  lt : ∀ p ∈ l, ∀ q ∈ l, (ltK c a p q = true ↔ r p < r q)
  eq : ∀ p ∈ l, ∀ q ∈ l, (p = q ↔ r p = r q)
theorem chord_alg {ux uy wx wy px py : Rat} (hu : ux ≠ 0 ∨ uy ≠ 0) (h1 : 2 * (px * ux + py * uy) + ux * ux + uy * uy = 0) (h2 : 2 * (px * wx + py * wy) + wx * wx + wy * wy = 0) (hz : ux * wy - uy * wx = 0) : (wx = 0 ∧ wy = 0) ∨ (wx = ux ∧ wy = uy) := by
  obtain ⟨s, e1, e2⟩ : ∃ s : Rat, wx = s * ux ∧ wy = s * uy := by
    rcases hu with hu | hu
    · exact ⟨wx / ux, by grind, by grind⟩
    · exact ⟨wy / uy, by grind, by grind⟩
  subst e1 e2
  have hn : ux * ux + uy * uy ≠ 0 := fun e => by
    obtain ⟨a, b⟩ := sum_sq e
    rcases hu with hu | hu
    · exact hu a
    · exact hu b
  have h3 : (s * (s - 1)) * (ux * ux + uy * uy) = 0 := by grind
  rcases Rat.mul_eq_zero.mp h3 with h4 | h4
  · rcases Rat.mul_eq_zero.mp h4 with h5 | h5
    · left; subst h5; exact ⟨Rat.zero_mul _, Rat.zero_mul _⟩
    · right
      have : s = 1 := by grind
      subst this
      exact ⟨Rat.one_mul _, Rat.one_mul _⟩
  · exact absurd h4 hn
theorem chord_two {c a p q x : Pt} (hp : OnC c a p) (hq : OnC c a q) (hx : OnC c a x) (hpq : p ≠ q) (hz : (q.sub p).across (x.sub p) = 0) : x = p ∨ x = q := by
  have h1 : (q.sub c).along (q.sub c) = (p.sub c).along (p.sub c) := by rw [hq, hp]
  have h2 : (x.sub c).along (x.sub c) = (p.sub c).along (p.sub c) := by rw [hx, hp]
  unfold Pt.along Pt.sub at h1 h2
  unfold Pt.across Pt.sub at hz
  simp only at h1 h2 hz
  rcases chord_alg (ux := q.x - p.x) (uy := q.y - p.y) (wx := x.x - p.x) (wy := x.y - p.y) (px := p.x - c.x) (py := p.y - c.y) (pt_ne hpq) (by grind) (by grind) hz with ⟨e1, e2⟩ | ⟨e1, e2⟩
  · left; apply pt_ext <;> grind
  · right; apply pt_ext <;> grind
section
variable {c a : Pt} (ha : a ≠ c) {l : List Pt} {r : Pt → Int} (h : Rk c a l r)
include ha
theorem arc_flip {p q x : Pt} (hp : OnC c a p) (hq : OnC c a q) (hx : OnC c a x) (hpq : p ≠ q) : (Pc.arc c q p).on x = true ↔ (Pc.arc c p q).on x = false ∨ x = p ∨ x = q := by
  have e : (p.sub q).across (x.sub q) = -((q.sub p).across (x.sub p)) := by unfold Pt.across Pt.sub; simp only; grind
  rw [on_arc (arc_okK ha hp hq hpq), on_arc (arc_okK ha hq hp hpq.symm), decide_eq_true (far_on.mpr (onC_trK ha hp hx)), decide_eq_true (far_on.mpr (onC_trK ha hq hx)), Bool.true_and, Bool.true_and, decide_eq_true_eq, decide_eq_false_iff_not, e]
  constructor
  · intro z
    by_cases y : (q.sub p).across (x.sub p) = 0
    · exact .inr (chord_two hp hq hx hpq y)
    · left; grind
  · rintro (z | rfl | rfl)
    · grind
    · unfold Pt.across Pt.sub; simp only; grind
    · unfold Pt.across Pt.sub; simp only; grind
include h
theorem Rk.arc {p q x : Pt} (hp : p ∈ l) (hq : q ∈ l) (hx : x ∈ l) (hpq : p ≠ q) : (Pc.arc c p q).on x = true ↔ (r p < r q ∧ r p ≤ r x ∧ r x ≤ r q) ∨ (r q < r p ∧ (r p ≤ r x ∨ r x ≤ r q)) := by
  have key : ∀ {p q}, p ∈ l → q ∈ l → r p < r q → ((Pc.arc c p q).on x = true ↔ r p ≤ r x ∧ r x ≤ r q) := fun {p q} hp hq hr => by
    rw [arc_btw ha (h.on p hp) (h.on q hq) (h.on x hx) ((h.lt p hp q hq).mpr hr), Bool.and_eq_true, Bool.not_eq_true', Bool.not_eq_true', ← Bool.not_eq_true, ← Bool.not_eq_true, h.lt x hx p hp, h.lt q hq x hx]
    omega
  have hne : r p ≠ r q := fun e => hpq ((h.eq p hp q hq).mpr e)
  by_cases hr : r p < r q
  · rw [key hp hq hr]
    omega
  · have hr2 : r q < r p := by omega
    rw [arc_flip ha (h.on q hq) (h.on p hp) (h.on x hx) hpq.symm, ← Bool.not_eq_true, key hq hp hr2, h.eq x hx q hq, h.eq x hx p hp]
    omega
theorem Rk.ahead {f p q : Pt} (hf : f ∈ l) (hp : p ∈ l) (hq : q ∈ l) : aheadB c f p q = true ↔ (r f < r q ∧ r f ≤ r p ∧ r p < r q) ∨ (r q < r f ∧ (r f ≤ r p ∨ r p < r q)) := by
  have hfc := onC_neK ha (h.on f hf)
  have ofp := onC_trK ha (h.on f hf) (h.on p hp)
  have ofq := onC_trK ha (h.on f hf) (h.on q hq)
  have e := ahead_place hfc ofp ofq
  have q1 := h.eq p hp q hq
  have q2 := h.eq f hf q hq
  have q3 := h.eq p hp f hf
  by_cases e1 : p = q
  · subst e1
    rw [e, earlier_irr]
    constructor
    · intro z; cases z
    · intro z; exfalso; omega
  · by_cases e2 : f = q
    · subst e2
      rw [e, placeP_self hfc, place_nn hfc ofp]
      constructor
      · intro z; cases z
      · intro z; exfalso; omega
    · by_cases e3 : p = f
      · subst e3
        have : ltK c p p q = true := ltK_a hfc ofq (Ne.symm e2)
        rw [e]
        unfold ltK at this
        rw [this]
        have n2 : ¬ r p = r q := fun z => e2 (q2.mpr z)
        constructor
        · intro _; omega
        · intro _; rfl
      · have hh := h.arc ha hf hq hp e2
        have hd : (Pc.arc c f q).on p = aheadB c f p q := by
          show (decide (c.far p = c.far f) && (decide (p = f) || decide (p = q) || aheadB c f p q)) = _
          rw [decide_eq_true (far_on.mpr ofp), decide_eq_false e3, decide_eq_false e1]
          rfl
        rw [hd] at hh
        rw [hh]
        have n1 : ¬ r p = r q := fun z => e1 (q1.mpr z)
        have n2 : ¬ r f = r q := fun z => e2 (q2.mpr z)
        omega
end
instance (c p x : Pt) : Decidable (OnC c p x) := by unfold OnC; infer_instance
theorem cr_self1 (p q : Pt) : cr p q p = 0 := by rw [cr_e]; grind
theorem cr_self2 (p q : Pt) : cr p q q = 0 := by rw [cr_e]; grind
structure GdK (K : PyData) (z : Pc) : Prop where
  ok : z.ok
  nd : z.isDot = false
  car : carD z = K
def stP : Pc → Option Pt
  | .st p _ => some p
  | .arc _ p _ => some p
  | _ => none
def enP : Pc → Option Pt
  | .st _ q => some q
  | .arc _ _ q => some q
  | _ => none
def isRing : Pc → Bool
  | .ring _ _ => true
  | _ => false
/-- no two have a point in common; a ring stands alone -/
def ApP (x y : Pc) : Prop := isRing x = false ∧ isRing y = false ∧ ∀ w, x.on w = true → y.on w = true → False
theorem ApP.symm {x y : Pc} (h : ApP x y) : ApP y x := ⟨h.2.1, h.1, fun w a b => h.2.2 w b a⟩
def onAny (zs : List Pc) (w : Pt) : Bool := zs.any fun z => z.on w
/-- where its ends come from -/
def FromP (zs : List Pc) (z : Pc) : Prop := isRing z = true ∨ ((∃ y ∈ zs, stP z = stP y) ∧ ∃ y ∈ zs, enP z = enP y)
theorem FromP.mono {zs ys : List Pc} {z : Pc} (h : FromP zs z) (k : ∀ y ∈ zs, y ∈ ys) : FromP ys z := h.imp_right fun ⟨⟨a, a1, a2⟩, b, b1, b2⟩ => ⟨⟨a, k a a1, a2⟩, b, k b b1, b2⟩
structure FndP (zs : List Pc) (y : Pc) : Prop where
  gd : GdK (carD y) y
  from' : ∃ gs : List Pc, (∀ z ∈ gs, z ∈ zs ∧ GdK (carD y) z) ∧ FromP gs y ∧ (isRing y = true → ∃ c z, z ∈ gs ∧ y = .ring c z.two)
def Pc.rd : Pc → Bool
  | .arc _ _ _ => true
  | .ring _ _ => true
  | _ => false
theorem word_rd (z : Pc) : ([PyData.str "arc", .str "ring"].any fun y => PyData.eqv y z.word) = z.rd := by
  cases z with
  | dot p => exact (show ([PyData.str "arc", .str "ring"].any fun y => PyData.eqv y (.str "dot")) = false by decide +kernel)
  | st p q => exact (show ([PyData.str "arc", .str "ring"].any fun y => PyData.eqv y (.str "stretch")) = false by decide +kernel)
  | arc c p q => exact (show ([PyData.str "arc", .str "ring"].any fun y => PyData.eqv y (.str "arc")) = true by decide +kernel)
  | ring c p => exact (show ([PyData.str "arc", .str "ring"].any fun y => PyData.eqv y (.str "ring")) = true by decide +kernel)
/-- its ends are on it -/
theorem on_ends {K : PyData} {A : Pc} (hA : GdK K A) : (∀ u, stP A = some u → A.on u = true) ∧ (∀ v, enP A = some v → A.on v = true) ∧ (isRing A = false → ∃ u v, stP A = some u ∧ enP A = some v) := by
  obtain ⟨o, d, k⟩ := hA
  cases A with
  | dot p => cases d
  | ring c p => exact ⟨fun u h => (nomatch h), fun v h => (nomatch h), fun h => (nomatch h)⟩
  | st p q =>
    have := onS_ends (le_bef o)
    exact ⟨fun u h => by rw [← Option.some.inj h]; exact this.1, fun v h => by rw [← Option.some.inj h]; exact this.2, fun _ => ⟨p, q, rfl, rfl⟩⟩
  | arc c p q =>
    refine ⟨fun u h => ?_, fun v h => ?_, fun _ => ⟨p, q, rfl, rfl⟩⟩
    · rw [← Option.some.inj h]
      show (decide (c.far p = c.far p) && (decide (p = p) || _ || _)) = true
      rw [decide_eq_true rfl, decide_eq_true rfl]
      rfl
    · rw [← Option.some.inj h]
      show (decide (c.far q = c.far p) && (decide (q = p) || decide (q = q) || _)) = true
      rw [decide_eq_true (far_on.mpr o.2.1), decide_eq_true rfl, Bool.or_true]
      rfl
section
variable {K : PyData} {J1 J2 : List Pc} (g1 : ∀ y ∈ J1, GdK K y) (g2 : ∀ y ∈ J2, GdK K y) (p1 : J1.Pairwise ApP) (p2 : J2.Pairwise ApP) (hc : ∀ w, onAny J1 w = onAny J2 w)
include g1 g2 p2 hc
include p1
end
structure StP (c a : Pt) (sf : Nat → Pt) (n : Nat) : Prop where
  n0 : 0 < n
  on : ∀ i < n, OnC c a (sf i)
  lt : ∀ i < n, ∀ j < n, (ltK c a (sf i) (sf j) = true ↔ i < j)
  zero : sf 0 = a
section
variable {c a : Pt} (ha : a ≠ c) {sf : Nat → Pt} {n : Nat} (hs : StP c a sf n)
include ha hs
end
def prv (n k : Nat) : Nat := (k + n - 1) % n
/-- a run of covered gaps, from one to the next that is not -/
structure Run (G : Nat → Bool) (n at' L : Nat) : Prop where
  lt : at' < n
  l1 : 1 ≤ L
  l2 : L < n
  on : ∀ j < L, G ((at' + j) % n) = true
  st : G (prv n at') = false
  en : G ((at' + L) % n) = false
def SpN (n : Nat) (sp : List (Nat × Nat)) : Prop := ∀ s ∈ sp, s.1 < n ∧ s.2 ≤ n
section
variable {c a : Pt} (ha : a ≠ c) {sf : Nat → Pt} {n : Nat} (hs : StP c a sf n) {sp : List (Nat × Nat)} (hsp : SpN n sp)
include ha hs hsp
end

section
variable {Y : Ct} {γ : List S} {M M1 : MM} {elt it tg : Expr} {ifs : List Expr} {xs : List S} {scope : Scope} {P : Po}
end

abbrev Eo := Addr × Addr × En
section
variable {M B : MM} {p C qs qe : Addr} {ts : List Tl} {es : List Eo}
end
def stepK (b : Bool) (rs : List Rw) (h d : Nat) (w : Bool) (q : Except Nat Nat) : Except Nat Nat :=
  if (decide ((d : Int) = 4) || (w && b)) = true then .error h else match q with
    | .error i => .error i
    | .ok m => if (b && !endlessB rs) = true then .error h else .ok (m + 1)
mutual
def lookR : Rw → Nat → Nat → Bool → Except Nat Nat
  | .again _ rs, h, d, w => stepK false rs h d w (lookL rs (h + 1) (d + 1) (w || false))
  | .keep rs, h, d, w => stepK false rs h d w (lookL rs (h + 1) (d + 1) (w || false))
  | .ever rs, h, d, w => stepK true rs h d w (lookL rs (h + 1) (d + 1) (w || true))
  | .go _, h, _, _ => .ok (h + 1)
  | .skip _, h, _, _ => .ok (h + 1)
  | .side _ _, h, _, _ => .ok (h + 1)
  | .dot, h, _, _ => .ok (h + 1)
  | .left, h, _, _ => .ok (h + 1)
  | .right, h, _, _ => .ok (h + 1)
  | .round, h, _, _ => .ok (h + 1)
  | .mirror, h, _, _ => .ok (h + 1)
  | .grow _, h, _, _ => .ok (h + 1)
  | .quarter _, h, _, _ => .ok (h + 1)
  | .half _, h, _, _ => .ok (h + 1)
  | .arc _ _, h, _, _ => .ok (h + 1)
def lookL : List Rw → Nat → Nat → Bool → Except Nat Nat
  | [], n, _, _ => .ok n
  | r :: rs, n, d, w => match lookR r n d w with
    | .error i => .error i
    | .ok m => lookL rs m d w
end
theorem look_plain {r : Rw} (hp : r.plain = true) (h d : Nat) (w : Bool) : lookR r h d w = .ok (h + 1) := by cases r <;> first | (rw [lookR]; done) | cases hp
theorem look_blk {r : Rw} (hp : r.plain = false) (h d : Nat) (w : Bool) : lookR r h d w = stepK (r.isW "ever") r.inner h d w (lookL r.inner (h + 1) (d + 1) (w || r.isW "ever")) := by
  cases r with
  | again n rs =>
    have e : (Rw.again n rs).isW "ever" = false := by simp only [Rw.isW, Rw.word]; decide +kernel
    rw [lookR, e]
    rfl
  | keep rs =>
    have e : (Rw.keep rs).isW "ever" = false := by simp only [Rw.isW, Rw.word]; decide +kernel
    rw [lookR, e]
    rfl
  | ever rs =>
    have e : (Rw.ever rs).isW "ever" = true := by simp only [Rw.isW, Rw.word]; decide +kernel
    rw [lookR, e]
    rfl
  | _ => cases hp
def LkR (r : Rw) (d : Nat) (w : Bool) : Prop := ∀ h, ∃ m, lookR r h d w = .ok m
def LkL (rs : List Rw) (d : Nat) (w : Bool) : Prop := ∀ h, ∃ m, lookL rs h d w = .ok m
theorem LkL.nil (d : Nat) (w : Bool) : LkL [] d w := fun h => ⟨h, by rw [lookL]⟩
theorem LkL.cons {r : Rw} {rs : List Rw} {d : Nat} {w : Bool} (h : LkR r d w) (k : LkL rs d w) : LkL (r :: rs) d w := fun n => by
  obtain ⟨m, e⟩ := h n
  obtain ⟨m2, e2⟩ := k m
  exact ⟨m2, by rw [lookL, e]; exact e2⟩
theorem LkL.hd {r : Rw} {rs : List Rw} {d : Nat} {w : Bool} (h : LkL (r :: rs) d w) : LkR r d w := fun n => by
  obtain ⟨m, e⟩ := h n
  rw [lookL] at e
  cases e2 : lookR r n d w with
  | error j => rw [e2] at e; cases e
  | ok m2 => exact ⟨m2, rfl⟩
/-- the number of a row plays no part -/
def sameE (a b : Except Nat Nat) : Prop := (∃ x y, a = .ok x ∧ b = .ok y) ∨ (∃ x y, a = .error x ∧ b = .error y)
theorem stepK_same {b : Bool} {rs : List Rw} {h1 h2 d : Nat} {w : Bool} {p q : Except Nat Nat} (h : sameE p q) : sameE (stepK b rs h1 d w p) (stepK b rs h2 d w q) := by
  unfold stepK
  split
  · exact .inr ⟨_, _, rfl, rfl⟩
  · rcases h with ⟨x, y, rfl, rfl⟩ | ⟨x, y, rfl, rfl⟩
    · simp only []
      split
      · exact .inr ⟨_, _, rfl, rfl⟩
      · exact .inl ⟨_, _, rfl, rfl⟩
    · exact .inr ⟨_, _, rfl, rfl⟩
mutual
theorem lookR_same : ∀ (r : Rw) (h1 h2 d : Nat) (w : Bool), sameE (lookR r h1 d w) (lookR r h2 d w)
  | .again n rs, h1, h2, d, w => by rw [lookR, lookR]; exact stepK_same (lookL_same rs _ _ _ _)
  | .keep rs, h1, h2, d, w => by rw [lookR, lookR]; exact stepK_same (lookL_same rs _ _ _ _)
  | .ever rs, h1, h2, d, w => by rw [lookR, lookR]; exact stepK_same (lookL_same rs _ _ _ _)
  | .go _, h1, h2, _, _ => by rw [lookR, lookR]; exact .inl ⟨_, _, rfl, rfl⟩
  | .skip _, h1, h2, _, _ => by rw [lookR, lookR]; exact .inl ⟨_, _, rfl, rfl⟩
  | .side _ _, h1, h2, _, _ => by rw [lookR, lookR]; exact .inl ⟨_, _, rfl, rfl⟩
  | .dot, h1, h2, _, _ => by rw [lookR, lookR]; exact .inl ⟨_, _, rfl, rfl⟩
  | .left, h1, h2, _, _ => by rw [lookR, lookR]; exact .inl ⟨_, _, rfl, rfl⟩
  | .right, h1, h2, _, _ => by rw [lookR, lookR]; exact .inl ⟨_, _, rfl, rfl⟩
  | .round, h1, h2, _, _ => by rw [lookR, lookR]; exact .inl ⟨_, _, rfl, rfl⟩
  | .mirror, h1, h2, _, _ => by rw [lookR, lookR]; exact .inl ⟨_, _, rfl, rfl⟩
  | .grow _, h1, h2, _, _ => by rw [lookR, lookR]; exact .inl ⟨_, _, rfl, rfl⟩
  | .quarter _, h1, h2, _, _ => by rw [lookR, lookR]; exact .inl ⟨_, _, rfl, rfl⟩
  | .half _, h1, h2, _, _ => by rw [lookR, lookR]; exact .inl ⟨_, _, rfl, rfl⟩
  | .arc _ _, h1, h2, _, _ => by rw [lookR, lookR]; exact .inl ⟨_, _, rfl, rfl⟩
theorem lookL_same : ∀ (rs : List Rw) (h1 h2 d : Nat) (w : Bool), sameE (lookL rs h1 d w) (lookL rs h2 d w)
  | [], h1, h2, d, w => by rw [lookL, lookL]; exact .inl ⟨_, _, rfl, rfl⟩
  | r :: rs, h1, h2, d, w => by
    rw [lookL, lookL]
    rcases lookR_same r h1 h2 d w with ⟨x, y, e1, e2⟩ | ⟨x, y, e1, e2⟩
    · rw [e1, e2]
      exact lookL_same rs x y d w
    · rw [e1, e2]
      exact .inr ⟨_, _, rfl, rfl⟩
end
theorem LkL.tl {r : Rw} {rs : List Rw} {d : Nat} {w : Bool} (h : LkL (r :: rs) d w) : LkL rs d w := fun n => by
  obtain ⟨m, e⟩ := h n
  rw [lookL] at e
  cases e2 : lookR r n d w with
  | error j => rw [e2] at e; cases e
  | ok m2 =>
    rw [e2] at e
    have e : lookL rs m2 d w = .ok m := e
    rcases lookL_same rs m2 n d w with ⟨x, y, e3, e4⟩ | ⟨x, y, e3, e4⟩
    · exact ⟨y, e4⟩
    · rw [e] at e3; cases e3
theorem LkL.app : ∀ {as bs : List Rw} {d : Nat} {w : Bool}, LkL as d w → LkL bs d w → LkL (as ++ bs) d w
  | [], _, _, _, _, k => k
  | a :: as, bs, d, w, h, k => .cons h.hd (h.tl.app k)
theorem LkL.left : ∀ {as bs : List Rw} {d : Nat} {w : Bool}, LkL (as ++ bs) d w → LkL as d w
  | [], _, d, w, _ => .nil d w
  | a :: as, bs, d, w, h => .cons h.hd (LkL.left (as := as) h.tl)
theorem LkL.right : ∀ {as bs : List Rw} {d : Nat} {w : Bool}, LkL (as ++ bs) d w → LkL bs d w
  | [], _, d, w, h => h
  | a :: as, bs, d, w, h => LkL.right (as := as) h.tl
theorem LkL.take {rs : List Rw} {d : Nat} {w : Bool} (h : LkL rs d w) (i : Nat) : LkL (rs.take i) d w := LkL.left (bs := rs.drop i) (by rw [List.take_append_drop]; exact h)
theorem LkR.plain {r : Rw} (hp : r.plain = true) (d : Nat) (w : Bool) : LkR r d w := fun h => ⟨h + 1, look_plain hp h d w⟩
theorem LkL.all : ∀ {rs : List Rw} {d : Nat} {w : Bool}, (∀ r ∈ rs, LkR r d w) → LkL rs d w
  | [], d, w, _ => .nil d w
  | a :: as, d, w, h => .cons (h a List.mem_cons_self) (LkL.all fun r hr => h r (List.mem_cons_of_mem _ hr))
/-- a block -/
theorem LkR.blk {r : Rw} {d : Nat} {w : Bool} (hp : r.plain = false) (hd : d ≠ 4) (hw : (w && r.isW "ever") = false) (he : (r.isW "ever" && !endlessB r.inner) = false) (hi : LkL r.inner (d + 1) (w || r.isW "ever")) : LkR r d w := fun h => by
  obtain ⟨m, e⟩ := hi (h + 1)
  refine ⟨m + 1, ?_⟩
  rw [look_blk hp, e]
  unfold stepK
  rw [if_neg (by rw [Bool.or_eq_true, hw]; rintro (z | z); · have := of_decide_eq_true z; omega
                 · cases z)]
  simp only []
  rw [if_neg (by rw [he]; decide)]
theorem LkR.un {r : Rw} {d : Nat} {w : Bool} (hp : r.plain = false) (h : LkR r d w) : d ≠ 4 ∧ (w && r.isW "ever") = false ∧ (r.isW "ever" && !endlessB r.inner) = false ∧ LkL r.inner (d + 1) (w || r.isW "ever") := by
  obtain ⟨m, e⟩ := h 0
  rw [look_blk hp] at e
  unfold stepK at e
  by_cases c : (decide ((d : Int) = 4) || (w && r.isW "ever")) = true
  · rw [if_pos c] at e; cases e
  · rw [if_neg c] at e
    rw [Bool.or_eq_true, not_or] at c
    refine ⟨fun z => c.1 (by rw [z]; rfl), by simpa using c.2, ?_⟩
    cases e2 : lookL r.inner (0 + 1) (d + 1) (w || r.isW "ever") with
    | error j => rw [e2] at e; cases e
    | ok m2 =>
      rw [e2] at e
      simp only [] at e
      by_cases c2 : (r.isW "ever" && !endlessB r.inner) = true
      · rw [if_pos c2] at e; cases e
      · refine ⟨by simpa using c2, fun n => ?_⟩
        rcases lookL_same r.inner (0 + 1) n (d + 1) (w || r.isW "ever") with ⟨x, y, e3, e4⟩ | ⟨x, y, e3, e4⟩
        · exact ⟨y, e4⟩
        · rw [e2] at e3; cases e3
theorem isE_again (n : Nat) (rs : List Rw) : (Rw.again n rs).isW "ever" = false := by simp only [Rw.isW, Rw.word]; decide +kernel
theorem isE_keep (rs : List Rw) : (Rw.keep rs).isW "ever" = false := by simp only [Rw.isW, Rw.word]; decide +kernel
theorem isE_ever (rs : List Rw) : (Rw.ever rs).isW "ever" = true := by simp only [Rw.isW, Rw.word]; decide +kernel
theorem LkR.again {n : Nat} {rs : List Rw} {d : Nat} {w : Bool} (hd : d ≠ 4) (h : LkL rs (d + 1) w) : LkR (.again n rs) d w := .blk rfl hd (by rw [isE_again, Bool.and_false]) (by rw [isE_again, Bool.false_and]) (by rw [isE_again, Bool.or_false]; exact h)
theorem LkR.keep {rs : List Rw} {d : Nat} {w : Bool} (hd : d ≠ 4) (h : LkL rs (d + 1) w) : LkR (.keep rs) d w := .blk rfl hd (by rw [isE_keep, Bool.and_false]) (by rw [isE_keep, Bool.false_and]) (by rw [isE_keep, Bool.or_false]; exact h)
theorem LkR.ever {rs : List Rw} {d : Nat} (hd : d ≠ 4) (he : endlessB rs = true) (h : LkL rs (d + 1) true) : LkR (.ever rs) d false := .blk rfl hd (by rw [Bool.false_and]) (by rw [isE_ever]; show (true && !endlessB rs) = false; rw [he]; rfl) (by rw [isE_ever, Bool.or_true]; exact h)
mutual
theorem LkR.lift : ∀ {r : Rw} {d : Nat}, LkR r d true → LkR r d false
  | .again n rs, d, h => by
    obtain ⟨h1, _, _, h4⟩ := h.un rfl
    rw [isE_again, Bool.or_false] at h4
    exact .again h1 (LkL.lift h4)
  | .keep rs, d, h => by
    obtain ⟨h1, _, _, h4⟩ := h.un rfl
    rw [isE_keep, Bool.or_false] at h4
    exact .keep h1 (LkL.lift h4)
  | .ever rs, d, h => by
    obtain ⟨_, h2, _, _⟩ := h.un rfl
    rw [isE_ever] at h2
    cases h2
  | .go _, d, h => .plain rfl d _
  | .skip _, d, h => .plain rfl d _
  | .side _ _, d, h => .plain rfl d _
  | .dot, d, h => .plain rfl d _
  | .left, d, h => .plain rfl d _
  | .right, d, h => .plain rfl d _
  | .round, d, h => .plain rfl d _
  | .mirror, d, h => .plain rfl d _
  | .grow _, d, h => .plain rfl d _
  | .quarter _, d, h => .plain rfl d _
  | .half _, d, h => .plain rfl d _
  | .arc _ _, d, h => .plain rfl d _
theorem LkL.lift : ∀ {rs : List Rw} {d : Nat}, LkL rs d true → LkL rs d false
  | [], d, _ => .nil d _
  | r :: rs, d, h => .cons (LkR.lift h.hd) (LkL.lift h.tl)
end

def evW (fs : List Fm) : Bool := fs.any fun f => f.b.isE
structure StI (fs : List Fm) : Prop where
  e : ∀ f ∈ fs, evoL f.rs
  l : ∀ (i : Nat) (f : Fm), fs[i]? = some f → LkL f.rs i (evW (fs.take (i + 1))) ∧ (f.b.isE = true → evW (fs.take i) = false)
theorem StI.start (t l : Addr) (n : Nat) : StI [⟨t, l, .no, n, []⟩] := ⟨fun f hf => by rw [List.mem_singleton.mp hf]; exact evoL_nil, fun i f h => by
  cases i with
  | zero => cases Option.some.inj h; exact ⟨.nil _ _, fun z => by cases z⟩
  | succ i => cases h⟩
theorem StI.upd {gs : List Fm} {g : Fm} {ts : List Fm} {rs : List Rw} (h : StI (gs ++ g :: ts)) (he : evoL rs) (hl : LkL rs gs.length (evW (gs ++ [g]))) : StI (gs ++ [{ g with rs := rs }]) := by
  have hg : (gs ++ g :: ts)[gs.length]? = some g := by simp
  refine ⟨fun f hf => ?_, fun i f hi => ?_⟩
  · rcases List.mem_append.mp hf with z | z
    · exact h.e f (List.mem_append_left _ z)
    · rw [List.mem_singleton.mp z]; exact he
  · by_cases c : i < gs.length
    · rw [List.getElem?_append_left c] at hi
      rw [List.take_append_of_le_length (by omega), List.take_append_of_le_length (by omega)]
      have := h.l i f (by rw [List.getElem?_append_left c]; exact hi)
      rw [List.take_append_of_le_length (by omega), List.take_append_of_le_length (by omega)] at this
      exact this
    · have hl2 := (List.getElem?_eq_some_iff.mp hi).1
      rw [List.length_append, List.length_singleton] at hl2
      have e : i = gs.length := by omega
      subst e
      rw [List.getElem?_append_right (Nat.le_refl _), Nat.sub_self] at hi
      cases Option.some.inj hi
      have e1 : (gs ++ [{ g with rs := rs }]).take (gs.length + 1) = gs ++ [{ g with rs := rs }] := List.take_of_length_le (by simp)
      have e2 : evW (gs ++ [{ g with rs := rs }]) = evW (gs ++ [g]) := by unfold evW; simp
      rw [e1, e2, List.take_append_of_le_length (Nat.le_refl _), List.take_length]
      have := (h.l gs.length g hg).2
      rw [List.take_append_of_le_length (Nat.le_refl _), List.take_length] at this
      exact ⟨hl, this⟩
theorem StI.last {gs : List Fm} {g : Fm} {ts : List Fm} (h : StI (gs ++ g :: ts)) : LkL g.rs gs.length (evW (gs ++ [g])) := by
  have hg : (gs ++ g :: ts)[gs.length]? = some g := by simp
  have := (h.l gs.length g hg).1
  have e1 : (gs ++ g :: ts).take (gs.length + 1) = gs ++ [g] := by
    rw [show gs ++ g :: ts = (gs ++ [g]) ++ ts by simp, List.take_append_of_le_length (by simp), List.take_of_length_le (by simp)]
  rw [e1] at this
  exact this
theorem StI.plain {gs : List Fm} {f : Fm} {r : Rw} (h : StI (gs ++ [f])) (hp : r.plain = true) : StI (gs ++ [{ f with rs := f.rs ++ [r] }]) :=
  h.upd (evoL_app (h.e f (by simp)) (evoL_one (evo_plain hp))) (h.last.app (.cons (.plain hp _ _) (.nil _ _)))
theorem LkL.plains {n : Nat} {r : Rw} (hp : r.plain = true) (d : Nat) (w : Bool) : LkL (List.replicate n r) d w := .all fun a ha => by rw [List.eq_of_mem_replicate ha]; exact .plain hp d w
theorem LkL.evers {rs : List Rw} {d : Nat} {w : Bool} (h : LkL rs d w) : LkL (everRows rs) d w := by
  unfold everRows growsFor dotsFor
  exact (h.app (.plains rfl d w)).app (.plains rfl d w)
theorem StI.one {f : Fm} (h : StI [f]) : LkL f.rs 0 false := by
  have := (h.l 0 f rfl).1
  cases c : evW ([f].take (0 + 1)) with
  | false => rw [c] at this; exact this
  | true => rw [c] at this; exact this.lift
theorem LkL.ok {rs : List Rw} {d : Nat} {w : Bool} (h : LkL rs d w) (n : Nat) : ∃ m, lookL rs n d w = .ok m := h n

theorem Pc.pb.up {z : Pc} {n m : Nat} (h : z.pb n) (k : n ≤ m) : z.pb m := by
  cases z with
  | dot p => exact ⟨h.1.mono k, h.2.mono k⟩
  | st p q => exact ⟨⟨h.1.1.mono k, h.1.2.mono k⟩, ⟨h.2.1.mono k, h.2.2.mono k⟩⟩
  | arc c p q => exact ⟨⟨h.1.1.mono k, h.1.2.mono k⟩, ⟨h.2.1.1.mono k, h.2.1.2.mono k⟩, ⟨h.2.2.1.mono k, h.2.2.2.mono k⟩⟩
  | ring c p => exact ⟨⟨h.1.1.mono k, h.1.2.mono k⟩, ⟨h.2.1.mono k, h.2.2.mono k⟩⟩
def KnD : PyData → Prop
  | .dict _ => False
  | _ => True
def tupB : PyData → Bool
  | .tuple _ => true
  | _ => false
/-- an item of a row -/
structure ItOk (nb : Nat) (x : PyData) : Prop where
  k : KnD x
  k2 : ∀ a b, x = .tuple [a, b] → KnD a ∧ KnD b
  b : ∀ q, x = fr q → Fb nb q
structure RwOk (nb : Nat) (d : PyData) : Prop where
  k : KnD d
  i : ∀ x xs, d = .tuple (x :: xs) → KnD x ∧ xs.length ≤ 50 ∧ ∀ y ∈ xs, ItOk nb y
def wdD : PyData → Str
  | .tuple (.str w :: _) => w
  | _ => ""
def numW (w : Str) : Option Nat :=
  if w = "go" then some 1 else if w = "skip" then some 1 else if w = "side" then some 2 else if w = "dot" then some 0 else if w = "left" then some 0 else if w = "right" then some 0 else if w = "round" then some 0 else if w = "mirror" then some 0 else if w = "grow" then some 1 else if w = "quarter" then some 1 else if w = "half" then some 1 else if w = "arc" then some 4 else none
def condQ (w : Str) (qs : List Rat) : Bool :=
  if w = "grow" then (match qs with
    | [x] => (decide (1 ≤ x.num) && decide (x.num ≤ 12)) && decide ((x.den : Int) ≤ 12)
    | _ => false)
  else if w = "quarter" ∨ w = "half" then (match qs with
    | [x] => !decide (x.num = 0)
    | _ => false)
  else if w = "arc" then (match qs with
    | [a, b, c, d] => !decide ((⟨a, b⟩ : Pt) = ⟨0, 0⟩) && decide ((⟨a, b⟩ : Pt).far ⟨0, 0⟩ = (⟨a, b⟩ : Pt).far ⟨c, d⟩)
    | _ => false)
  else true
open Classical in
/-- the fractions that items are -/
noncomputable def frsOf (xs : List PyData) : Option (List Rat) := if h : ∃ qs : List Rat, xs = qs.map fr then some (Classical.choose h) else none
/-- whether data is a row without a block -/
noncomputable def plD : PyData → Bool
  | .tuple (.str w :: xs) => match numW w with
    | none => false
    | some n => decide (xs.length = n) && (match frsOf xs with
      | none => false
      | some qs => condQ w qs)
  | _ => false
def intT (i : Int) : Str := Str.ofString (toString i)
theorem tl_intT (i : Int) : TL.tl (intT i) = if 0 ≤ i then TL.numL i.toNat else 45 :: TL.numL i.natAbs := by
  cases i with
  | ofNat n =>
    rw [if_pos (show 0 ≤ Int.ofNat n from Int.natCast_nonneg n)]
    exact TL.tl_num n
  | negSucc n =>
    rw [if_neg (by omega)]
    show TL.tl (Str.ofString ("-" ++ toString (n + 1))) = 45 :: TL.numL (n + 1)
    rw [TL.tl_ofString, String.toList_append, List.map_append]
    have e := TL.tl_num (n + 1)
    rw [TL.tl_ofString] at e
    have e2 : ("-" : String).toList.map Char.toNat = [45] := by decide
    rw [e2]
    show 45 :: _ = 45 :: _
    exact congrArg _ e
/-- a fraction, written -/
def numT (q : Rat) : Str := if q.den = 1 then intT q.num else intT q.num ++ "/" ++ intT (q.den : Int)
def digB (l : List Nat) : Bool := l.all fun c => decide (48 ≤ c) && decide (c ≤ 57)
def figs (l : List Nat) : List Nat := if l.take 1 = [45] then l.drop 1 else l
def wholeO (z : Str) : Option Int :=
  if (figs (TL.tl z) = [] ∨ digB (figs (TL.tl z)) = false) ∨ ((figs (TL.tl z)).head? = some 48 ∧ z ≠ "0") then none
  else some (if (TL.tl z).take 1 = [45] then -((NumText.digitsVal (figs (TL.tl z)) : Nat) : Int) else ((NumText.digitsVal (figs (TL.tl z)) : Nat) : Int))
theorem int_no {i : Int} {s : Nat} (h : s < 45 ∨ 57 < s ∨ s = 46 ∨ s = 47) : s ∉ TL.tl (intT i) := fun hm => by
  rw [tl_intT] at hm
  split at hm
  · exact TL.numL_free (by omega) hm
  · rcases List.mem_cons.mp hm with rfl | hm
    · omega
    · exact TL.numL_free (by omega) hm
theorem int_len {i : Int} {k : Nat} (hk : 0 < k) (h : i.natAbs < 10 ^ k) : (intT i).length ≤ k + 1 := by
  rw [TL.len_tl, tl_intT]
  split
  · have := TL.numL_len hk (show i.toNat < 10 ^ k by omega)
    omega
  · have := TL.numL_len hk h
    rw [List.length_cons]
    omega
theorem str_len (x y : Str) : (x ++ y).length = x.length + y.length := by rw [TL.len_tl, TL.tl_append, List.length_append, ← TL.len_tl, ← TL.len_tl]
theorem num_no {q : Rat} {s : Nat} (h : s < 45 ∨ 57 < s) : s ∉ TL.tl (numT q) := fun hm => by
  unfold numT at hm
  split at hm
  · exact int_no (by omega) hm
  · rw [TL.tl_append, TL.tl_append] at hm
    rcases List.mem_append.mp hm with hm | hm
    · rcases List.mem_append.mp hm with hm | hm
      · exact int_no (by omega) hm
      · have : TL.tl ("/" : Str) = [47] := by decide
        rw [this] at hm
        have := List.mem_singleton.mp hm
        omega
    · exact int_no (by omega) hm
theorem num_len {q : Rat} {k : Nat} (hk : 0 < k) (h1 : q.num.natAbs < 10 ^ k) (h2 : q.den < 10 ^ k) : (numT q).length ≤ 2 * k + 3 := by
  unfold numT
  have a := int_len hk h1
  split
  · omega
  · have b := int_len (i := (q.den : Int)) hk h2
    rw [str_len, str_len]
    have : ("/" : Str).length = 1 := by decide
    omega
theorem cop_of {a b : Int} (h : 1 ≤ b) (k : Int.gcd a b = 1) : a.natAbs.Coprime b.toNat := by
  have e : b.toNat = b.natAbs := by omega
  rw [e]
  exact k
/-- the fraction of two numbers, m: whether the bottom is written -/
def ratO (a b : Int) (m : Bool) : Option Rat := if h : 1 ≤ b ∧ ¬ (b = 1 ∧ m = true) ∧ Int.gcd a b = 1 then some ⟨a, b.toNat, by omega, cop_of h.1 h.2.2⟩ else none
def fracP (p : Str × Str × Str) : Option Rat :=
  match wholeO p.1, (if p.2.1 ≠ "" then wholeO p.2.2 else some 1) with
  | some a, some b => ratO a b (decide (p.2.1 ≠ ""))
  | _, _ => none
/-- the fraction that a word writes -/
def fracO (z : Str) : Option Rat := fracP (Txt.partition z "/")
def frcR : Rw → List Rat
  | .go x => [x]
  | .skip x => [x]
  | .side x y => [x, y]
  | .grow s => [s]
  | .quarter x => [x]
  | .half x => [x]
  | .arc c q => [c.x, c.y, q.x, q.y]
  | _ => []
/-- the words of a row's own line -/
def headW : Rw → List Str
  | .again n _ => ["again", intT n]
  | .keep _ => ["keep"]
  | .ever _ => ["ever"]
  | r => r.word :: (frcR r).map numT
theorem headW_pl {r : Rw} (hp : r.plain = true) : headW r = r.word :: (frcR r).map numT := by cases r <;> first | rfl | cases hp
mutual
def Rw.lns : Rw → List Str
  | .again n rs => Str.join " " (headW (.again n rs)) :: (lnsL rs ++ [("end" : Str)])
  | .keep rs => Str.join " " (headW (.keep rs)) :: (lnsL rs ++ [("end" : Str)])
  | .ever rs => Str.join " " (headW (.ever rs)) :: (lnsL rs ++ [("end" : Str)])
  | .go x => [Str.join " " (headW (.go x))]
  | .skip x => [Str.join " " (headW (.skip x))]
  | .side x y => [Str.join " " (headW (.side x y))]
  | .dot => [Str.join " " (headW .dot)]
  | .left => [Str.join " " (headW .left)]
  | .right => [Str.join " " (headW .right)]
  | .round => [Str.join " " (headW .round)]
  | .mirror => [Str.join " " (headW .mirror)]
  | .grow x => [Str.join " " (headW (.grow x))]
  | .quarter x => [Str.join " " (headW (.quarter x))]
  | .half x => [Str.join " " (headW (.half x))]
  | .arc c q => [Str.join " " (headW (.arc c q))]
def lnsL : List Rw → List Str
  | [] => []
  | r :: rs => r.lns ++ lnsL rs
end
theorem lns_pl {r : Rw} (hp : r.plain = true) : r.lns = [Str.join " " (headW r)] := by cases r <;> first | (rw [Rw.lns]; done) | cases hp
theorem lns_bk {r : Rw} (hp : r.plain = false) : r.lns = Str.join " " (headW r) :: (lnsL r.inner ++ [("end" : Str)]) := by
  cases r with
  | again n rs => rw [Rw.lns]; rfl
  | keep rs => rw [Rw.lns]; rfl
  | ever rs => rw [Rw.lns]; rfl
  | _ => cases hp
def mapO {α β : Type} (f : α → Option β) : List α → Option (List β)
  | [] => some []
  | a :: as => match f a, mapO f as with
    | some b, some bs => some (b :: bs)
    | _, _ => none
inductive LnT where
  | row (d : PyData)
  | opn (h : List PyData)
  | cls
  | bad
def lnWd (ws : List Str) : LnT :=
  if ws = [("end" : Str)] then .cls
  else if (ws = [("keep" : Str)] ∨ ws = [("ever" : Str)]) ∨ ws.headD "" = "again" then
    (match mapO wholeO ws.tail with
      | none => .bad
      | some ns => if ns.length = (if ws.headD "" = "again" then 1 else 0) then .opn (.str (ws.headD "") :: ns.map PyData.int) else .bad)
  else match numW (ws.headD "") with
    | none => .bad
    | some n => if ws.length ≠ 1 + n then .bad else match mapO fracO ws.tail with
      | none => .bad
      | some qs => .row (.tuple (.str (ws.headD "") :: qs.map fr))
def lnOf (z : Str) : LnT := lnWd (Txt.split z " ")
theorem word_no (r : Rw) {c : Nat} (hc : c < 97 ∨ 122 < c) : c ∉ TL.tl r.word := by
  have go : ∀ l : List Nat, (l.all fun c => decide (97 ≤ c) && decide (c ≤ 122)) = true → c ∉ l := fun l h hm => by
    rw [List.all_eq_true] at h
    have := h c hm
    simp only [Bool.and_eq_true, decide_eq_true_eq] at this
    omega
  cases r <;> exact go _ (by simp only [Rw.word]; decide)
theorem head_no (r : Rw) {c : Nat} (hc : c < 45) : ∀ w ∈ headW r, c ∉ TL.tl w := by
  have kp : ∀ {x : Rw}, c ∉ TL.tl x.word := fun {x} => word_no x (by omega)
  have pl : ∀ {x : Rw} {qs : List Rat}, ∀ w ∈ x.word :: qs.map numT, c ∉ TL.tl w := fun {x qs} w hw => by
    rcases List.mem_cons.mp hw with rfl | hw
    · exact kp
    · obtain ⟨q, _, rfl⟩ := List.mem_map.mp hw
      exact num_no (by omega)
  cases r with
  | again n rs =>
    intro w hw
    simp only [headW, List.mem_cons, List.not_mem_nil, or_false] at hw
    rcases hw with rfl | rfl
    · exact kp (x := .again n rs)
    · exact int_no (by omega)
  | keep rs => exact fun w hw => by rw [List.mem_singleton.mp hw]; exact kp (x := .keep rs)
  | ever rs => exact fun w hw => by rw [List.mem_singleton.mp hw]; exact kp (x := .ever rs)
  | _ => exact pl
def headD : Rw → List PyData
  | .again n _ => [.str "again", .int (n : Int)]
  | .keep _ => [.str "keep"]
  | .ever _ => [.str "ever"]
  | _ => []
structure StT where
  hs : List (List PyData)
  rs : List (List PyData)
def stepT (s : StT) : LnT → Option StT
  | .row d => match s.rs.getLast? with
    | some cur => some ⟨s.hs, s.rs.dropLast ++ [cur ++ [d]]⟩
    | none => none
  | .opn h => some ⟨s.hs ++ [h], s.rs ++ [[]]⟩
  | .cls => match s.hs.getLast?, s.rs.getLast?, s.rs.dropLast.getLast? with
    | some h, some cur, some up => some ⟨s.hs.dropLast, s.rs.dropLast.dropLast ++ [up ++ [.tuple (h ++ [.tuple cur])]]⟩
    | _, _, _ => none
  | .bad => none
def runT (s : StT) : List Str → Option StT
  | [] => some s
  | z :: zs => match stepT s (lnOf z) with
    | some s' => runT s' zs
    | none => none
theorem joinL_mem {S : List Nat} {c : Nat} : ∀ {ps : List (List Nat)}, c ∈ TL.joinL S ps → c ∈ S ∨ ∃ p ∈ ps, c ∈ p
  | [], h => nomatch h
  | [p], h => .inr ⟨p, List.mem_singleton.mpr rfl, h⟩
  | p :: q :: r, h => by
    have h : c ∈ p ++ (S ++ TL.joinL S (q :: r)) := h
    rcases List.mem_append.mp h with h | h
    · exact .inr ⟨p, List.mem_cons_self, h⟩
    · rcases List.mem_append.mp h with h | h
      · exact .inl h
      · rcases joinL_mem h with h | ⟨x, hx, h⟩
        · exact .inl h
        · exact .inr ⟨x, List.mem_cons_of_mem _ hx, h⟩
theorem join_no {y : Str} {ws : List Str} {c : Nat} (hy : c ∉ TL.tl y) (h : ∀ w ∈ ws, c ∉ TL.tl w) : c ∉ TL.tl (Str.join y ws) := fun hm => by
  rw [TL.tl_join] at hm
  rcases joinL_mem hm with k | ⟨p, hp, k⟩
  · exact hy k
  · obtain ⟨w, hw, rfl⟩ := List.mem_map.mp hp
    exact h w hw k
theorem joinL_len {S : List Nat} {n : Nat} : ∀ {ps : List (List Nat)}, (∀ p ∈ ps, p.length ≤ n) → (TL.joinL S ps).length ≤ ps.length * (n + S.length)
  | [], _ => Nat.zero_le _
  | [p], h => by
    have := h p (List.mem_singleton.mpr rfl)
    show p.length ≤ 1 * _
    omega
  | p :: q :: r, h => by
    have h1 := h p List.mem_cons_self
    have h2 := joinL_len (S := S) (ps := q :: r) fun x hx => h x (List.mem_cons_of_mem _ hx)
    show (p ++ (S ++ TL.joinL S (q :: r))).length ≤ _
    rw [List.length_append, List.length_append, List.length_cons, Nat.succ_mul]
    omega
theorem join_len {y : Str} {ws : List Str} {n : Nat} (h : ∀ w ∈ ws, w.length ≤ n) : (Str.join y ws).length ≤ ws.length * (n + y.length) := by
  rw [TL.len_tl, TL.tl_join, TL.len_tl y]
  have := joinL_len (S := TL.tl y) (n := n) (ps := ws.map TL.tl) fun p hp => by
    obtain ⟨w, hw, rfl⟩ := List.mem_map.mp hp
    rw [← TL.len_tl]
    exact h w hw
  rw [List.length_map] at this
  exact this
theorem fb_dec {q : Rat} (h : Fb 40 q) : (numT q).length ≤ 29 := num_len (k := 13) (by decide) (Nat.lt_trans h.1 (by decide)) (Nat.lt_trans h.2 (by decide))
theorem frc_fb {r : Rw} {L : Nat} (hg : r.good L) : (frcR r).length ≤ 4 ∧ ∀ q ∈ frcR r, Fb 40 q := by
  have nil : ∀ q ∈ ([] : List Rat), Fb 40 q := fun _ h => nomatch h
  have one : ∀ {x : Rat}, Co L x → ∀ q ∈ [x], Fb 40 q := fun h q hq => by rw [List.mem_singleton.mp hq]; exact h.1
  cases r with
  | go x => exact ⟨Nat.le_of_ble_eq_true rfl, one hg⟩
  | skip x => exact ⟨Nat.le_of_ble_eq_true rfl, one hg⟩
  | side x y =>
    rw [Rw.good] at hg
    refine ⟨Nat.le_of_ble_eq_true rfl, fun q hq => ?_⟩
    simp only [frcR, List.mem_cons, List.not_mem_nil, or_false] at hq
    rcases hq with rfl | rfl
    · exact hg.1.1
    · exact hg.2.1
  | grow s =>
    rw [Rw.good] at hg
    refine ⟨Nat.le_of_ble_eq_true rfl, fun q hq => ?_⟩
    rw [List.mem_singleton.mp hq]
    exact ⟨by omega, by omega⟩
  | quarter x => rw [Rw.good] at hg; exact ⟨Nat.le_of_ble_eq_true rfl, one hg.1⟩
  | half x => rw [Rw.good] at hg; exact ⟨Nat.le_of_ble_eq_true rfl, one hg.1⟩
  | arc c q =>
    rw [Rw.good] at hg
    refine ⟨Nat.le_of_ble_eq_true rfl, fun p hp => ?_⟩
    simp only [frcR, List.mem_cons, List.not_mem_nil, or_false] at hp
    rcases hp with rfl | rfl | rfl | rfl
    · exact hg.1.1
    · exact hg.1.2
    · exact hg.2.1.1.1
    · exact hg.2.1.2.1
  | _ => exact ⟨Nat.zero_le _, nil⟩
theorem word_len (r : Rw) : r.word.length ≤ 7 := by cases r <;> simp only [Rw.word] <;> decide
theorem head_len {r : Rw} {L : Nat} (hg : r.good L) : (headW r).length ≤ 5 ∧ ∀ w ∈ headW r, w.length ≤ 29 := by
  have pl : r.plain = true → (headW r).length ≤ 5 ∧ ∀ w ∈ headW r, w.length ≤ 29 := fun hp => by
    obtain ⟨h1, h2⟩ := frc_fb hg
    rw [headW_pl hp]
    refine ⟨by rw [List.length_cons, List.length_map]; omega, fun w hw => ?_⟩
    rcases List.mem_cons.mp hw with rfl | hw
    · have := word_len r
      omega
    · obtain ⟨q, hq, rfl⟩ := List.mem_map.mp hw
      exact fb_dec (h2 q hq)
  cases r with
  | again n rs =>
    rw [Rw.good] at hg
    refine ⟨Nat.le_of_ble_eq_true rfl, fun w hw => ?_⟩
    simp only [headW, List.mem_cons, List.not_mem_nil, or_false] at hw
    rcases hw with rfl | rfl
    · decide
    · have := int_len (i := (n : Int)) (k := 2) (by decide) (by omega)
      omega
  | keep rs => exact ⟨Nat.le_of_ble_eq_true rfl, fun w hw => by rw [List.mem_singleton.mp hw]; decide⟩
  | ever rs => exact ⟨Nat.le_of_ble_eq_true rfl, fun w hw => by rw [List.mem_singleton.mp hw]; decide⟩
  | _ => exact pl rfl
/-- a line as the text's reader wants it -/
structure LnOk (z : Str) : Prop where
  l : z.length ≤ 150
  n : 10 ∉ TL.tl z
theorem ln_head {r : Rw} {L : Nat} (hg : r.good L) : LnOk (Str.join " " (headW r)) := by
  obtain ⟨h1, h2⟩ := head_len hg
  refine ⟨?_, join_no (by decide) (head_no r (by decide))⟩
  have h3 := join_len (y := " ") h2
  have h4 : (headW r).length * (29 + (" " : Str).length) ≤ 5 * (29 + (" " : Str).length) := Nat.mul_le_mul_right _ h1
  have h5 : (" " : Str).length = 1 := by decide
  rw [h5] at h3 h4
  omega
theorem cut_one (x : PyData) (xs : List PyData) : cutL (x :: xs) (some 1) none = xs := by
  have e1 : HT.sIx (x :: xs).length 0 (some 1) = 1 := (HT.sIx_nat _ _ 1).trans (Nat.min_eq_left (by rw [List.length_cons]; omega))
  unfold cutL
  rw [e1]
  show List.take ((x :: xs).length - 1) xs = xs
  exact List.take_of_length_le (by rw [List.length_cons]; omega)
def Asc (z : Str) : Prop := ∀ c ∈ TL.tl z, c < 1114112
theorem asc_of {z : Str} (h : ∀ c, 122 < c → c ∉ TL.tl z) : Asc z := fun c hc => by
  rcases Nat.lt_or_ge 122 c with k | k
  · exact absurd hc (h c k)
  · omega
theorem head_noU (r : Rw) {c : Nat} (hc : 122 < c) : ∀ w ∈ headW r, c ∉ TL.tl w := by
  have kp : ∀ {x : Rw}, c ∉ TL.tl x.word := fun {x} => word_no x (by omega)
  have pl : ∀ {x : Rw} {qs : List Rat}, ∀ w ∈ x.word :: qs.map numT, c ∉ TL.tl w := fun {x qs} w hw => by
    rcases List.mem_cons.mp hw with rfl | hw
    · exact kp
    · obtain ⟨q, _, rfl⟩ := List.mem_map.mp hw
      exact num_no (by omega)
  cases r with
  | again n rs =>
    intro w hw
    simp only [headW, List.mem_cons, List.not_mem_nil, or_false] at hw
    rcases hw with rfl | rfl
    · exact kp (x := .again n rs)
    · exact int_no (by omega)
  | keep rs => exact fun w hw => by rw [List.mem_singleton.mp hw]; exact kp (x := .keep rs)
  | ever rs => exact fun w hw => by rw [List.mem_singleton.mp hw]; exact kp (x := .ever rs)
  | _ => exact pl
theorem ln_noU (r : Rw) {c : Nat} (hc : 122 < c) : c ∉ TL.tl (Str.join " " (headW r)) := join_no (by rw [show TL.tl (" " : Str) = [32] by decide]; intro h; have := List.mem_singleton.mp h; omega) (head_noU r hc)
theorem end_noU {c : Nat} (hc : 122 < c) : c ∉ TL.tl "end" := by
  rw [show TL.tl ("end" : Str) = [101, 110, 100] by decide]
  intro h
  simp only [List.mem_cons, List.not_mem_nil, or_false] at h
  omega
mutual
theorem lns_noU {c : Nat} (hc : 122 < c) : ∀ (r : Rw), ∀ z ∈ r.lns, c ∉ TL.tl z
  | .again n rs, z, hz => by
    rw [lns_bk rfl] at hz
    rcases List.mem_cons.mp hz with rfl | hz
    · exact ln_noU _ hc
    · rcases List.mem_append.mp hz with hz | hz
      · exact lnsL_noU hc rs z hz
      · rw [List.mem_singleton.mp hz]; exact end_noU hc
  | .keep rs, z, hz => by
    rw [lns_bk rfl] at hz
    rcases List.mem_cons.mp hz with rfl | hz
    · exact ln_noU _ hc
    · rcases List.mem_append.mp hz with hz | hz
      · exact lnsL_noU hc rs z hz
      · rw [List.mem_singleton.mp hz]; exact end_noU hc
  | .ever rs, z, hz => by
    rw [lns_bk rfl] at hz
    rcases List.mem_cons.mp hz with rfl | hz
    · exact ln_noU _ hc
    · rcases List.mem_append.mp hz with hz | hz
      · exact lnsL_noU hc rs z hz
      · rw [List.mem_singleton.mp hz]; exact end_noU hc
  | .go x, z, hz => by rw [lns_pl rfl] at hz; rw [List.mem_singleton.mp hz]; exact ln_noU _ hc
  | .skip x, z, hz => by rw [lns_pl rfl] at hz; rw [List.mem_singleton.mp hz]; exact ln_noU _ hc
  | .side x y, z, hz => by rw [lns_pl rfl] at hz; rw [List.mem_singleton.mp hz]; exact ln_noU _ hc
  | .dot, z, hz => by rw [lns_pl rfl] at hz; rw [List.mem_singleton.mp hz]; exact ln_noU _ hc
  | .left, z, hz => by rw [lns_pl rfl] at hz; rw [List.mem_singleton.mp hz]; exact ln_noU _ hc
  | .right, z, hz => by rw [lns_pl rfl] at hz; rw [List.mem_singleton.mp hz]; exact ln_noU _ hc
  | .round, z, hz => by rw [lns_pl rfl] at hz; rw [List.mem_singleton.mp hz]; exact ln_noU _ hc
  | .mirror, z, hz => by rw [lns_pl rfl] at hz; rw [List.mem_singleton.mp hz]; exact ln_noU _ hc
  | .grow x, z, hz => by rw [lns_pl rfl] at hz; rw [List.mem_singleton.mp hz]; exact ln_noU _ hc
  | .quarter x, z, hz => by rw [lns_pl rfl] at hz; rw [List.mem_singleton.mp hz]; exact ln_noU _ hc
  | .half x, z, hz => by rw [lns_pl rfl] at hz; rw [List.mem_singleton.mp hz]; exact ln_noU _ hc
  | .arc a b, z, hz => by rw [lns_pl rfl] at hz; rw [List.mem_singleton.mp hz]; exact ln_noU _ hc
theorem lnsL_noU {c : Nat} (hc : 122 < c) : ∀ (rs : List Rw), ∀ z ∈ lnsL rs, c ∉ TL.tl z
  | [], z, hz => nomatch hz
  | r :: rs, z, hz => by
    rw [lnsL] at hz
    rcases List.mem_append.mp hz with hz | hz
    · exact lns_noU hc r z hz
    · exact lnsL_noU hc rs z hz
end
theorem asc_lines (rs : List Rw) : ∀ z ∈ lnsL rs, Asc z := fun z hz => asc_of fun c hc => lnsL_noU hc rs z hz
def HdOk (h : List PyData) : Prop := ∃ (w : Str) (ns : List Int), h = .str w :: ns.map PyData.int ∧ Asc w ∧ ns.length ≤ 1
def rdF (qh qr : Addr) : List (Str × S) := [("heads", .ob qh), ("rows", .ob qr)]
def rdM (M0 : MM) (a C qh qr : Addr) (hs : List (List PyData)) (ql : Ql) : MM := M0 ++ [(a, MO.ins C (rdF qh qr)), (qh, .lst ((hs.map PyData.tuple).map S.d))] ++ llM qr ql
section
variable {M0 : MM} {a C qh qr q : Addr} {hs hs2 : List (List PyData)} {ql : Ql} {ds es : List PyData}
end
/-- how long the reader's lists are -/
structure RdOk (n : Nat) (hs : List (List PyData)) (ql : Ql) : Prop where
  e : ql.length = hs.length + 1
  h : ∀ h ∈ hs, HdOk h
  l : hs.length ≤ n
  b : ∀ q ∈ ql, q.2.length ≤ n
/-- what reading a line tells -/
structure RdO (R : S → MM → Prop) (M0 : MM) (a C qh qr : Addr) (n : Nat) (hs : List (List PyData)) (ql : Ql) (o : Option StT) : Prop where
  f : o = none → R (.d (.bool false)) (rdM M0 a C qh qr hs ql)
  t : ∀ (hs2 : List (List PyData)) (ql2 : Ql), o = some ⟨hs2, ql2.map (·.2)⟩ → RdOk (n + 1) hs2 ql2 → R (.d (.bool true)) (rdM M0 a C qh qr hs2 ql2)
/-- the first line that is none, or the reader's state behind them all -/
def badT (s : StT) : List Str → Nat → Except Nat StT
  | [], _ => .ok s
  | z :: zs, i => match stepT s (lnOf z) with
    | some s' => badT s' zs (i + 1)
    | none => .error i
def begT : StT := ⟨[], [[]]⟩
mutual
def Rw.s23 : Rw → Prop
  | .left => True
  | .right => True
  | .dot => True
  | .mirror => True
  | .keep rs => s23L rs
  | .again n rs => n ≤ 12 ∧ s23L rs
  | _ => False
def s23L : List Rw → Prop
  | [] => True
  | r :: rs => r.s23 ∧ s23L rs
end
mutual
theorem s23_look : ∀ (r : Rw), r.s23 → ∀ (h d : Nat), r.deep + d ≤ 4 → lookR r h d false = .ok (h + r.lines)
  | .left, _, h, d, _ => look_plain rfl h d false
  | .right, _, h, d, _ => look_plain rfl h d false
  | .dot, _, h, d, _ => look_plain rfl h d false
  | .mirror, _, h, d, _ => look_plain rfl h d false
  | .keep rs, hs, h, d, hd => by
    rw [Rw.s23] at hs
    rw [Rw.deep] at hd
    have e := s23L_look rs hs (h + 1) (d + 1) (by omega)
    rw [look_blk rfl, isE_keep, Bool.or_false]
    show Pl.stepK false rs h d false (lookL rs (h + 1) (d + 1) false) = _
    rw [e]
    unfold Pl.stepK
    rw [if_neg (by rw [Bool.and_false, Bool.or_false, decide_eq_true_eq]; omega)]
    simp only []
    rw [Bool.false_and, if_neg (by decide), Rw.lines]
    congr 1
    omega
  | .again n rs, hs, h, d, hd => by
    rw [Rw.s23] at hs
    rw [Rw.deep] at hd
    have e := s23L_look rs hs.2 (h + 1) (d + 1) (by omega)
    rw [look_blk rfl, isE_again, Bool.or_false]
    show Pl.stepK false rs h d false (lookL rs (h + 1) (d + 1) false) = _
    rw [e]
    unfold Pl.stepK
    rw [if_neg (by rw [Bool.and_false, Bool.or_false, decide_eq_true_eq]; omega)]
    simp only []
    rw [Bool.false_and, if_neg (by decide), Rw.lines]
    congr 1
    omega
  | .ever _, hs, _, _, _ => hs.elim
  | .go _, hs, _, _, _ => hs.elim
  | .skip _, hs, _, _, _ => hs.elim
  | .side _ _, hs, _, _, _ => hs.elim
  | .round, hs, _, _, _ => hs.elim
  | .grow _, hs, _, _, _ => hs.elim
  | .quarter _, hs, _, _, _ => hs.elim
  | .half _, hs, _, _, _ => hs.elim
  | .arc _ _, hs, _, _, _ => hs.elim
theorem s23L_look : ∀ (rs : List Rw), s23L rs → ∀ (h d : Nat), deepL rs + d ≤ 4 → lookL rs h d false = .ok (h + linesL rs)
  | [], _, h, d, _ => by rw [lookL, linesL]; rfl
  | r :: rs, hs, h, d, hd => by
    rw [s23L] at hs
    rw [deepL] at hd
    rw [lookL, s23_look r hs.1 h d (by omega)]
    show lookL rs (h + r.lines) d false = _
    rw [s23L_look rs hs.2 _ d (by omega), linesL]
    congr 1
    omega
end
/-- a block by its head -/
structure Blk23 (d : PyData) (mk : List Rw → Rw) : Prop where
  ex : ∃ hd : List PyData, d = .tuple hd ∧ hd.length ≤ 2 ∧ ∀ rs, (mk rs).D = .tuple (hd ++ [.tuple (rowsD rs)])
  s : ∀ rs, s23L rs → (mk rs).s23
  z : ∀ rs, (mk rs).size = 1 + sizeL rs
  p : ∀ rs, (mk rs).deep = 1 + deepL rs
structure Q23 (rs : List Rw) : Prop where
  s : s23L rs
  d : deepL rs ≤ 4
  z : sizeL rs ≤ 100
  ne : rs ≠ []
theorem Q23.mv : Mv 1 0 0 := ⟨by decide, by decide, by decide, by decide⟩
theorem Q23.look {rs : List Rw} (h : Q23 rs) : lookL rs 0 0 false = .ok (linesL rs) := by
  rw [s23L_look rs h.s 0 0 (by have := h.d; omega), Nat.zero_add]
theorem Q23.of {rs : List Rw} {n : Nat} (h : s23L rs) (hz : sizeL rs = n) (h0 : 0 < n) (hn : n ≤ 100) (hd : deepL rs ≤ 4) : Q23 rs := ⟨h, hd, by omega, fun e => by
  rw [e] at hz
  have : sizeL [] = 0 := rfl
  omega⟩

def Rw.fill (r : Rw) (rs : List Rw) : Rw := match r with
  | .again n _ => .again n rs
  | .keep _ => .keep rs
  | .ever _ => .ever rs
  | r => r
mutual
def Rw.a4 : Rw → Prop
  | .again n rs => n ≤ 4 ∧ a4L rs
  | .keep rs => a4L rs
  | .ever rs => a4L rs
  | _ => True
def a4L : List Rw → Prop
  | [] => True
  | r :: rs => r.a4 ∧ a4L rs
end
inductive I26 where
  | row (r : Rw)
  | opn (r : Rw)
  | fin
  | bad (z : Str)
def I26.ln : I26 → Str
  | .row r => Str.join " " (headW r)
  | .opn r => Str.join " " (headW r)
  | .fin => "end"
  | .bad z => z
def I26.n : I26 → Nat
  | .row _ => 1
  | .opn _ => 1
  | _ => 0
structure BadL (z : Str) : Prop where
  b : lnOf z = .bad
  l : LnOk z
  a : Asc z
  ne : z ≠ "end"
  e : z ≠ ""
def I26.ok (L : Nat) : I26 → Prop
  | .row r => r.plain = true ∧ r.good L
  | .opn r => r.plain = false ∧ r.a4 ∧ r.good L
  | .fin => True
  | .bad z => BadL z
/-- the lines of open blocks -/
def lno : List Rw → List (List Rw) → List Rw → List Str
  | b :: bs, g :: up, cur => lnsL g ++ Str.join " " (headW b) :: lno bs up cur
  | _, _, cur => lnsL cur
/-- heads less ends -/
def opL (z : Str) : Int := (if ["again", "keep", "ever"].any (fun x => decide ((x : Str) = (Txt.split z " ").headD "")) then 1 else 0) - (if z = "end" then 1 else 0)
def opN (zs : List Str) : Int := (zs.map opL).sum
/-- what the lines so far have built: open blocks, with the rows ahead of them -/
structure Rep (L n : Nat) (zs : List Str) (s : StT) : Prop where
  ex : ∃ (bs : List Rw) (up : List (List Rw)) (cur : List Rw), bs.length = up.length ∧ s = ⟨bs.map headD, (up ++ [cur]).map rowsD⟩ ∧ zs = lno bs up cur ∧ (∀ b ∈ bs, b.plain = false ∧ b.a4) ∧
    (∀ g ∈ up ++ [cur], goodL L g ∧ a4L g) ∧ bs.length + ((up ++ [cur]).map sizeL).sum ≤ n ∧ opN zs = (bs.length : Int)
def lns26 (is : List I26) : List Str := is.map I26.ln
def cnt26 (is : List I26) : Nat := (is.map I26.n).sum
/-- what is told of a program's rows, of a text's lines -/
def toldR (rs : List Rw) : PyData := match lookL rs 0 0 false with
  | .ok _ => .tuple [.str "program", .tuple (rowsD rs)]
  | .error i => .tuple [.str "row", .int ((i : Nat) : Int)]
structure Ok26 (L : Nat) (is : List I26) : Prop where
  ok : ∀ it ∈ is, it.ok L
  l0 : 0 < L
  l1 : L ≤ 2 ^ 1600
  c : cnt26 is ≤ 40
  n : is.length ≤ 80
theorem ok26_ln {L : Nat} {it : I26} (h : it.ok L) : LnOk it.ln ∧ Asc it.ln := by
  cases it with
  | row r => exact ⟨ln_head h.2, asc_lines [r] _ (by rw [lnsL, lnsL, lns_pl h.1]; exact .head _)⟩
  | opn r => exact ⟨ln_head h.2.2, asc_lines [r] _ (by rw [lnsL, lnsL, lns_bk h.1]; exact .head _)⟩
  | fin => exact ⟨⟨by decide, by decide⟩, fun c hc => by
      have : c ∈ [101, 110, 100] := hc
      simp only [List.mem_cons, List.not_mem_nil, or_false] at this
      omega⟩
  | bad z => exact ⟨h.l, h.a⟩
theorem Ok26.ln {L : Nat} {is : List I26} (h : Ok26 L is) : ∀ z ∈ lns26 is, LnOk z ∧ Asc z := fun z hz => by
  obtain ⟨it, hi, rfl⟩ := List.mem_map.mp hz
  exact ok26_ln (h.ok it hi)
theorem Ok26.take {L : Nat} {is : List I26} (h : Ok26 L is) (k : Nat) : Ok26 L (is.take k) := by
  refine ⟨fun it hi => h.ok it (List.mem_of_mem_take hi), h.l0, h.l1, Nat.le_trans ?_ h.c, by have := h.n; rw [List.length_take]; omega⟩
  have e := congrArg (fun l => (l.map I26.n).sum) (List.take_append_drop k is)
  simp only [List.map_append, List.sum_append] at e
  show ((is.take k).map I26.n).sum ≤ (is.map I26.n).sum
  omega
theorem Ok26.ends {L : Nat} {is : List I26} (h : Ok26 L is) {k : Nat} (hk : is.length + k ≤ 80) : Ok26 L (is ++ List.replicate k .fin) := by
  refine ⟨fun it hi => ?_, h.l0, h.l1, ?_, ?_⟩
  · rcases List.mem_append.mp hi with z | z
    · exact h.ok it z
    · rw [List.eq_of_mem_replicate z]; exact trivial
  · have := h.c
    unfold cnt26 at this ⊢
    rw [List.map_append, List.sum_append, List.map_replicate]
    have e : (List.replicate k (I26.n .fin)).sum = 0 := by
      show (List.replicate k 0).sum = 0
      simp
    omega
  · rw [List.length_append, List.length_replicate]
    exact hk
theorem Ok26.mv {L : Nat} {is : List I26} (h : Ok26 L is) : Mv L 1600 640 := ⟨h.l0, h.l1, by decide, by decide⟩
inductive Told26 (L : Nat) (is : List I26) : PyData → Prop
  | line (i : Nat) (h : badT begT (lns26 is) 0 = .error i) : Told26 L is (.tuple [.str "line", .int ((i : Nat) : Int)])
  | opn (s : StT) (h : runT begT (lns26 is) = some s) (hs : s.hs ≠ []) : Told26 L is (.tuple [.str "line", .int (((lns26 is).length : Nat) : Int)])
  | rows (rs : List Rw) (h : lns26 is = lnsL rs) (hg : goodL L rs) (ha : a4L rs) (hz : sizeL rs ≤ 40) : Told26 L is (toldR rs)
theorem I26.mul {L m : Nat} {it : I26} (h : it.ok L) : it.ok (L * m) := by
  cases it with
  | row r => exact ⟨h.1, good_mul r h.2⟩
  | opn r => exact ⟨h.1, h.2.1, good_mul r h.2.2⟩
  | fin => exact trivial
  | bad z => exact h
/-- as many items as lines, all good, of a common number -/
structure In26 (k : Nat) (is : List I26) : Prop where
  ex : ∃ L : Nat, 0 < L ∧ L ≤ 2 ^ (40 * k) ∧ ∀ it ∈ is, it.ok L
  n : is.length ≤ k
theorem In26.up {k : Nat} {is : List I26} (h : In26 k is) : In26 (k + 1) is := by
  obtain ⟨⟨L, h0, h1, h2⟩, hn⟩ := h
  exact ⟨⟨L, h0, Nat.le_trans h1 (Nat.pow_le_pow_right (by decide) (by omega)), h2⟩, by omega⟩
theorem In26.snoc {k L : Nat} {is : List I26} {it : I26} (h : In26 k is) (h0 : 0 < L) (h1 : L ≤ 2 ^ 40) (h2 : it.ok L) : In26 (k + 1) (is ++ [it]) := by
  obtain ⟨⟨m, m0, m1, m2⟩, hn⟩ := h
  refine ⟨⟨m * L, Nat.mul_pos m0 h0, ?_, fun x hx => ?_⟩, by rw [List.length_append]; show _ + 1 ≤ _; omega⟩
  · rw [Nat.mul_succ, Nat.pow_add]
    exact Nat.mul_le_mul m1 h1
  · rcases List.mem_append.mp hx with z | z
    · exact I26.mul (m2 x z)
    · rw [List.mem_singleton.mp z, Nat.mul_comm]
      exact I26.mul h2
theorem In26.mono {k m : Nat} {is : List I26} (h : In26 k is) (hk : k ≤ m) : In26 m is := by
  induction hk with
  | refl => exact h
  | step _ ih => exact ih.up
theorem cnt26_le (is : List I26) : cnt26 is ≤ is.length := by
  unfold cnt26
  induction is with
  | nil => exact Nat.le_refl _
  | cons a as ih =>
    rw [List.map_cons, List.sum_cons, List.length_cons]
    have : a.n ≤ 1 := by cases a <;> first | exact Nat.le_refl 1 | exact Nat.zero_le 1
    omega
theorem In26.ok {k : Nat} {is : List I26} (h : In26 k is) (hk : k ≤ 40) : ∃ L, Ok26 L is := by
  obtain ⟨⟨L, h0, h1, h2⟩, hn⟩ := h
  have := cnt26_le is
  exact ⟨L, ⟨h2, h0, Nat.le_trans h1 (Nat.pow_le_pow_right (by decide) (by omega)), by omega, by omega⟩⟩
def agB : List PyData → Bool
  | .int n :: _ => decide (0 ≤ n) && decide (n ≤ 12)
  | _ => false
/-- whether a row with a block's word has a block's own form -/
def isB (w : Str) (xs : List PyData) : Bool := (match xs.getLast? with
    | some d => tupB d
    | none => false) && (if w = "again" then (decide (xs.length = 2) && agB xs) else decide (xs.length = 1))
def blkW (w : Str) : Prop := w = "again" ∨ w = "keep" ∨ w = "ever"
inductive Ow where
  | pl (r : Rw)
  | lf (d : PyData)
  | bd (w : Str) (xs : List PyData)
  | blk (b : Rw) (rs : List Ow)
mutual
def Ow.D : Ow → PyData
  | .pl r => r.D
  | .lf d => d
  | .bd w xs => .tuple (.str w :: xs)
  | .blk b rs => .tuple (headD b ++ [.tuple (owsD rs)])
def owsD : List Ow → List PyData
  | [] => []
  | r :: rs => r.D :: owsD rs
end
mutual
def Ow.rw : Ow → Rw
  | .pl r => r
  | .lf _ => .dot
  | .bd _ _ => .dot
  | .blk b rs => b.fill (rwsL rs)
def rwsL : List Ow → List Rw
  | [] => []
  | r :: rs => r.rw :: rwsL rs
end
mutual
def Ow.cl : Ow → Prop
  | .pl _ => True
  | .lf _ => False
  | .bd _ _ => False
  | .blk _ rs => clL rs
def clL : List Ow → Prop
  | [] => True
  | r :: rs => r.cl ∧ clL rs
end
/-- a thing that is no row -/
structure LfOk (d : PyData) : Prop where
  ok : RwOk 60 d
  no : plD d = false
  ly : Lay 9 d
  sh : SeqAt.shaped (.str (wdD d)) = true
  nb : wdD d ≠ "again" ∧ wdD d ≠ "keep" ∧ wdD d ≠ "ever"
structure BdOk (w : Str) (xs : List PyData) : Prop where
  bw : blkW w
  no : isB w xs = false
  k : ∀ x ∈ xs, KnD x
  n : xs.length ≤ 5
  ly : Lay 16 (.tuple (.str w :: xs))
mutual
def Ow.ok (L : Nat) : Ow → Prop
  | .pl r => r.plain = true ∧ r.good L
  | .lf d => LfOk d
  | .bd w xs => BdOk w xs
  | .blk b rs => b.plain = false ∧ (∀ n q, b = .again n q → n ≤ 12) ∧ okL L rs
def okL (L : Nat) : List Ow → Prop
  | [] => True
  | r :: rs => r.ok L ∧ okL L rs
end
mutual
def qoR (N : Nat) : Ow → Prop
  | .blk b rs => (b.isW "ever" = true → clL rs → deepL (rwsL rs) ≤ 3 → alldL N (rwsL rs)) ∧ qoL N rs
  | _ => True
def qoL (N : Nat) : List Ow → Prop
  | [] => True
  | r :: rs => qoR N r ∧ qoL N rs
end
mutual
def Ow.sz : Ow → Nat
  | .blk _ rs => 1 + szO rs
  | _ => 1
def szO : List Ow → Nat
  | [] => 0
  | r :: rs => r.sz + szO rs
end
mutual
def Rw.o : Rw → Ow
  | .again n rs => .blk (.again n []) (oL rs)
  | .keep rs => .blk (.keep []) (oL rs)
  | .ever rs => .blk (.ever []) (oL rs)
  | r => .pl r
def oL : List Rw → List Ow
  | [] => []
  | r :: rs => r.o :: oL rs
end
theorem oL_map : ∀ rs : List Rw, oL rs = rs.map Rw.o
  | [] => rfl
  | r :: rs => by rw [oL, oL_map rs]; rfl
/-- what the law hands in -/
structure D20 (d : PyData) : Prop where
  ok : RwOk 60 d
  ly : Lay 5 d
  sh : SeqAt.shaped (.str (wdD d)) = true
  nb : wdD d ≠ "again" ∧ wdD d ≠ "keep" ∧ wdD d ≠ "ever"
  z : ∀ x xs, d = .tuple (x :: xs) → ∀ y ∈ xs, ∀ a b : Int, y = .tuple [.int a, .int b] → b.natAbs < 2 ^ 60
structure It20 (y : PyData) : Prop where
  ok : ItOk 60 y
  z : ∀ a b : Int, y = .tuple [.int a, .int b] → b.natAbs < 2 ^ 60
  ly : Lay 3 y
mutual
def Rw.a90 : Rw → Prop
  | .again n rs => (n ≤ 1 ∨ n * doneL rs ≤ 90) ∧ a90L rs
  | .keep rs => a90L rs
  | .ever rs => a90L rs
  | _ => True
def a90L : List Rw → Prop
  | [] => True
  | r :: rs => r.a90 ∧ a90L rs
end
theorem a90_mem : ∀ {rs : List Rw} {r : Rw}, a90L rs → r ∈ rs → r.a90
  | a :: as, r, h, hr => by
    rw [a90L] at h
    rcases List.mem_cons.mp hr with rfl | hr
    · exact h.1
    · exact a90_mem h.2 hr
theorem a90_app : ∀ {as bs : List Rw}, a90L as → a90L bs → a90L (as ++ bs)
  | [], _, _, k => k
  | a :: as, bs, h, k => by
    rw [a90L] at h
    rw [List.cons_append, a90L]
    exact ⟨h.1, a90_app h.2 k⟩
theorem a90_in {r : Rw} (h : r.a90) : a90L r.inner := by
  cases r with
  | again n rs => rw [Rw.a90] at h; exact h.2
  | keep rs => rw [Rw.a90] at h; exact h
  | ever rs => rw [Rw.a90] at h; exact h
  | _ => exact trivial
/-- what is known of a row that may be put otherwise -/
structure P21 (L : Nat) (r : Rw) : Prop where
  g : r.good L
  a : r.a90
  l : r.alld 800
  n : r.done ≤ 800
  z : r.size ≤ 60
  d : r.deep ≤ 4
theorem done_in {r : Rw} (h : r.plain = false) : r.alld 800 → doneL r.inner ≤ 800 ∧ alldL 800 r.inner := by
  cases r with
  | again n rs => intro k; rw [Rw.alld] at k; exact k
  | keep rs => intro k; rw [Rw.alld] at k; exact k
  | ever rs => intro k; rw [Rw.alld] at k; exact k
  | _ => cases h
theorem mem_done : ∀ {rs : List Rw} {r : Rw}, r ∈ rs → r.done ≤ doneL rs
  | a :: as, r, h => by
    rw [doneL]
    rcases List.mem_cons.mp h with rfl | h
    · omega
    · have := mem_done h
      omega
theorem P21.inn {L : Nat} {r q : Rw} (h : P21 L r) (hp : r.plain = false) (hq : q ∈ r.inner) : P21 L q := by
  obtain ⟨h1, h2⟩ := done_in hp h.l
  have h3 := mem_done hq
  have h4 := size_mem hq
  have h5 := deep_mem hq
  have h6 : r.size = 1 + sizeL r.inner := by cases r <;> first | rfl | cases hp
  have h7 : r.deep = 1 + deepL r.inner := by cases r <;> first | rfl | cases hp
  have hz := h.z
  have hd := h.d
  exact ⟨good_mem (good_inner h.g) hq, a90_mem (a90_in h.a) hq, alld_mem h2 hq, by omega, by omega, by omega⟩
theorem flat_done : ∀ (rs : List Rw), deepL rs = 0 → doneL rs ≤ sizeL rs
  | [], _ => Nat.le_refl _
  | r :: rs, h => by
    rw [deepL] at h
    have h1 := flat_done rs (by omega)
    have h2 : r.done ≤ r.size := by
      cases r with
      | again n q => rw [Rw.deep] at h; omega
      | keep q => rw [Rw.deep] at h; omega
      | ever q => rw [Rw.deep] at h; omega
      | _ => exact Nat.le_refl 1
    rw [doneL, sizeL]
    omega
theorem P21.low {L : Nat} {r : Rw} (h : P21 L r) (hd : r.deep ≤ 1) : r.done ≤ 90 := by
  have hz := h.z
  cases r with
  | again n rs =>
    have ha := h.a
    rw [Rw.a90] at ha
    rw [Rw.deep] at hd
    rw [Rw.size] at hz
    have := flat_done rs (by omega)
    rw [Rw.done]
    rcases ha.1 with k | k
    · have : n * doneL rs ≤ 1 * doneL rs := Nat.mul_le_mul_right _ k
      omega
    · exact k
  | keep rs =>
    rw [Rw.deep] at hd
    rw [Rw.size] at hz
    have := flat_done rs (by omega)
    rw [Rw.done]
    omega
  | ever rs =>
    rw [Rw.deep] at hd
    rw [Rw.size] at hz
    have := flat_done rs (by omega)
    rw [Rw.done]
    omega
  | _ => exact (show 1 ≤ 90 by decide)
/-- a row, bent -/
structure Bw21 (L : Nat) (r r' : Rw) : Prop where
  p : r'.plain = false
  g : r'.good L
  z : r'.size ≤ r.size + 1
  d : r'.deep ≤ r.deep + 1
  a : alldL 2000 r'.inner
  i : doneL r'.inner ≤ 2000
  l1 : r'.deep ≤ 1 → r'.done ≤ r.done + 12
  l2 : r'.deep ≤ 2 → r'.done ≤ r.done + 1080
inductive Bt (L : Nat) (r : Rw) : Ow → Prop
  | lf (d : PyData) (h : LfOk d) (k : d = .tuple [.str "none"] ∨ d = .int 5) : Bt L r (.lf d)
  | bd (w : Str) (xs : List PyData) (h : BdOk w xs) : Bt L r (.bd w xs)
  | rw (r' : Rw) (h : Bw21 L r r') : Bt L r r'.o
inductive PutR (L : Nat) : Rw → Ow → Prop
  | here (r : Rw) (o : Ow) (h : Bt L r o) : PutR L r o
  | inn (r b q : Rw) (as bs : List Rw) (o : Ow) (hp : r.plain = false) (hb : r.o = .blk b (oL r.inner)) (hi : r.inner = as ++ q :: bs) (h : PutR L q o) : PutR L r (.blk b (oL as ++ o :: oL bs))
theorem oL_app (as bs : List Rw) : oL (as ++ bs) = oL as ++ oL bs := by rw [oL_map, oL_map, oL_map, List.map_append]
mutual
def Ow.l21 : Ow → Prop
  | .lf d => d = .tuple [.str "none"] ∨ d = .int 5
  | .blk _ rs => l21L rs
  | _ => True
def l21L : List Ow → Prop
  | [] => True
  | r :: rs => r.l21 ∧ l21L rs
end
/-- what a put leaves -/
structure Pf (L : Nat) (r : Rw) (o : Ow) : Prop where
  ok : o.ok L
  sz : o.sz ≤ r.size + 1
  ly : Lay (2 * r.deep + 20) o.D
  cl : o.cl → 1 ≤ o.rw.deep ∧ (o.rw.deep ≤ 1 → o.rw.done ≤ r.done + 12) ∧ (o.rw.deep ≤ 2 → o.rw.done ≤ r.done + 1080) ∧ (o.rw.deep ≤ 3 → o.rw.alld 2000)
  qo : qoR 2000 o
  l : o.l21
/-- rows, one of them put otherwise or none -/
inductive PutS (L : Nat) : List Rw → List Ow → Prop
  | no (rs : List Rw) : PutS L rs (oL rs)
  | one (as : List Rw) (q : Rw) (bs : List Rw) (o : Ow) (h : PutR L q o) : PutS L (as ++ q :: bs) (oL as ++ o :: oL bs)
theorem PutS.snoc {L : Nat} {rs : List Rw} {os : List Ow} (h : PutS L rs os) (r : Rw) : PutS L (rs ++ [r]) (os ++ [r.o]) := by
  cases h with
  | no => rw [show oL rs ++ [r.o] = oL (rs ++ [r]) from (oL_app rs [r]).symm]; exact .no _
  | one as q bs o h =>
    rw [List.append_assoc, List.append_assoc, List.cons_append, List.cons_append, show oL bs ++ [r.o] = oL (bs ++ [r]) from (oL_app bs [r]).symm]
    exact .one as q (bs ++ [r]) o h
structure Pq21 (L : Nat) (rs : List Rw) (os : List Ow) : Prop where
  ok : okL L os
  sz : szO os ≤ sizeL rs + 1
  ly : Lay (2 * deepL rs + 21) (.tuple (owsD os))
  qo : qoL 2000 os
  l : l21L os
def AgI (fs : List Fm) : Prop := ∀ f ∈ fs, a90L f.rs
theorem AgI.upd {gs : List Fm} {g : Fm} {ts : List Fm} {r : Rw} (h : AgI (gs ++ g :: ts)) (hr : r.a90) : AgI (gs ++ [{ g with rs := g.rs ++ [r] }]) := fun f hf => by
  rcases List.mem_append.mp hf with z | z
  · exact h f (List.mem_append_left _ z)
  · rw [List.mem_singleton.mp z]
    exact a90_app (h g (List.mem_append_right _ (.head _))) (by rw [a90L]; exact ⟨hr, trivial⟩)
/-- a line as data -/
inductive LnIs : PyData → LnT → Prop
  | row (d : PyData) : LnIs (.tuple [.str "row", d]) (.row d)
  | opn (h : List PyData) : LnIs (.tuple [.str "head", .tuple h]) (.opn h)
  | cls (d : PyData) : LnIs (.tuple [.str "end", d]) .cls
inductive Pa (more : List Ow) : List Rw → Nat → List Ow → Option Rw → Prop
  | beh : Pa more [] 0 more none
  | here (r : Rw) (rs : List Rw) : Pa more (r :: rs) 0 (more ++ oL rs) (some r)
  | skip (r : Rw) (rs : List Rw) (n : Nat) (os : List Ow) (fd : Option Rw) (h : Pa more rs n os fd) : Pa more (r :: rs) (r.lines + n) (r.o :: os) fd
  | inn (r b : Rw) (rs : List Rw) (n : Nat) (os : List Ow) (fd : Option Rw) (hp : r.plain = false) (hb : r.o = .blk b (oL r.inner)) (hn : n < linesL r.inner) (h : Pa more r.inner n os fd) : Pa more (r :: rs) (1 + n) (.blk b os :: oL rs) fd
  | fin (r b : Rw) (rs : List Rw) (hp : r.plain = false) (hb : r.o = .blk b (oL r.inner)) : Pa more (r :: rs) (1 + linesL r.inner) (.blk b (oL r.inner ++ more) :: oL rs) none
structure M93 (L : Nat) (more : List Ow) : Prop where
  ok : okL L more
  sz : szO more ≤ 12
  qo : qoL 2200 more
  cl : clL more → doneL (rwsL more) ≤ 143 ∧ (deepL (rwsL more) = 0 → doneL (rwsL more) ≤ 11) ∧ alldL 2200 (rwsL more)
  ly : ∀ d ∈ owsD more, Lay 30 d
structure R93 (L : Nat) (rs : List Rw) : Prop where
  g : goodL L rs
  a : alldL 480 rs
structure Pa93 (L : Nat) (rs : List Rw) (more os : List Ow) : Prop where
  ok : okL L os
  sz : szO os ≤ sizeL rs + szO more
  cl : clL os → (deepL (rwsL os) = 0 → doneL (rwsL os) ≤ doneL rs + 11) ∧ (deepL (rwsL os) ≤ 1 → doneL (rwsL os) ≤ doneL rs + 143) ∧ (deepL (rwsL os) ≤ 2 → doneL (rwsL os) ≤ doneL rs + 1716) ∧ (deepL (rwsL os) ≤ 3 → alldL 2200 (rwsL os))
  qo : qoL 2200 os
theorem R93.tl {L : Nat} {r : Rw} {rs : List Rw} (h : R93 L (r :: rs)) : R93 L rs ∧ r.good L ∧ r.alld 480 := by
  have h1 := h.g
  have h2 := h.a
  rw [goodL] at h1
  rw [alldL] at h2
  exact ⟨⟨h1.2, h2.2⟩, h1.1, h2.1⟩
def rowN0 (c : Int) : Int := if decide ((c.natAbs : Int) < 1000000000000000000) then c % 2147483647 + 1 else c
def rowS (c : Int) : Nat → List Int × Int
  | 0 => ([], rowN0 c)
  | i + 1 => if decide ((c.natAbs : Int) < 1000000000000000000) then
      ((rowS c i).1 ++ [Int.fdiv (((rowS c i).2 * 48271 % 2147483647 * ((rowS c i).2 * 48271 % 2147483647) + 69621 * ((rowS c i).2 * 48271 % 2147483647) + (0 + (i : Int))) % 2147483629) 7 % 1000000], (rowS c i).2 * 48271 % 2147483647)
    else ((rowS c i).1 ++ [(rowS c i).2 % 1000000], Int.fdiv (rowS c i).2 1000000)
def rowF (c : Int) (k : Nat) : List Int := (rowS c k).1
/-- a bow's centre and end -/
structure BowIs (rs : List Int) (c q : Pt) : Prop where
  ex : ∃ (xi yi yj p s : Int), drawnR (rs.getD 0 0) 0 = (xi : Rat) ∧ drawnR (rs.getD 1 0) 1 = (yi : Rat) ∧ yj = (if xi = 0 ∧ yi = 0 then 2 else yi) ∧
    itD (.list [.tuple [.int 1, .int 0], .tuple [.int 0, .int 1], .tuple [.int (rs.getD 2 0 % 19 - 9), .int (1 + rs.getD 3 0 % 9)]]) (min 2 (rs.getD 4 0 % 8)) = some (.tuple [.int p, .int s]) ∧ c = ⟨(xi : Rat), (yj : Rat)⟩ ∧
    q = ⟨(xi : Rat) + (Rat.divInt (s * s - p * p) (s * s + p * p) * ((xi : Rat) * ((-1 : Int) : Rat)) + Rat.divInt (2 * p * s) (s * s + p * p) * (yj : Rat)), (yj : Rat) + (Rat.divInt (2 * p * s) (s * s + p * p) * ((xi : Rat) * ((-1 : Int) : Rat)) + Rat.divInt (s * s - p * p) (s * s + p * p) * ((yj : Rat) * ((-1 : Int) : Rat)))⟩
def wordsPl : List PyData := [.str "go", .str "go", .str "side", .str "quarter", .str "half", .str "arc", .str "dot", .str "skip", .str "left", .str "right", .str "round", .str "mirror", .str "grow", .str "side", .str "quarter", .str "arc"]
def plArgs (rs : List Int) (thd : Rat) : Rw → Prop
  | .go x => x = drawnR (rs.getD 1 0) (rs.getD 2 0)
  | .skip x => x = drawnR (rs.getD 1 0) (rs.getD 2 0)
  | .side x y => x = drawnR (rs.getD 1 0) (rs.getD 2 0) ∧ y = drawnR (rs.getD 3 0) (rs.getD 4 0)
  | .grow s => s = Rat.divInt (1 + rs.getD 1 0 % 12) (1 + rs.getD 2 0 % 12)
  | .quarter y => y = if (drawnR (rs.getD 1 0) (rs.getD 2 0)).num = 0 then thd else drawnR (rs.getD 1 0) (rs.getD 2 0)
  | .half y => y = if (drawnR (rs.getD 1 0) (rs.getD 2 0)).num = 0 then thd else drawnR (rs.getD 1 0) (rs.getD 2 0)
  | .arc c q => BowIs ((rs.drop 3).take 5) c q
  | .again _ _ => False
  | .keep _ => False
  | .ever _ => False
  | _ => True
structure PlIs (thd : Rat) (rs : List Int) (r : Rw) : Prop where
  w : itD (.list wordsPl) (rs.getD 0 0 % 16) = some (.str r.word)
  a : plArgs rs thd r
abbrev Fa := Bw × Nat × List Rw
def evA (gs : List Fa) : Bool := gs.any fun f => f.1.isE
inductive Cl : List Fa → List Fa → Prop
  | cl (gs : List Fa) (g f : Fa) : Cl (gs ++ [g, f]) (gs ++ [(g.1, g.2.1, g.2.2 ++ [closeR f.1 f.2.1 f.2.2])])
inductive St1 (thd : Rat) (ws : List Int) (gs : List Fa) : List Fa → Prop
  | opn (b : Bw) (n : Nat) (k3 : Int) (h1 : ws.getD 11 0 % 9 < 3 ∧ gs.length < 5) (hb : itD (.list [.str "again", .str "keep", .str "ever"]) (ws.getD 11 0 % 9) = some (.str b.word)) (hk : itD (.list [.int 3, .int 3, .int 13]) (ws.getD 9 0 % 3) = some (.int k3)) (hn : ws.getD 10 0 % k3 = (n : Int)) (b0 : b ≠ .no) :
      St1 thd ws gs (gs ++ [(if b.isE && evA gs then .keep else b, n, [])])
  | cls (gs' : List Fa) (h1 : ¬ (ws.getD 11 0 % 9 < 3 ∧ gs.length < 5)) (h2 : ws.getD 11 0 % 9 = 3 ∧ 1 < gs.length) (h : Cl gs gs') : St1 thd ws gs gs'
  | add (hs : List Fa) (f : Fa) (r : Rw) (h1 : ¬ (ws.getD 11 0 % 9 < 3 ∧ gs.length < 5)) (h2 : ¬ (ws.getD 11 0 % 9 = 3 ∧ 1 < gs.length)) (he : gs = hs ++ [f]) (hr : PlIs thd ws r) : St1 thd ws gs (hs ++ [(f.1, f.2.1, f.2.2 ++ [r])])
/-- the frames behind the cells -/
inductive Sts (thd : Rat) : List Int → List Fa → Prop
  | beg : Sts thd [] [(.no, 0, [])]
  | step (cs : List Int) (c : Int) (gs gs' : List Fa) (h : Sts thd cs gs) (k : St1 thd (rowF c 12) gs gs') : Sts thd (cs ++ [c]) gs'
/-- .. all blocks closed -/
inductive Cls : List Fa → List Rw → Prop
  | one (b : Bw) (n : Nat) (rs : List Rw) : Cls [(b, n, rs)] rs
  | more (gs gs' : List Fa) (rs : List Rw) (h : Cl gs gs') (k : Cls gs' rs) : Cls gs rs
/-- the program of some cells -/
structure PrIs (thd : Rat) (cs : List Int) (rs : List Rw) : Prop where
  ex : ∃ (gs : List Fa) (ts : List Rw) (j : Nat), Sts thd cs gs ∧ Cls gs ts ∧ j ≤ ts.length ∧ rs = ts.take j ∧ doneL (ts.take j) ≤ 300 ∧ ∀ i, j < i → i ≤ ts.length → 300 < doneL (ts.take i)
mutual
def gwR : Rw → Prop
  | .again n rs => n ≤ 12 ∧ gwL rs
  | .keep rs => gwL rs
  | .ever rs => gwL rs
  | .grow s => 0 < s ∧ s.num.natAbs ≤ 12 ∧ s.den ≤ 12
  | _ => True
def gwL : List Rw → Prop
  | [] => True
  | r :: rs => gwR r ∧ gwL rs
end
/-- a product of at most n numbers of four bits -/
def Fp (n : Nat) (x : Rat) : Prop := x = 1 ∨ ∃ k, 0 < k ∧ k ≤ n ∧ Fb (4 * k) x
theorem Fp.one (n : Nat) : Fp n 1 := .inl rfl
theorem Fp.mono {n m : Nat} {x : Rat} (h : Fp n x) (k : n ≤ m) : Fp m x := by
  rcases h with h | ⟨j, h1, h2, h3⟩
  · exact .inl h
  · exact .inr ⟨j, h1, by omega, h3⟩
theorem Fp.mul {n m : Nat} {x y : Rat} (h : Fp n x) (k : Fp m y) : Fp (n + m) (x * y) := by
  rcases h with rfl | ⟨j, h1, h2, h3⟩
  · rw [Rat.one_mul]
    exact k.mono (by omega)
  · rcases k with rfl | ⟨i, k1, k2, k3⟩
    · rw [Rat.mul_one]
      exact .inr ⟨j, h1, by omega, h3⟩
    · exact .inr ⟨j + i, by omega, by omega, by have := fb_mul h3 k3; rw [← Nat.mul_add] at this; exact this⟩
theorem Fp.fb {n : Nat} {x : Rat} (h : Fp n x) : Fb (4 * n + 1) x := by
  rcases h with rfl | ⟨j, h1, h2, h3⟩
  · exact (fb_int (a := 1) (n := 1) (by decide) (by decide)).mono (by omega)
  · exact h3.mono (by omega)
structure Prw (d : Nat) (rs : List Rw) : Prop where
  g : gwL rs
  d : deepL rs ≤ d
  z : sizeL rs ≤ 1000
def PtZ : Pt := ⟨0, 0⟩
def Pc.cen : Pc → Pt
  | .arc c _ _ => c
  | .ring c _ => c
  | _ => PtZ
def Pc.fin : Pc → Pt
  | .arc _ _ q => q
  | .ring _ p => p
  | .st _ q => q
  | .dot p => p
def covK (zs : List Pc) (K : PyData) (w : Pt) : Prop := ∃ z ∈ zs, z.isDot = false ∧ carD z = K ∧ z.on w = true
structure PartsOf (z : Pc) (ps : List Pc) : Prop where
  all : ∀ y ∈ ps, y.ok ∧ y.pc 300 300 ∧ y.isDot = z.isDot ∧ carD y = carD z
  cov : ∀ w, onAny ps w = z.on w
  len : ps.length ≤ 4
structure PartsAll (zs ps : List Pc) : Prop where
  all : ∀ y ∈ ps, y.ok ∧ y.pc 300 300
  car : ∀ K w, covK ps K w ↔ covK zs K w
  cov : ∀ w, onAny ps w = onAny zs w
abbrev Sp3 := Nat × Nat × Nat
/-- the centre three ways off the line, the way to the first point -/
def cen3 (p q : Pt) : Pt := p.add ⟨-((q.sub p).y) * 3, (q.sub p).x * 3⟩
structure Grd (p q c a : Pt) (sf : Nat → Pt) : Prop where
  pq : p.before q = true
  ac : a ≠ c
  st : StP c a sf 6
  cc : c = cen3 p q
  ra : (a.sub c).along (a.sub c) ≤ (q.sub p).along (q.sub p)
section
variable {p q c a : Pt} {sf : Nat → Pt} (G : Grd p q c a sf)
include G
end

/-- spans as they are made: 0 line, 1 round, 2 rim, 3 beside, 4 bow -/
def Sp5Ok (s : Sp3) : Prop := (s.1 = 0 ∧ s.2.1 < 30 ∧ s.2.2 ≤ 6) ∨ (s.1 = 1 ∧ s.2.1 < 6 ∧ s.2.2 ≤ 6) ∨ (s.1 = 2 ∧ s.2.1 < 6 ∧ 1 ≤ s.2.2 ∧ s.2.2 ≤ 6) ∨ (s.1 = 3 ∧ s.2.1 < 15 ∧ s.2.2 = 0) ∨ (s.1 = 4 ∧ s.2.1 < 6 ∧ 1 ≤ s.2.2 ∧ s.2.2 ≤ 5)
structure Gr5 (p q c a : Pt) (sf : Nat → Pt) : Prop where
  g : Grd p q c a sf
  nr : 9 * (a.sub c).along (a.sub c) ≤ (q.sub p).along (q.sub p)
  op : ∀ i < 6, ∀ j < 6, (sf i).add (sf j) ≠ c.add c
/-- how high over the line, in its own length -/
def hgt (p q w : Pt) : Rat := (q.sub p).across (w.sub p)
section
variable {p q c a : Pt} {sf : Nat → Pt} (G : Gr5 p q c a sf)
include G
end

section
variable {p q c a : Pt} {sf : Nat → Pt} (G : Gr5 p q c a sf) {sp : List Sp3} (hsp : ∀ s ∈ sp, Sp5Ok s)
include G hsp
end

section
variable {p q c a : Pt} {sf : Nat → Pt} (G : Gr5 p q c a sf) {sp : List Sp3} (hsp : ∀ s ∈ sp, Sp5Ok s)
include G hsp
end

def stCh (zs : List Pc) (p q : Pt) : Bool :=
  (zs.all fun z => z.isSt && (decide (cr p q (dotP z) = 0) && decide (cr p q z.two = 0))) && (((zs.headD (.dot PtZ)).on p && (zs.getLastD (.dot PtZ)).on q) && ((zs.zip (zs.drop 1)).all fun a => a.2.on a.1.two))
def comesB (c p q here goal : Pt) : Bool := !decide (goal = here) && ((Pc.arc c p q).on goal && !aheadB c here q goal)
def bentGo (goal : Pt) : List Pc → Pt → Bool
  | .arc c p q :: zs, here => if (!(Pc.arc c p q).on here || decide (q = here)) = true then false else if comesB c p q here goal = true then zs.isEmpty else bentGo goal zs q
  | _, _ => false
def sameCir (z : Pc) : Pc → Bool
  | .arc c p _ => decide (c = z.cen) && decide (c.far p = z.cen.far z.two)
  | .ring c p => decide (c = z.cen) && decide (c.far p = z.cen.far z.two)
  | _ => false
def chB (zs : List Pc) : Pc → Bool
  | .dot p => decide (zs.length = 1) && (zs.headD (.dot PtZ)).on p
  | .st p q => stCh zs p q
  | z => if zs.all (sameCir z) = true then (if (decide (zs.length = 1) && isRing (zs.headD (.dot PtZ))) = true then true else bentGo z.fin zs z.two) else false
theorem st_self {p q : Pt} (h : p.before q = true) : chB [.st p q] (.st p q) = true := by
  have hg : GdK (carD (Pc.st p q)) (.st p q) := ⟨h, rfl, rfl⟩
  show stCh [.st p q] p q = true
  unfold stCh
  have e1 : cr p q p = 0 := cr_self1 p q
  have e2 : cr p q q = 0 := cr_self2 p q
  have e3 : (Pc.st p q).on p = true := (on_ends hg).1 _ rfl
  have e4 : (Pc.st p q).on q = true := (on_ends hg).2.1 _ rfl
  show ((true && (decide (cr p q p = 0) && decide (cr p q q = 0))) && true && (((Pc.st p q).on p && (Pc.st p q).on q) && true)) = true
  rw [e1, e2, e3, e4]
  rfl
theorem ahead_irr {c f p : Pt} (hf : f ≠ c) (hp : OnC c f p) : aheadB c f p p = false := by
  rw [ahead_place hf hp hp]
  cases e : earlierB (placeP c f p) (placeP c f p) with
  | false => rfl
  | true =>
    rcases earlier_iff.mp e with h | ⟨_, h⟩
    · omega
    · exact absurd h (by grind)
theorem arc_self {c p q : Pt} (h : (Pc.arc c p q).ok) : chB [.arc c p q] (.arc c p q) = true := by
  have hg : GdK (carD (Pc.arc c p q)) (.arc c p q) := ⟨h, rfl, rfl⟩
  have e3 : (Pc.arc c p q).on p = true := (on_ends hg).1 _ rfl
  have e4 : (Pc.arc c p q).on q = true := (on_ends hg).2.1 _ rfl
  have h1 : ([Pc.arc c p q].all (sameCir (.arc c p q))) = true := by
    show (decide (c = c) && decide (c.far p = c.far p) && true) = true
    rw [decide_eq_true rfl, decide_eq_true rfl]
    rfl
  show (if ([Pc.arc c p q].all (sameCir (.arc c p q))) = true then (if (decide ([Pc.arc c p q].length = 1) && isRing (Pc.arc c p q)) = true then true else bentGo q [.arc c p q] p) else false) = true
  rw [if_pos h1, if_neg (by show ¬ (true && false) = true; decide)]
  show (if (!(Pc.arc c p q).on p || decide (q = p)) = true then false else if comesB c p q p q = true then List.isEmpty ([] : List Pc) else bentGo q [] q) = true
  rw [e3, decide_eq_false (fun e => h.2.2 e.symm)]
  rw [if_neg (by decide)]
  have hc : comesB c p q p q = true := by
    unfold comesB
    rw [decide_eq_false (fun e => h.2.2 e.symm), e4, ahead_irr h.1 h.2.1]
    rfl
  rw [if_pos hc]
  rfl
theorem ring_self {c p u : Pt} (h : c.far p = c.far u) : chB [.ring c p] (.ring c u) = true := by
  have h1 : ([Pc.ring c p].all (sameCir (.ring c u))) = true := by
    show (decide (c = c) && decide (c.far p = c.far u) && true) = true
    rw [decide_eq_true rfl, decide_eq_true h]
    rfl
  show (if ([Pc.ring c p].all (sameCir (.ring c u))) = true then (if (decide ([Pc.ring c p].length = 1) && isRing (Pc.ring c p)) = true then true else bentGo u [.ring c p] u) else false) = true
  rw [if_pos h1, if_pos (by rfl)]
/-- another circle: no chain -/
theorem cir_no {z : Pc} (hz : z.rd = true) {y : Pc} {zs : List Pc} (h : sameCir z y = false) : chB (y :: zs) z = false := by
  have h1 : ¬ ((y :: zs).all (sameCir z)) = true := by
    rw [List.all_cons, h, Bool.false_and]
    exact fun z => nomatch z
  cases z with
  | arc c p q => exact if_neg h1
  | ring c p => exact if_neg h1
  | dot p => cases hz
  | st p q => cases hz
theorem cr_add (p : Pt) (x y u v : Rat) : cr p (p.add ⟨x, y⟩) (p.add ⟨u, v⟩) = x * v - y * u := by
  rw [cr_e]
  simp only [Pt.add]
  grind
theorem bef_add (p : Pt) (x y u v : Rat) : (p.add ⟨x, y⟩).before (p.add ⟨u, v⟩) = true ↔ x < u ∨ (x = u ∧ y < v) := by
  rw [bef_iff]
  simp only [Pt.add]
  constructor
  · rintro (h | ⟨h1, h2⟩)
    · left; grind
    · right; exact ⟨by grind, by grind⟩
  · rintro (h | ⟨h1, h2⟩)
    · left; grind
    · right; exact ⟨by grind, by grind⟩
theorem stCh_all {zs : List Pc} {p q : Pt} (h : stCh zs p q = true) : ∀ z ∈ zs, cr p q (dotP z) = 0 ∧ cr p q z.two = 0 := fun z hz => by
  unfold stCh at h
  rw [Bool.and_eq_true, List.all_eq_true] at h
  have := h.1 z hz
  rw [Bool.and_eq_true, Bool.and_eq_true, decide_eq_true_eq, decide_eq_true_eq] at this
  exact this.2
theorem stCh_end {zs : List Pc} {p q : Pt} (h : stCh zs p q = true) : (zs.headD (.dot PtZ)).on p = true ∧ (zs.getLastD (.dot PtZ)).on q = true := by
  unfold stCh at h
  rw [Bool.and_eq_true, Bool.and_eq_true, Bool.and_eq_true] at h
  exact h.2.1
theorem on_le {a b w : Pt} (h : (Pc.st a b).on w = true) : w.before a = false ∧ b.before w = false := by
  obtain ⟨_, h1, h2⟩ := onS_iff.mp h
  exact ⟨h1, h2⟩
section
variable {p : Pt} {w h a b : Rat}
theorem s_no1 (hw : w = 2 ∨ w = 4) (hne : ¬ (w = 4 ∧ h = a)) : chB [.st p (p.add ⟨w, h⟩)] (.st p (p.add ⟨4, a⟩)) = false := by
  cases e : chB [.st p (p.add ⟨w, h⟩)] (.st p (p.add ⟨4, a⟩)) with
  | false => rfl
  | true =>
    exfalso
    have e1 : cr p (p.add ⟨4, a⟩) (p.add ⟨w, h⟩) = 0 := (stCh_all e _ (List.mem_singleton_self _)).2
    have e2 : (p.add ⟨w, h⟩).before (p.add ⟨4, a⟩) = false := (on_le (stCh_end e).2).2
    rw [cr_add] at e1
    have e3 : ¬ (w < 4 ∨ (w = 4 ∧ h < a)) := fun z => by rw [(bef_add p w h 4 a).mpr z] at e2; cases e2
    rcases hw with rfl | rfl
    · exact e3 (.inl (by decide +kernel))
    · exact hne ⟨rfl, by grind⟩
theorem s_no2 {A B : Pc} {q : Pt} (hB : B.isSt = true) (hb : p.before (dotP B) = true) : chB [B, A] (.st p q) = false := by
  cases e : chB [B, A] (.st p q) with
  | false => rfl
  | true =>
    exfalso
    have e1 : B.on p = true := (stCh_end e).1
    cases B with
    | st u v =>
      have := (on_le e1).1
      have hb : p.before u = true := hb
      rw [hb] at this
      cases this
    | _ => cases hB
theorem s_two {B : Pc} (hw : w = 2 ∨ w = 4) (hne : ¬ (w = 4 ∧ h = a)) (hb : b = 2 ∨ b = 3) (hB : w = 2 → B = .st (p.add ⟨b, h⟩) (p.add ⟨4, a⟩)) : chB [.st p (p.add ⟨w, h⟩), B] (.st p (p.add ⟨4, a⟩)) = decide (w = 2 ∧ a = 2 * h ∧ b = 2) := by
  by_cases c : w = 2 ∧ a = 2 * h ∧ b = 2
  · rw [decide_eq_true c]
    obtain ⟨rfl, rfl, rfl⟩ := c
    rw [hB rfl]
    have b1 : p.before (p.add ⟨2, h⟩) = true := by
      have := (bef_add p 0 0 2 h).mpr (.inl (by decide +kernel))
      rwa [show p.add ⟨0, 0⟩ = p from pt_ext (by simp only [Pt.add]; grind) (by simp only [Pt.add]; grind)] at this
    have b2 : (p.add ⟨2, h⟩).before (p.add ⟨4, 2 * h⟩) = true := (bef_add p 2 h 4 (2 * h)).mpr (.inl (by decide +kernel))
    have g1 : GdK (carD (Pc.st p (p.add ⟨2, h⟩))) (.st p (p.add ⟨2, h⟩)) := ⟨b1, rfl, rfl⟩
    have g2 : GdK (carD (Pc.st (p.add ⟨2, h⟩) (p.add ⟨4, 2 * h⟩))) (.st (p.add ⟨2, h⟩) (p.add ⟨4, 2 * h⟩)) := ⟨b2, rfl, rfl⟩
    have e1 : cr p (p.add ⟨4, 2 * h⟩) p = 0 := cr_self1 _ _
    have e2 : cr p (p.add ⟨4, 2 * h⟩) (p.add ⟨2, h⟩) = 0 := by rw [cr_add]; grind
    have e3 : cr p (p.add ⟨4, 2 * h⟩) (p.add ⟨4, 2 * h⟩) = 0 := cr_self2 _ _
    have o1 : (Pc.st p (p.add ⟨2, h⟩)).on p = true := (on_ends g1).1 _ rfl
    have o2 : (Pc.st (p.add ⟨2, h⟩) (p.add ⟨4, 2 * h⟩)).on (p.add ⟨4, 2 * h⟩) = true := (on_ends g2).2.1 _ rfl
    have o3 : (Pc.st (p.add ⟨2, h⟩) (p.add ⟨4, 2 * h⟩)).on (p.add ⟨2, h⟩) = true := (on_ends g2).1 _ rfl
    show (((true && (decide (cr p (p.add ⟨4, 2 * h⟩) p = 0) && decide (cr p (p.add ⟨4, 2 * h⟩) (p.add ⟨2, h⟩) = 0))) && ((true && (decide (cr p (p.add ⟨4, 2 * h⟩) (p.add ⟨2, h⟩) = 0) && decide (cr p (p.add ⟨4, 2 * h⟩) (p.add ⟨4, 2 * h⟩) = 0))) && true)) && (((Pc.st p (p.add ⟨2, h⟩)).on p && (Pc.st (p.add ⟨2, h⟩) (p.add ⟨4, 2 * h⟩)).on (p.add ⟨4, 2 * h⟩)) && ((Pc.st (p.add ⟨2, h⟩) (p.add ⟨4, 2 * h⟩)).on (p.add ⟨2, h⟩) && true))) = true
    rw [e1, e2, e3, o1, o2, o3]
    rfl
  · rw [decide_eq_false c]
    cases e : chB [.st p (p.add ⟨w, h⟩), B] (.st p (p.add ⟨4, a⟩)) with
    | false => rfl
    | true =>
      exfalso
      have e1 : cr p (p.add ⟨4, a⟩) (p.add ⟨w, h⟩) = 0 := (stCh_all e _ List.mem_cons_self).2
      rw [cr_add] at e1
      rcases hw with rfl | rfl
      · have e2 : a = 2 * h := by grind
        have hb3 : b = 3 := hb.resolve_left fun z => c ⟨rfl, e2, z⟩
        subst hb3
        rw [hB rfl] at e
        have e3 : cr p (p.add ⟨4, a⟩) (p.add ⟨3, h⟩) = 0 := (stCh_all e _ (List.mem_cons_of_mem _ (List.mem_singleton_self _))).1
        rw [cr_add] at e3
        have eh : h = 0 := by grind
        have e4 : (Pc.st (p.add ⟨3, h⟩) (p.add ⟨4, a⟩)).on (p.add ⟨2, h⟩) = true := by
          have e : stCh [.st p (p.add ⟨2, h⟩), .st (p.add ⟨3, h⟩) (p.add ⟨4, a⟩)] p (p.add ⟨4, a⟩) = true := e
          unfold stCh at e
          rw [Bool.and_eq_true, Bool.and_eq_true] at e
          have e := e.2.2
          have e : ((Pc.st (p.add ⟨3, h⟩) (p.add ⟨4, a⟩)).on (p.add ⟨2, h⟩) && true) = true := e
          rw [Bool.and_true] at e
          exact e
        have e5 := (on_le e4).1
        rw [(bef_add p 2 h 3 h).mpr (.inl (by decide +kernel))] at e5
        cases e5
      · exact hne ⟨rfl, by grind⟩
end
section
variable {c : Pt} {x y : Rat} (hv : 0 < x * x + y * y)
theorem far_add (c : Pt) (x y : Rat) : c.far (c.add ⟨x, y⟩) = x * x + y * y := by
  unfold Pt.far Pt.along Pt.sub Pt.add
  simp only
  grind
theorem onc_add {u v : Rat} (e : u * u + v * v = x * x + y * y) : OnC c (c.add ⟨x, y⟩) (c.add ⟨u, v⟩) := far_on.mp (by rw [far_add, far_add, e])
include hv
theorem ne_add : c.add ⟨x, y⟩ ≠ c := fun e => by
  have h1 := far_add c x y
  have h2 : c.far (c.add ⟨x, y⟩) = 0 := by
    rw [e]
    unfold Pt.far Pt.along Pt.sub
    simp only
    grind
  rw [h2] at h1
  grind
theorem arc_add {u v : Rat} (e : u * u + v * v = x * x + y * y) (hne : ¬ (x = u ∧ y = v)) : (Pc.arc c (c.add ⟨x, y⟩) (c.add ⟨u, v⟩)).ok := by
  refine ⟨ne_add hv, onc_add e, fun z => hne ?_⟩
  have z1 : c.x + x = c.x + u := congrArg Pt.x z
  have z2 : c.y + y = c.y + v := congrArg Pt.y z
  exact ⟨by grind, by grind⟩
theorem on_add {u v s t : Rat} (e : u * u + v * v = x * x + y * y) (hne : ¬ (x = u ∧ y = v)) (e2 : s * s + t * t = x * x + y * y) : (Pc.arc c (c.add ⟨x, y⟩) (c.add ⟨u, v⟩)).on (c.add ⟨s, t⟩) = decide ((u - x) * (t - y) - (v - y) * (s - x) ≤ 0) := by
  rw [on_arc (arc_add hv e hne), far_add, far_add, decide_eq_true e2, Bool.true_and]
  have : ((c.add ⟨u, v⟩).sub (c.add ⟨x, y⟩)).across ((c.add ⟨s, t⟩).sub (c.add ⟨x, y⟩)) = (u - x) * (t - y) - (v - y) * (s - x) := by
    unfold Pt.across Pt.sub Pt.add
    simp only
    grind
  rw [this]
/-- ahead only of what lies on the way -/
theorem ahead_add {u v s t : Rat} (e : u * u + v * v = x * x + y * y) (hne : ¬ (x = u ∧ y = v)) (e2 : s * s + t * t = x * x + y * y) (h : ¬ (u - x) * (t - y) - (v - y) * (s - x) ≤ 0) : aheadB c (c.add ⟨x, y⟩) (c.add ⟨s, t⟩) (c.add ⟨u, v⟩) = false := by
  cases z : aheadB c (c.add ⟨x, y⟩) (c.add ⟨s, t⟩) (c.add ⟨u, v⟩) with
  | false => rfl
  | true =>
    exfalso
    have h1 : (Pc.arc c (c.add ⟨x, y⟩) (c.add ⟨u, v⟩)).on (c.add ⟨s, t⟩) = true := by
      show (decide (c.far (c.add ⟨s, t⟩) = c.far (c.add ⟨x, y⟩)) && (decide (c.add ⟨s, t⟩ = c.add ⟨x, y⟩) || decide (c.add ⟨s, t⟩ = c.add ⟨u, v⟩) || aheadB c (c.add ⟨x, y⟩) (c.add ⟨s, t⟩) (c.add ⟨u, v⟩))) = true
      rw [z, Bool.or_true, Bool.and_true, decide_eq_true_eq, far_add, far_add, e2]
    rw [on_add hv e hne e2, decide_eq_true_eq] at h1
    exact h h1
end
section
variable {c : Pt} {x y : Rat} (hv : 0 < x * x + y * y)
theorem addc_eq {x y u v : Rat} : c.add ⟨x, y⟩ = c.add ⟨u, v⟩ ↔ x = u ∧ y = v := by
  constructor
  · intro z
    have z1 : c.x + x = c.x + u := congrArg Pt.x z
    have z2 : c.y + y = c.y + v := congrArg Pt.y z
    exact ⟨by grind, by grind⟩
  · rintro ⟨rfl, rfl⟩
    rfl
def halfA (c : Pt) (x y : Rat) : Pc := .arc c (c.add ⟨y, -x⟩) (c.add ⟨-y, x⟩)
def halfB (c : Pt) (x y : Rat) : Pc := .arc c (c.add ⟨-y, x⟩) (c.add ⟨y, -x⟩)
include hv
theorem hvA : 0 < y * y + -x * -x := by grind
theorem hvB : 0 < -y * -y + x * x := by grind
theorem neLT : ¬ (-y = y ∧ x = -x) := fun z => by
  have h1 : y = 0 := by grind
  have h2 : x = 0 := by grind
  rw [h1, h2] at hv
  grind
theorem halfA_ok : (halfA c x y).ok := arc_add (hvA hv) (by grind) (fun z => neLT hv ⟨z.1.symm, z.2.symm⟩)
theorem halfB_ok : (halfB c x y).ok := arc_add (hvB hv) (by grind) (neLT hv)
theorem halfA_R : (halfA c x y).on (c.add ⟨x, y⟩) = true := by
  unfold halfA
  rw [on_add (hvA hv) (by grind) (fun z => neLT hv ⟨z.1.symm, z.2.symm⟩) (by grind), decide_eq_true_eq]
  grind
theorem halfA_B : (halfA c x y).on (c.add ⟨-x, -y⟩) = false := by
  unfold halfA
  rw [on_add (hvA hv) (by grind) (fun z => neLT hv ⟨z.1.symm, z.2.symm⟩) (by grind), decide_eq_false_iff_not]
  grind
theorem halfB_R : (halfB c x y).on (c.add ⟨x, y⟩) = false := by
  unfold halfB
  rw [on_add (hvB hv) (by grind) (neLT hv) (by grind), decide_eq_false_iff_not]
  grind
theorem halfB_B : (halfB c x y).on (c.add ⟨-x, -y⟩) = true := by
  unfold halfB
  rw [on_add (hvB hv) (by grind) (neLT hv) (by grind), decide_eq_true_eq]
  grind
theorem halfA_ends : (halfA c x y).on (c.add ⟨y, -x⟩) = true ∧ (halfA c x y).on (c.add ⟨-y, x⟩) = true := by
  have hg : GdK (carD (halfA c x y)) (halfA c x y) := ⟨halfA_ok hv, rfl, rfl⟩
  exact ⟨(on_ends hg).1 _ rfl, (on_ends hg).2.1 _ rfl⟩
theorem halfB_ends : (halfB c x y).on (c.add ⟨-y, x⟩) = true ∧ (halfB c x y).on (c.add ⟨y, -x⟩) = true := by
  have hg : GdK (carD (halfB c x y)) (halfB c x y) := ⟨halfB_ok hv, rfl, rfl⟩
  exact ⟨(on_ends hg).1 _ rfl, (on_ends hg).2.1 _ rfl⟩
theorem aheadA : aheadB c (c.add ⟨y, -x⟩) (c.add ⟨-y, x⟩) (c.add ⟨x, y⟩) = false := by
  refine ahead_add (hvA hv) (by grind) (fun z => ?_) (by grind) (by grind)
  have h1 : x = 0 := by grind
  have h2 : y = 0 := by grind
  rw [h1, h2] at hv
  grind
theorem aheadBb : aheadB c (c.add ⟨-y, x⟩) (c.add ⟨y, -x⟩) (c.add ⟨-x, -y⟩) = false := by
  refine ahead_add (hvB hv) (by grind) (fun z => ?_) (by grind) (by grind)
  have h1 : x = 0 := by grind
  have h2 : y = 0 := by grind
  rw [h1, h2] at hv
  grind
theorem neq_pts : c.add ⟨-y, x⟩ ≠ c.add ⟨x, y⟩ ∧ c.add ⟨y, -x⟩ ≠ c.add ⟨-y, x⟩ ∧ c.add ⟨-y, x⟩ ≠ c.add ⟨y, -x⟩ ∧ c.add ⟨x, y⟩ ≠ c.add ⟨y, -x⟩ ∧ c.add ⟨-x, -y⟩ ≠ c.add ⟨-y, x⟩ := by
  have h0 : ∀ (a b : Rat), x = a → y = b → a = 0 → b = 0 → False := fun a b e1 e2 e3 e4 => by
    rw [e1, e2, e3, e4] at hv
    grind
  refine ⟨fun z => ?_, fun z => ?_, fun z => ?_, fun z => ?_, fun z => ?_⟩ <;>
  · obtain ⟨z1, z2⟩ := addc_eq.mp z
    exact h0 x y rfl rfl (by grind) (by grind)
/-- one step on the first half -/
theorem goA (goal : Pt) (zs : List Pc) (h : comesB c (c.add ⟨y, -x⟩) (c.add ⟨-y, x⟩) (c.add ⟨x, y⟩) goal = false) : bentGo goal (halfA c x y :: zs) (c.add ⟨x, y⟩) = bentGo goal zs (c.add ⟨-y, x⟩) := by
  show (if (!(halfA c x y).on (c.add ⟨x, y⟩) || decide (c.add ⟨-y, x⟩ = c.add ⟨x, y⟩)) = true then false else if comesB c (c.add ⟨y, -x⟩) (c.add ⟨-y, x⟩) (c.add ⟨x, y⟩) goal = true then zs.isEmpty else bentGo goal zs (c.add ⟨-y, x⟩)) = _
  rw [halfA_R hv, decide_eq_false (neq_pts hv).1, h]
  rfl
theorem goB (goal : Pt) (zs : List Pc) : bentGo goal (halfB c x y :: zs) (c.add ⟨-y, x⟩) = if comesB c (c.add ⟨-y, x⟩) (c.add ⟨y, -x⟩) (c.add ⟨-y, x⟩) goal = true then zs.isEmpty else bentGo goal zs (c.add ⟨y, -x⟩) := by
  show (if (!(halfB c x y).on (c.add ⟨-y, x⟩) || decide (c.add ⟨y, -x⟩ = c.add ⟨-y, x⟩)) = true then false else if comesB c (c.add ⟨-y, x⟩) (c.add ⟨y, -x⟩) (c.add ⟨-y, x⟩) goal = true then zs.isEmpty else bentGo goal zs (c.add ⟨y, -x⟩)) = _
  rw [(halfB_ends hv).1, decide_eq_false (neq_pts hv).2.1]
  rfl
theorem goA2 (goal : Pt) (zs : List Pc) : bentGo goal (halfA c x y :: zs) (c.add ⟨y, -x⟩) = if comesB c (c.add ⟨y, -x⟩) (c.add ⟨-y, x⟩) (c.add ⟨y, -x⟩) goal = true then zs.isEmpty else bentGo goal zs (c.add ⟨-y, x⟩) := by
  show (if (!(halfA c x y).on (c.add ⟨y, -x⟩) || decide (c.add ⟨-y, x⟩ = c.add ⟨y, -x⟩)) = true then false else if comesB c (c.add ⟨y, -x⟩) (c.add ⟨-y, x⟩) (c.add ⟨y, -x⟩) goal = true then zs.isEmpty else bentGo goal zs (c.add ⟨-y, x⟩)) = _
  rw [(halfA_ends hv).1, decide_eq_false (neq_pts hv).2.2.1]
  rfl
theorem cm1 : comesB c (c.add ⟨y, -x⟩) (c.add ⟨-y, x⟩) (c.add ⟨x, y⟩) (c.add ⟨x, y⟩) = false := by
  unfold comesB
  rw [decide_eq_true rfl]
  rfl
theorem cm2 : comesB c (c.add ⟨y, -x⟩) (c.add ⟨-y, x⟩) (c.add ⟨x, y⟩) (c.add ⟨-x, -y⟩) = false := by
  unfold comesB
  rw [show (Pc.arc c (c.add ⟨y, -x⟩) (c.add ⟨-y, x⟩)).on (c.add ⟨-x, -y⟩) = false from halfA_B hv, Bool.false_and, Bool.and_false]
theorem cm3 : comesB c (c.add ⟨-y, x⟩) (c.add ⟨y, -x⟩) (c.add ⟨-y, x⟩) (c.add ⟨x, y⟩) = false := by
  unfold comesB
  rw [show (Pc.arc c (c.add ⟨-y, x⟩) (c.add ⟨y, -x⟩)).on (c.add ⟨x, y⟩) = false from halfB_R hv, Bool.false_and, Bool.and_false]
theorem cm4 : comesB c (c.add ⟨-y, x⟩) (c.add ⟨y, -x⟩) (c.add ⟨-y, x⟩) (c.add ⟨-x, -y⟩) = true := by
  unfold comesB
  rw [show (Pc.arc c (c.add ⟨-y, x⟩) (c.add ⟨y, -x⟩)).on (c.add ⟨-x, -y⟩) = true from halfB_B hv, aheadBb hv, decide_eq_false (neq_pts hv).2.2.2.2]
  rfl
theorem cm5 : comesB c (c.add ⟨y, -x⟩) (c.add ⟨-y, x⟩) (c.add ⟨y, -x⟩) (c.add ⟨x, y⟩) = true := by
  unfold comesB
  rw [show (Pc.arc c (c.add ⟨y, -x⟩) (c.add ⟨-y, x⟩)).on (c.add ⟨x, y⟩) = true from halfA_R hv, aheadA hv, decide_eq_false (neq_pts hv).2.2.2.1]
  rfl
omit hv in
theorem same_ring {z : Pc} (hz : z = halfA c x y ∨ z = halfB c x y) : sameCir (.ring c (c.add ⟨x, y⟩)) z = true := by
  rcases hz with rfl | rfl
  · show (decide (c = c) && decide (c.far (c.add ⟨y, -x⟩) = c.far (c.add ⟨x, y⟩))) = true
    rw [decide_eq_true rfl, far_add, far_add, decide_eq_true (by grind)]
    rfl
  · show (decide (c = c) && decide (c.far (c.add ⟨-y, x⟩) = c.far (c.add ⟨x, y⟩))) = true
    rw [decide_eq_true rfl, far_add, far_add, decide_eq_true (by grind)]
    rfl
omit hv in
theorem same_arc {u : Pt} {z : Pc} (hz : z = halfA c x y ∨ z = halfB c x y) : sameCir (.arc c (c.add ⟨x, y⟩) u) z = true := by
  rcases hz with rfl | rfl
  · show (decide (c = c) && decide (c.far (c.add ⟨y, -x⟩) = c.far (c.add ⟨x, y⟩))) = true
    rw [decide_eq_true rfl, far_add, far_add, decide_eq_true (by grind)]
    rfl
  · show (decide (c = c) && decide (c.far (c.add ⟨-y, x⟩) = c.far (c.add ⟨x, y⟩))) = true
    rw [decide_eq_true rfl, far_add, far_add, decide_eq_true (by grind)]
    rfl
omit hv in
theorem ch_ring {zs : List Pc} (h : ∀ z ∈ zs, z = halfA c x y ∨ z = halfB c x y) (h2 : isRing (zs.headD (.dot PtZ)) = false) : chB zs (.ring c (c.add ⟨x, y⟩)) = bentGo (c.add ⟨x, y⟩) zs (c.add ⟨x, y⟩) := by
  show (if zs.all (sameCir (.ring c (c.add ⟨x, y⟩))) = true then (if (decide (zs.length = 1) && isRing (zs.headD (.dot PtZ))) = true then true else bentGo (c.add ⟨x, y⟩) zs (c.add ⟨x, y⟩)) else false) = _
  rw [if_pos (List.all_eq_true.mpr fun z hz => same_ring (h z hz)), h2, Bool.and_false]
  rfl
omit hv in
theorem ch_half {zs : List Pc} (h : ∀ z ∈ zs, z = halfA c x y ∨ z = halfB c x y) (h2 : isRing (zs.headD (.dot PtZ)) = false) : chB zs (.arc c (c.add ⟨x, y⟩) (c.add ⟨-x, -y⟩)) = bentGo (c.add ⟨-x, -y⟩) zs (c.add ⟨x, y⟩) := by
  show (if zs.all (sameCir (.arc c (c.add ⟨x, y⟩) (c.add ⟨-x, -y⟩))) = true then (if (decide (zs.length = 1) && isRing (zs.headD (.dot PtZ))) = true then true else bentGo (c.add ⟨-x, -y⟩) zs (c.add ⟨x, y⟩)) else false) = _
  rw [if_pos (List.all_eq_true.mpr fun z hz => same_arc (h z hz)), h2, Bool.and_false]
  rfl
theorem ring_three : chB [halfA c x y, halfB c x y, halfA c x y] (.ring c (c.add ⟨x, y⟩)) = true := by
  rw [ch_ring (fun z hz => by simp only [List.mem_cons, List.not_mem_nil, or_false] at hz; rcases hz with rfl | rfl | rfl <;> simp) rfl, goA hv _ _ (cm1 hv), goB hv, if_neg (by rw [cm3 hv]; decide), goA2 hv, if_pos (cm5 hv)]
  rfl
theorem ring_twoH : chB [halfA c x y, halfB c x y] (.ring c (c.add ⟨x, y⟩)) = false := by
  rw [ch_ring (fun z hz => by simp only [List.mem_cons, List.not_mem_nil, or_false] at hz; rcases hz with rfl | rfl <;> simp) rfl, goA hv _ _ (cm1 hv), goB hv, if_neg (by rw [cm3 hv]; decide)]
  rfl
theorem half_two : chB [halfA c x y, halfB c x y] (.arc c (c.add ⟨x, y⟩) (c.add ⟨-x, -y⟩)) = true := by
  rw [ch_half (fun z hz => by simp only [List.mem_cons, List.not_mem_nil, or_false] at hz; rcases hz with rfl | rfl <;> simp) rfl, goA hv _ _ (cm2 hv), goB hv, if_pos (cm4 hv)]
  rfl
theorem half_one : chB [halfA c x y] (.arc c (c.add ⟨x, y⟩) (c.add ⟨-x, -y⟩)) = false := by
  rw [ch_half (fun z hz => .inl (List.mem_singleton.mp hz)) rfl, goA hv _ _ (cm2 hv)]
  rfl
theorem half_back : chB [halfB c x y, halfA c x y] (.arc c (c.add ⟨x, y⟩) (c.add ⟨-x, -y⟩)) = false := by
  rw [ch_half (fun z hz => by simp only [List.mem_cons, List.not_mem_nil, or_false] at hz; rcases hz with rfl | rfl <;> simp) rfl]
  show (if (!(halfB c x y).on (c.add ⟨x, y⟩) || _) = true then false else _) = false
  rw [halfB_R hv]
  rfl
/-- a circle twice as wide -/
theorem wide_no {zs : List Pc} {z : Pc} (hz : z = halfA c x y ∨ z = halfB c x y ∨ z = .ring c (c.add ⟨x, y⟩)) : chB (z :: zs) (.ring c (c.add ⟨2 * x, 2 * y⟩)) = false := by
  refine cir_no rfl ?_
  have far2 : c.far (c.add ⟨2 * x, 2 * y⟩) = 4 * (x * x + y * y) := by rw [far_add]; grind
  rcases hz with rfl | rfl | rfl
  · show (decide (c = c) && decide (c.far (c.add ⟨y, -x⟩) = c.far (c.add ⟨2 * x, 2 * y⟩))) = false
    rw [far2, far_add, decide_eq_false (show ¬ (y * y + -x * -x = 4 * (x * x + y * y)) from fun z => by grind), Bool.and_false]
  · show (decide (c = c) && decide (c.far (c.add ⟨-y, x⟩) = c.far (c.add ⟨2 * x, 2 * y⟩))) = false
    rw [far2, far_add, decide_eq_false (show ¬ (-y * -y + x * x = 4 * (x * x + y * y)) from fun z => by grind), Bool.and_false]
  · show (decide (c = c) && decide (c.far (c.add ⟨x, y⟩) = c.far (c.add ⟨2 * x, 2 * y⟩))) = false
    rw [far2, far_add, decide_eq_false (show ¬ (x * x + y * y = 4 * (x * x + y * y)) from fun z => by grind), Bool.and_false]
end

section
variable {c p q h g x : Pt}
end
end
end Pl

/-! Mi: a def that is handed the error that a suite holds. -/
namespace Mi
open PySem PySem.Spec PyProof.Rows L2
/-- what a def promises of an error of class D that it is handed -/
structure FnE (P : Program) (w : World) (K : PySem.W.Frag) (mg : Str → Option Value) (base : Heap) (k : Nat) (f : Addr) (fd : FuncData) (ps : List Str) (D : Addr) (sp : Addr → List V → Hp → VK → Prop) : Prop where
  len : ∀ a vs H Q, sp a vs H Q → vs.length = ps.length
  run : ∀ (A : Around) (outer : List Env) (s : Shared) (H : Hp) (us : List Value) (vs : List V) (Q : VK) (a : Addr) (oe : Obj), L2H.RoomH k A → L2H.PinOk outer H s (a, oe) → Zc (.ref D) none oe → (∃ fs, oe.data = .fields fs) → Env0 P w K mg base A outer s H →
    BindsTo s fd ⟨us, []⟩ (ps.zip us) → Vals vs us → sp a vs H Q → codeAny (model P w) A (.call (.ref f) ⟨us, []⟩) (CR (L2.CX P w) outer P w H s Q fun _ _ _ => False) s
abbrev cxE (P : Program) (w : World) (K : PySem.W.Frag) (mg : Str → Option Value) (base : Heap) (N : List Str) (qual : Str) (scope : Scope) (f : Addr) (cd : Value) (A : Around) (outer : List Env) (s : Shared) (H : Hp) (p : Addr × Obj) : Cx :=
  L2H.cxH (L2.CX P w) P w K mg base N qual scope f cd A outer s H (fun _ _ _ => False) p
theorem fun_E {P : Program} {w : World} {K : PySem.W.Frag} {mg : Str → Option Value} {base : Heap} {x qual : Str} {st : Stmt} {f : Addr} {fd : FuncData} {N ps : List Str} {k : Nat} {D : Addr} {sp : Addr → List V → Hp → VK → Prop} (Fn : Fun K x qual st f fd) (Sc : FnScope N ps (defScope st))
    (len : ∀ a vs H Q, sp a vs H Q → vs.length = ps.length)
    (body : ∀ (cdv : Value) (A : Around) (outer : List Env) (s : Shared) (H : Hp) (vs : List V) (Q : VK) (a : Addr) (oe : Obj), Zc (.ref D) none oe → (∃ fs, oe.data = .fields fs) → sp a vs H Q →
      ∃ t, PSs (cxE P w K mg base N qual (defScope st) f cdv A outer s H (a, oe)) (defBody st) t ∧ t { nx := fun _ H' => Q .non H', rt := Q } (start N vs) H) : FnE P w K mg base (k + 1) f fd ps D sp := by
  obtain ⟨oc, od, kV, doc, pm, an, cdv, ct, osl, rfl, lk, hcd⟩ := Fn.ex
  refine ⟨len, ?_⟩
  intro A outer s H us vs Q a oe room pin hz hf e0 bind rv hsp
  have hlen := len _ _ _ _ hsp
  have kin : K.In s.heap := e0.mod.kin.keeps fun b o e => (e0.bs b o e).1
  have nolim : s.heap.NoLimit := e0.mod.nolimit.keeps fun b o e => (e0.bs b o e).1
  have kinds : ∀ y ∈ ps.zip us, (defScope st).names.lookup y.1 = some .local ∨ ((defScope st).names.lookup y.1 = some .cell ∧ ((cellsFrom (s.heap.objs.size + 1) (defScope st).names []).lookup y.1).isSome = true) := by
    rintro ⟨n, v⟩ hy
    cases Sc.par n (List.of_mem_zip hy).1 with
    | inl h => exact .inl h
    | inr h => exact .inr ⟨h, PySem.W.cellsFrom_some _ _ _ (.inl h)⟩
  refine codeAny_call_function room.depth (kin _ _ lk) rfl Sc.co Sc.gen rfl (PySem.W.codeRec_of kin hcd) (bind _ _ _ _ (wpAny_newFunctionEnv_cells Sc.kind kinds ?_))
  intro env henv s1 call
  subst henv
  obtain ⟨t, bd, ht⟩ := body cdv A outer s H vs Q a oe hz hf hsp
  have J := L2H.inv_startH (CX := L2.CX P w) (E := fun _ _ _ => False) (cd := cdv) (qual := qual) (f := f) Sc pin e0 hlen rv call
  have out : ∀ {σ' : L2.St} {H' : Hp} {v : V} {u : Value} {s' : Shared}, Inv (cxE P w K mg base N qual (defScope st) f cdv A outer s H (a, oe)) [] σ' H' s' → RelV v u → Q v H' → CE outer P w H s Q u s' :=
    fun J' r q => ⟨_, _, J'.os, J'.bare, J'.base, J'.hok, r, q⟩
  refine ⟨nolim.keeps call.toInCall.keep, codeAny_func (wpAny_mono (bd.run [] s1 (start N vs) H _ J ht) ?_ fun _ _ z => z)⟩
  intro fl s' sp'
  cases fl with
  | next => obtain ⟨_, _, J', q⟩ := sp'; exact out (v := V.non) (u := Value.none) J' rfl q
  | ret u => obtain ⟨_, _, _, J', r, q⟩ := sp'; exact out J' r q
  | brk => obtain ⟨_, _, _, z⟩ := sp'; exact z.elim
  | cont => obtain ⟨_, _, _, z⟩ := sp'; exact z.elim
/-- as a condition: the error's address, the objects, what is wanted of the answer -/
abbrev ConE := Addr → MM → (S → MM → Prop) → Prop
def spE (K : PySem.W.Frag) (c : ConE) : Addr → List V → Hp → VK → Prop := fun a vs H Q => ∃ F M R, vs = [.ref a] ∧ HM K F M H ∧ c a M R ∧ ∀ F' v r M' H', Same F F' → HM K F' M' H' → SR K F' v r → R r M' → Q v H'
theorem Fun.okE {P : Program} {w : World} {K : PySem.W.Frag} {mg : Str → Option Value} {base : Heap} {x qual n : Str} {st : Stmt} {f : Addr} {fd : FuncData} {N : List Str} {k : Nat} {D : Addr} {c : ConE} (Fn : Fun K x qual st f fd) (Sc : FnScope N [n] (defScope st))
    (hbody : ∀ (cdv : Value) (A : Around) (outer : List Env) (s : Shared) (H : Hp) (a : Addr) (oe : Obj) (M : MM) (R : S → MM → Prop), Zc (.ref D) none oe → (∃ fs, oe.data = .fields fs) → c a M R →
      BL ⟨cxE P w K mg base N qual (defScope st) f cdv A outer s H (a, oe), fun _ _ _ _ => False, fun _ _ _ => False⟩ (defBody st) (S.ob a :: List.replicate (N.length - 1) .no) M
        { nx := fun _ M' => R (.d .none) M', rt := R, bk := fun _ _ => False, ct := fun _ _ => False }) : FnE P w K mg base (k + 1) f fd [n] D (spE K c) := by
  refine fun_E Fn Sc (fun a vs H Q h => ?_) (fun cdv A outer s H vs Q a oe hz hf h => ?_)
  · obtain ⟨F, M, R, rfl, _⟩ := h
    rfl
  · obtain ⟨F, M, R, rfl, h2, h3, h4⟩ := h
    have hb := hbody cdv A outer s H a oe M R hz hf h3
    have h1 : Paired (SR K F) [V.ref a] [S.ob a] := .cons rfl .nil
    refine ⟨_, hb.ps, F, ⟨h2, start_ok h1⟩, ⟨fun γ' M' F' σ' H' e r z => ?_, fun s' M' F' v H' e hm sr z => ?_, fun _ _ _ _ _ _ _ z => z.elim, fun _ _ _ _ _ _ _ z => z.elim⟩, fun cls γ' M' F' σ' H' e r z => z.elim⟩
    · exact h4 F' .non (.d .none) M' H' e r.hm Dp.non z
    · exact h4 F' v s' M' H' e hm sr z
section
variable {X : Cx} {Er : WX} {Rx : Value → List S → MM → Prop} {γ : List S} {M M1 M2 : MM} {s : S} {e : Expr} {pos p : Pos} {x n : Str} {q D : Addr} {oe : Obj} {pn : List (Addr × Obj)}
/-- f(e) in the suite -/
theorem e_callE {k : Nat} {f : Addr} {fd : FuncData} {cn : ConE} (G : FnE X.prog X.w X.K X.mg X.base k f fd [n] D (spE X.K cn)) (hr : Room k X.A) (hm : X.mg x = some (.ref f)) (hk : PySem.W.keepIn X.K (.ref f) = true) (hb : Binds X.K fd [n] [])
    (hz : Zc (.ref D) none oe) (hf : ∃ fs, oe.data = .fields fs) (ha : EV ⟨X.suite q ((q, oe) :: pn), Er, Rx⟩ e γ M (.ob q) M1) (h : cn q M1 (fun r M' => r = s ∧ M' = M2)) (hg : Gl X x := by rfl) (hdb : (x == ("__debug__" : Str)) = false := by decide)
    (he : starEach [e] X.env = (false, eval e X.env) :: starEach [] X.env := by rfl) (hpl : (backTo pos (starEach [] X.env)).any (·.1) = false := by rfl) : EV ⟨X.suite q ((q, oe) :: pn), Er, Rx⟩ (.Call (.Name x p) [e] [] pos) γ M s M2 := by
  refine ⟨⟨fun pins s0 σ H Q I ⟨F, rl, qq, ex⟩ => ?_⟩⟩
  refine wpAny_Call_Name_kw (ld_glob (X := X.suite q ((q, oe) :: pn)) I hg hm ?_ hdb)
  refine PySem.W.callWith_K (h₀ := X.base) I.ok.mod.kin hk (thn ((pa_cons (X := X.suite q ((q, oe) :: pn)) ha.pe pa_nil he).run pos pins s0 σ H (fun vs H1 => ∃ F1, vs = [V.ref q] ∧ Same F F1 ∧ Rl X.K γ M1 F1 σ H1) I ⟨F, rl, fun F1 v H1 e1 r1 v1 => ⟨F1, by cases v1; rfl, e1, r1⟩, ex⟩) fun us s1 ⟨vs, H1, I1, r, F1, hv, e1, r1⟩ => ⟨I1.kIn, ?_⟩) he hpl
  subst hv
  have pin := I1.pin (q, oe) (List.mem_append.mpr (.inl List.mem_cons_self))
  have hl : us.length = [n].length := by rw [← r.length] <;> rfl
  have b := hb s1 us I1.kIn (by rw [List.append_nil]; exact hl)
  rw [List.append_nil] at b
  have hpin : L2H.PinOk X.stack H1 s1 (q, oe) := ⟨pin.1, pin.2.1, fun hm => (List.mem_cons.mp (I1.stkSub q hm)).elim pin.2.2.1 pin.2.2.2.1, pin.2.2.2.2⟩
  refine wpAny_call (codeAny_mono (G.run (X.A.mark (some (.ref q))) X.stack s1 H1 us [.ref q] Q q oe ⟨hr.dp, hr.un⟩ hpin hz hf I1.env0 b r ⟨F1, M1, _, rfl, r1.hm, h, fun F' v r' M' H' e2 h2 v2 hR => ?_⟩) fun rr s' hq => ?_)
  · obtain ⟨rfl, rfl⟩ := hR
    exact qq F' v H' (e1.trans e2) (r1.ext e2 h2) v2
  · cases rr with
    | error u => obtain ⟨_, _, _, _, _, _, _, _, _, _, _, _, z⟩ := hq; exact z.elim
    | ok fl =>
      cases fl with
      | ret u => exact I1.after hq
      | next => exact hq.elim
      | brk => exact hq.elim
      | cont => exact hq.elim
end
section
variable {X : Cx} {D q : Addr} {oe : Obj}
/-- isinstance of an error that the frame holds -/
theorem inst_of {pins : List (Addr × Obj)} {σ : L2.St} {H : Hp} {s : Shared} (I : Inv X pins σ H s) (hp : (q, oe) ∈ X.pn) (hz : Zc (.ref D) none oe) (hf : ∃ vs, oe.data = .fields vs) : PySem.W.InstAt s.heap q oe D none := by
  have hget := (I.pin (q, oe) (List.mem_append.mpr (.inl hp))).1
  obtain ⟨vs, hv⟩ := hf
  obtain ⟨oc, od, dt, sl⟩ := oe
  obtain ⟨rfl, rfl⟩ := hz
  have hv' : dt = .fields vs := hv
  subst hv'
  exact ⟨hget, rfl, rfl, trivial⟩
theorem call_isP (C : ExcC X.K D) (hp : (q, oe) ∈ X.pn) (hz : Zc (.ref D) none oe) (hf : ∃ vs, oe.data = .fields vs) : CallR X (.builtin "isinstance") (rIsE X.K D q) := by
  rintro pins s σ H xs us Q I r ⟨c, cv, b, rfl, hcv, e, qq⟩
  obtain ⟨u1, u2, rfl, rx, rt⟩ := vals2 r
  cases rx
  cases hcv _ rt
  exact PySem.W.kia_one (PySem.W.handS_kitx_exc C.hg C.hk C.hs C.hd C.ha C.hn C.ht C.hm) I.kIn (inst_of I hp hz hf) e (fun z => nomatch z) fun tk => ⟨.bl b, H, I.kept (t' := tk) fun _ _ z => z, rfl, qq⟩
theorem call_isPT (C : ExcC X.K D) (hp : (q, oe) ∈ X.pn) (hz : Zc (.ref D) none oe) (hf : ∃ vs, oe.data = .fields vs) : CallR X (.builtin "isinstance") (rIsET X.K D q) := by
  rintro pins s σ H xs us Q I r ⟨tp, cs, ws, b, rfl, hT, k, e, qq⟩
  obtain ⟨u1, u2, rfl, rx, rt⟩ := vals2 r
  cases rx
  cases (show u2 = Value.ref tp from rt)
  obtain ⟨_, its, rv, o, h1, h2, n, h3⟩ := (show ObjOk X.prog X.w H s.heap tp (.tup cs) from I.hok tp _ hT)
  have e3 := ClsV.all k rv
  subst e3
  obtain ⟨oc, od, dt, sl⟩ := o
  simp only at h2 h3
  subst h2 h3
  exact PySem.W.kia_tup (PySem.W.handS_kitx_exc C.hg C.hk C.hs C.hd C.ha C.hn C.ht C.hm) I.kIn (inst_of I hp hz hf) h1 e (fun z => nomatch z) fun tk => ⟨.bl b, H, I.kept (t' := tk) fun _ _ z => z, rfl, qq⟩
variable {Y : Ct} {γ : List S} {M M1 M2 : MM} {s : S} {e : Expr} {es ces : List Expr} {pos p tp : Pos} {b1 : Bool} {ss : List S} {cv : Value} {cvs : List Value} {k : Nat}
theorem e_isP (C : ExcC Y.X.K D) (hp : (q, oe) ∈ Y.X.pn) (hz : Zc (.ref D) none oe) (hf : ∃ vs, oe.data = .fields vs) (hm : Y.X.mg "isinstance" = none) (ha : EA Y (e :: es) γ M [.ob q, s] M1) (hc : ClS s cv) (h : PySem.W.kitOne Y.X.K (.ref D) cv = some b1) (hg : Gl Y.X "isinstance" := by rfl)
    (he : starEach (e :: es) Y.X.env = (false, eval e Y.X.env) :: starEach es Y.X.env := by rfl) (hpl : (backTo pos (starEach es Y.X.env)).any (·.1) = false := by rfl) : EV Y (.Call (.Name "isinstance" p) (e :: es) [] pos) γ M (.d (.bool b1)) M1 :=
  e_callB (call_isP C hp hz hf) hg hm (by decide +kernel) ha (he := he) (hpl := hpl) (hr := ⟨fun F vs H Q hm' g qq => by
    obtain ⟨v, w, rfl, g1, g2⟩ := pair_two g
    cases g1
    exact ⟨w, cv, b1, rfl, fun u r => hc.rel g2 r, h, qq F _ H (Same.refl F) hm' (.bl _)⟩⟩)
theorem e_isPT (C : ExcC Y.X.K D) (hp : (q, oe) ∈ Y.X.pn) (hz : Zc (.ref D) none oe) (hf : ∃ vs, oe.data = .fields vs) (hm : Y.X.mg "isinstance" = none) (h0 : EV Y e γ M (.ob q) M1) (ha : EA Y ces γ M1 ss M2) (hc : Paired ClS ss cvs) (h : PySem.W.kitAny Y.X.K (.ref D) cvs = some b1) (hn : Nat.ble ss.length 100000 = true := by rfl) (hg : Gl Y.X "isinstance" := by rfl)
    (he : starEach [e, .Tuple ces k tp] Y.X.env = (false, eval e Y.X.env) :: starEach [.Tuple ces k tp] Y.X.env := by rfl) (he2 : starEach [.Tuple ces k tp] Y.X.env = (false, eval (.Tuple ces k tp) Y.X.env) :: starEach [] Y.X.env := by rfl) (hpl : (backTo pos (starEach [.Tuple ces k tp] Y.X.env)).any (·.1) = false := by rfl) :
    EV Y (.Call (.Name "isinstance" p) [e, .Tuple ces k tp] [] pos) γ M (.d (.bool b1)) M2 :=
  ⟨PE.imp (pe_callB (call_isPT C hp hz hf) hg hm (by decide +kernel) (pa_cons h0.pe (pa_cons (pe_tup ha.pa) pa_nil he2) he) (by decide) (by decide) he hpl) fun σ H Q ⟨F, r, qq, ex⟩ => ⟨F, r, fun F1 v H1 e1 r1 v1 => ⟨F1, r1, fun F2 vs H2 e2 r2 v2 => by
    cases v1
    refine ⟨by rw [pair_len v2]; exact small hn, fun p hp => ?_⟩
    obtain ⟨e3, h3⟩ := r2.hm.newF hp (.tup vs)
    exact ⟨p, vs, cvs, b1, rfl, upd_same, cls_pair v2 hc, h, qq _ _ _ ((e1.trans e2).trans e3) (r2.ext e3 h3) (.bl _)⟩, ex.mono e1⟩, ex⟩⟩
end
end Mi

namespace K89
open PySem PySem.Spec PyProof.Rows L2 Mi Pl
def topS (i : Nat) : Stmt := PySem.Challenge.pw_arcmill_k89_papers_nearly_right.main.body.getD i (.Pass ⟨0, 0, 0, 0⟩)
def clsS (i j : Nat) : Stmt := match topS i with | .ClassDef _ _ _ b _ _ _ _ _ _ _ => b.getD j (.Pass ⟨0, 0, 0, 0⟩) | _ => .Pass ⟨0, 0, 0, 0⟩
abbrev s_law_feed : Stmt := topS 52
abbrev s_law_draw : Stmt := topS 53
abbrev s_law_links : Stmt := topS 56
abbrev s_law_cell_at : Stmt := topS 51
abbrev s_law_point : Stmt := topS 54
abbrev s_divisor : Stmt := topS 4
abbrev s_ratio : Stmt := topS 5
abbrev s_plus : Stmt := topS 6
abbrev s_together : Stmt := topS 11
abbrev s_below : Stmt := topS 9
abbrev s_before : Stmt := topS 20
abbrev s_stretch : Stmt := topS 22
abbrev s_law_straight_ones : Stmt := topS 57
abbrev s_law_left : Stmt := topS 55
abbrev s_minus : Stmt := topS 7
abbrev s_off : Stmt := topS 12
abbrev s_law_round_ones : Stmt := topS 58
abbrev s_sign_of : Stmt := topS 18
abbrev s_times : Stmt := topS 8
abbrev s_along : Stmt := topS 15
abbrev s_across : Stmt := topS 16
abbrev s_quarter_of : Stmt := topS 25
abbrev s_ahead : Stmt := topS 26
abbrev s_side : Stmt := topS 19
abbrev s_lies_on : Stmt := topS 23
abbrev s_far : Stmt := topS 17
abbrev s_on : Stmt := topS 27
abbrev s_comes_to : Stmt := topS 44
abbrev s_bent_chain : Stmt := topS 45
abbrev s_straight_chain : Stmt := topS 42
abbrev s_same_circle : Stmt := topS 43
abbrev s_chain_shown : Stmt := topS 46
abbrev s_grown : Stmt := topS 13
abbrev s_turned : Stmt := topS 14
abbrev s_led : Stmt := topS 31
abbrev s_led_piece : Stmt := topS 33
abbrev s_first : Stmt := topS 30
abbrev s_behind : Stmt := topS 32
abbrev s_power : Stmt := topS 36
abbrev s_frame_of : Stmt := topS 38
abbrev s_Given_piece : Stmt := clsS 47 2
abbrev s_is_number : Stmt := topS 41
abbrev s_Given_is_one : Stmt := clsS 47 1
abbrev s_Given_covers : Stmt := clsS 47 3
abbrev s_Given_covers_all : Stmt := clsS 47 4
abbrev s_papers_shown : Stmt := topS 48
abbrev s_Given_init : Stmt := clsS 47 0
abbrev s_alike_shown : Stmt := topS 49
abbrev s_law : Stmt := topS 59
theorem sc_law_feed : FnScope ["_law_cell"] ["_law_cell"] (defScope s_law_feed) := ⟨rfl, rfl, rfl, by decide +kernel, rfl, by decide +kernel, by decide +kernel⟩
theorem sc_law_draw : FnScope ["_law_feed_here", "_law_many", "_law_k", "_law_number", "_law_found"] ["_law_feed_here", "_law_many"] (defScope s_law_draw) := ⟨rfl, rfl, rfl, by decide +kernel, rfl, by decide +kernel, by decide +kernel⟩
theorem sc_law_links : FnScope ["_law_feed_here", "_law_links_here", "_law_due", "_law_way"] ["_law_feed_here", "_law_links_here", "_law_due"] (defScope s_law_links) := ⟨rfl, rfl, rfl, by decide +kernel, rfl, by decide +kernel, by decide +kernel⟩
theorem sc_law_cell_at : FnScope ["_law_script", "_law_k"] ["_law_script", "_law_k"] (defScope s_law_cell_at) := ⟨rfl, rfl, rfl, by decide +kernel, rfl, by decide +kernel, by decide +kernel⟩
theorem sc_law_point : FnScope ["_law_feed_here"] ["_law_feed_here"] (defScope s_law_point) := ⟨rfl, rfl, rfl, by decide +kernel, rfl, by decide +kernel, by decide +kernel⟩
theorem sc_divisor : FnScope ["one", "other"] ["one", "other"] (defScope s_divisor) := ⟨rfl, rfl, rfl, by decide +kernel, rfl, by decide +kernel, by decide +kernel⟩
theorem sc_ratio : FnScope ["top", "bottom", "by"] ["top", "bottom"] (defScope s_ratio) := ⟨rfl, rfl, rfl, by decide +kernel, rfl, by decide +kernel, by decide +kernel⟩
theorem sc_plus : FnScope ["one", "other"] ["one", "other"] (defScope s_plus) := ⟨rfl, rfl, rfl, by decide +kernel, rfl, by decide +kernel, by decide +kernel⟩
theorem sc_together : FnScope ["p", "q"] ["p", "q"] (defScope s_together) := ⟨rfl, rfl, rfl, by decide +kernel, rfl, by decide +kernel, by decide +kernel⟩
theorem sc_below : FnScope ["one", "other"] ["one", "other"] (defScope s_below) := ⟨rfl, rfl, rfl, by decide +kernel, rfl, by decide +kernel, by decide +kernel⟩
theorem sc_before : FnScope ["p", "q"] ["p", "q"] (defScope s_before) := ⟨rfl, rfl, rfl, by decide +kernel, rfl, by decide +kernel, by decide +kernel⟩
theorem sc_stretch : FnScope ["p", "q"] ["p", "q"] (defScope s_stretch) := ⟨rfl, rfl, rfl, by decide +kernel, rfl, by decide +kernel, by decide +kernel⟩
theorem sc_law_straight_ones : FnScope ["_law_feed_here", "_law_p", "_law_a", "_law_q", "_law_r", "_law_gap", "_law_begin", "_law_due", "_law_way", "_law_high"] ["_law_feed_here"] (defScope s_law_straight_ones) := ⟨rfl, rfl, rfl, by decide +kernel, rfl, by decide +kernel, by decide +kernel⟩
theorem sc_law_left : FnScope ["_law_v"] ["_law_v"] (defScope s_law_left) := ⟨rfl, rfl, rfl, by decide +kernel, rfl, by decide +kernel, by decide +kernel⟩
theorem sc_minus : FnScope ["one", "other"] ["one", "other"] (defScope s_minus) := ⟨rfl, rfl, rfl, by decide +kernel, rfl, by decide +kernel, by decide +kernel⟩
theorem sc_off : FnScope ["p", "q"] ["p", "q"] (defScope s_off) := ⟨rfl, rfl, rfl, by decide +kernel, rfl, by decide +kernel, by decide +kernel⟩
theorem sc_law_round_ones : FnScope ["_law_feed_here", "_law_c", "_law_v", "_law_by", "_law_r", "_law_outer", "_law_left_here", "_law_right", "_law_arcs", "_law_back"] ["_law_feed_here"] (defScope s_law_round_ones) := ⟨rfl, rfl, rfl, by decide +kernel, rfl, by decide +kernel, by decide +kernel⟩
theorem sc_sign_of : FnScope ["number"] ["number"] (defScope s_sign_of) := ⟨rfl, rfl, rfl, by decide +kernel, rfl, by decide +kernel, by decide +kernel⟩
theorem sc_times : FnScope ["one", "other"] ["one", "other"] (defScope s_times) := ⟨rfl, rfl, rfl, by decide +kernel, rfl, by decide +kernel, by decide +kernel⟩
theorem sc_along : FnScope ["p", "q"] ["p", "q"] (defScope s_along) := ⟨rfl, rfl, rfl, by decide +kernel, rfl, by decide +kernel, by decide +kernel⟩
theorem sc_across : FnScope ["p", "q"] ["p", "q"] (defScope s_across) := ⟨rfl, rfl, rfl, by decide +kernel, rfl, by decide +kernel, by decide +kernel⟩
theorem sc_quarter_of : FnScope ["one", "other", "straight", "left"] ["one", "other"] (defScope s_quarter_of) := ⟨rfl, rfl, rfl, by decide +kernel, rfl, by decide +kernel, by decide +kernel⟩
theorem sc_ahead : FnScope ["c", "a", "p", "q", "start", "one", "other", "here", "there"] ["c", "a", "p", "q"] (defScope s_ahead) := ⟨rfl, rfl, rfl, by decide +kernel, rfl, by decide +kernel, by decide +kernel⟩
theorem sc_side : FnScope ["a", "b", "p"] ["a", "b", "p"] (defScope s_side) := ⟨rfl, rfl, rfl, by decide +kernel, rfl, by decide +kernel, by decide +kernel⟩
theorem sc_lies_on : FnScope ["piece", "p"] ["piece", "p"] (defScope s_lies_on) := ⟨rfl, rfl, rfl, by decide +kernel, rfl, by decide +kernel, by decide +kernel⟩
theorem sc_far : FnScope ["p", "q", "way"] ["p", "q"] (defScope s_far) := ⟨rfl, rfl, rfl, by decide +kernel, rfl, by decide +kernel, by decide +kernel⟩
theorem sc_on : FnScope ["piece", "p", "c"] ["piece", "p"] (defScope s_on) := ⟨rfl, rfl, rfl, by decide +kernel, rfl, by decide +kernel, by decide +kernel⟩
theorem sc_comes_to : FnScope ["one", "here", "goal"] ["one", "here", "goal"] (defScope s_comes_to) := ⟨rfl, rfl, rfl, by decide +kernel, rfl, by decide +kernel, by decide +kernel⟩
theorem sc_bent_chain : FnScope ["pieces", "piece", "here", "goal", "k", "one"] ["pieces", "piece"] (defScope s_bent_chain) := ⟨rfl, rfl, rfl, by decide +kernel, rfl, by decide +kernel, by decide +kernel⟩
theorem sc_straight_chain : FnScope ["pieces", "piece", "one", "other"] ["pieces", "piece"] (defScope s_straight_chain) := ⟨rfl, rfl, rfl, by decide +kernel, rfl, by decide +kernel, by decide +kernel⟩
theorem sc_same_circle : FnScope ["one", "piece"] ["one", "piece"] (defScope s_same_circle) := ⟨rfl, rfl, rfl, by decide +kernel, rfl, by decide +kernel, by decide +kernel⟩
theorem sc_chain_shown : FnScope ["pieces", "piece", "one"] ["pieces", "piece"] (defScope s_chain_shown) := ⟨rfl, rfl, rfl, by decide +kernel, rfl, by decide +kernel, by decide +kernel⟩
theorem sc_grown : FnScope ["p", "number"] ["p", "number"] (defScope s_grown) := ⟨rfl, rfl, rfl, by decide +kernel, rfl, by decide +kernel, by decide +kernel⟩
theorem sc_turned : FnScope ["p", "quarters", "turn", "x", "y"] ["p", "quarters"] (defScope s_turned) := ⟨rfl, rfl, rfl, by decide +kernel, rfl, by decide +kernel, by decide +kernel⟩
theorem sc_led : FnScope ["frame", "p", "place", "turns", "hand", "size", "x", "y"] ["frame", "p"] (defScope s_led) := ⟨rfl, rfl, rfl, by decide +kernel, rfl, by decide +kernel, by decide +kernel⟩
theorem sc_led_piece : FnScope ["frame", "piece", "points", "p"] ["frame", "piece"] (defScope s_led_piece) := ⟨rfl, rfl, rfl, by decide +kernel, rfl, by decide +kernel, by decide +kernel⟩
theorem sc_first : FnScope [] [] (defScope s_first) := ⟨rfl, rfl, rfl, by decide +kernel, rfl, by decide +kernel, by decide +kernel⟩
theorem sc_behind : FnScope ["one", "other", "turns"] ["one", "other"] (defScope s_behind) := ⟨rfl, rfl, rfl, by decide +kernel, rfl, by decide +kernel, by decide +kernel⟩
theorem sc_power : FnScope ["frame", "n", "found", "base"] ["frame", "n"] (defScope s_power) := ⟨rfl, rfl, rfl, by decide +kernel, rfl, by decide +kernel, by decide +kernel⟩
theorem sc_frame_of : FnScope ["wanted"] ["wanted"] (defScope s_frame_of) := ⟨rfl, rfl, rfl, by decide +kernel, rfl, by decide +kernel, by decide +kernel⟩
theorem sc_Given_piece : FnScope ["self", "number", "n"] ["self", "number", "n"] (defScope s_Given_piece) := ⟨rfl, rfl, rfl, by decide +kernel, rfl, by decide +kernel, by decide +kernel⟩
theorem sc_is_number : FnScope ["thing"] ["thing"] (defScope s_is_number) := ⟨rfl, rfl, rfl, by decide +kernel, rfl, by decide +kernel, by decide +kernel⟩
theorem sc_Given_is_one : FnScope ["self", "thing"] ["self", "thing"] (defScope s_Given_is_one) := ⟨rfl, rfl, rfl, by decide +kernel, rfl, by decide +kernel, by decide +kernel⟩
theorem sc_Given_covers : FnScope ["self", "paper", "piece", "k", "number", "n", "thing"] ["self", "paper", "piece"] (defScope s_Given_covers) := ⟨rfl, rfl, rfl, by decide +kernel, rfl, by decide +kernel, by decide +kernel⟩
theorem sc_Given_covers_all : FnScope ["self", "papers", "piece", "frame", "n", "paper", "number"] ["self", "papers", "piece"] (defScope s_Given_covers_all) := ⟨rfl, rfl, rfl, by decide +kernel, rfl, by decide +kernel, by decide +kernel⟩
theorem sc_papers_shown : FnScope ["given", "one", "papers", "piece", "paper"] ["given", "one", "papers"] (defScope s_papers_shown) := ⟨rfl, rfl, rfl, by decide +kernel, rfl, by decide +kernel, by decide +kernel⟩
theorem sc_Given_init : FnScope ["self", "wanted", "still", "flow"] ["self", "wanted", "still", "flow"] (defScope s_Given_init) := ⟨rfl, rfl, rfl, by decide +kernel, rfl, by decide +kernel, by decide +kernel⟩
theorem sc_alike_shown : FnScope ["even", "papers", "one", "other"] ["even", "papers"] (defScope s_alike_shown) := ⟨rfl, rfl, rfl, by decide +kernel, rfl, by decide +kernel, by decide +kernel⟩
theorem sc_law : FnScope ["_law_script", "_law_cell", "_law_feed_here", "_law_own", "_law_even", "_law_found", "_law_links_here", "_law_due", "_law_others", "_law_extra", "_law_k", "_law_one"] ["_law_script"] (defScope s_law) := ⟨rfl, rfl, rfl, by decide +kernel, rfl, by decide +kernel, by decide +kernel⟩
structure Tx (K : PySem.W.Frag) (mg : Str → Option Value) where
  a_law_feed : Addr
  fd_law_feed : FuncData
  F_law_feed : Fun K "_law_feed" "_law_feed" s_law_feed a_law_feed fd_law_feed
  g_law_feed : mg "_law_feed" = some (.ref a_law_feed)
  b_law_feed : Binds K fd_law_feed ["_law_cell"] []
  a_law_draw : Addr
  fd_law_draw : FuncData
  F_law_draw : Fun K "_law_draw" "_law_draw" s_law_draw a_law_draw fd_law_draw
  g_law_draw : mg "_law_draw" = some (.ref a_law_draw)
  b_law_draw : Binds K fd_law_draw ["_law_feed_here", "_law_many"] []
  a_law_links : Addr
  fd_law_links : FuncData
  F_law_links : Fun K "_law_links" "_law_links" s_law_links a_law_links fd_law_links
  g_law_links : mg "_law_links" = some (.ref a_law_links)
  b_law_links : Binds K fd_law_links ["_law_feed_here", "_law_links_here", "_law_due"] []
  a_law_cell_at : Addr
  fd_law_cell_at : FuncData
  F_law_cell_at : Fun K "_law_cell_at" "_law_cell_at" s_law_cell_at a_law_cell_at fd_law_cell_at
  g_law_cell_at : mg "_law_cell_at" = some (.ref a_law_cell_at)
  b_law_cell_at : Binds K fd_law_cell_at ["_law_script", "_law_k"] []
  a_law_point : Addr
  fd_law_point : FuncData
  F_law_point : Fun K "_law_point" "_law_point" s_law_point a_law_point fd_law_point
  g_law_point : mg "_law_point" = some (.ref a_law_point)
  b_law_point : Binds K fd_law_point ["_law_feed_here"] []
  a_divisor : Addr
  fd_divisor : FuncData
  F_divisor : Fun K "divisor" "divisor" s_divisor a_divisor fd_divisor
  g_divisor : mg "divisor" = some (.ref a_divisor)
  b_divisor : Binds K fd_divisor ["one", "other"] []
  a_ratio : Addr
  fd_ratio : FuncData
  F_ratio : Fun K "ratio" "ratio" s_ratio a_ratio fd_ratio
  g_ratio : mg "ratio" = some (.ref a_ratio)
  b_ratio : Binds K fd_ratio ["top", "bottom"] []
  a_plus : Addr
  fd_plus : FuncData
  F_plus : Fun K "plus" "plus" s_plus a_plus fd_plus
  g_plus : mg "plus" = some (.ref a_plus)
  b_plus : Binds K fd_plus ["one", "other"] []
  a_together : Addr
  fd_together : FuncData
  F_together : Fun K "together" "together" s_together a_together fd_together
  g_together : mg "together" = some (.ref a_together)
  b_together : Binds K fd_together ["p", "q"] []
  a_below : Addr
  fd_below : FuncData
  F_below : Fun K "below" "below" s_below a_below fd_below
  g_below : mg "below" = some (.ref a_below)
  b_below : Binds K fd_below ["one", "other"] []
  a_before : Addr
  fd_before : FuncData
  F_before : Fun K "before" "before" s_before a_before fd_before
  g_before : mg "before" = some (.ref a_before)
  b_before : Binds K fd_before ["p", "q"] []
  a_stretch : Addr
  fd_stretch : FuncData
  F_stretch : Fun K "stretch" "stretch" s_stretch a_stretch fd_stretch
  g_stretch : mg "stretch" = some (.ref a_stretch)
  b_stretch : Binds K fd_stretch ["p", "q"] []
  a_law_straight_ones : Addr
  fd_law_straight_ones : FuncData
  F_law_straight_ones : Fun K "_law_straight_ones" "_law_straight_ones" s_law_straight_ones a_law_straight_ones fd_law_straight_ones
  g_law_straight_ones : mg "_law_straight_ones" = some (.ref a_law_straight_ones)
  b_law_straight_ones : Binds K fd_law_straight_ones ["_law_feed_here"] []
  a_law_left : Addr
  fd_law_left : FuncData
  F_law_left : Fun K "_law_left" "_law_left" s_law_left a_law_left fd_law_left
  g_law_left : mg "_law_left" = some (.ref a_law_left)
  b_law_left : Binds K fd_law_left ["_law_v"] []
  a_minus : Addr
  fd_minus : FuncData
  F_minus : Fun K "minus" "minus" s_minus a_minus fd_minus
  g_minus : mg "minus" = some (.ref a_minus)
  b_minus : Binds K fd_minus ["one", "other"] []
  a_off : Addr
  fd_off : FuncData
  F_off : Fun K "off" "off" s_off a_off fd_off
  g_off : mg "off" = some (.ref a_off)
  b_off : Binds K fd_off ["p", "q"] []
  a_law_round_ones : Addr
  fd_law_round_ones : FuncData
  F_law_round_ones : Fun K "_law_round_ones" "_law_round_ones" s_law_round_ones a_law_round_ones fd_law_round_ones
  g_law_round_ones : mg "_law_round_ones" = some (.ref a_law_round_ones)
  b_law_round_ones : Binds K fd_law_round_ones ["_law_feed_here"] []
  a_sign_of : Addr
  fd_sign_of : FuncData
  F_sign_of : Fun K "sign_of" "sign_of" s_sign_of a_sign_of fd_sign_of
  g_sign_of : mg "sign_of" = some (.ref a_sign_of)
  b_sign_of : Binds K fd_sign_of ["number"] []
  a_times : Addr
  fd_times : FuncData
  F_times : Fun K "times" "times" s_times a_times fd_times
  g_times : mg "times" = some (.ref a_times)
  b_times : Binds K fd_times ["one", "other"] []
  a_along : Addr
  fd_along : FuncData
  F_along : Fun K "along" "along" s_along a_along fd_along
  g_along : mg "along" = some (.ref a_along)
  b_along : Binds K fd_along ["p", "q"] []
  a_across : Addr
  fd_across : FuncData
  F_across : Fun K "across" "across" s_across a_across fd_across
  g_across : mg "across" = some (.ref a_across)
  b_across : Binds K fd_across ["p", "q"] []
  a_quarter_of : Addr
  fd_quarter_of : FuncData
  F_quarter_of : Fun K "quarter_of" "quarter_of" s_quarter_of a_quarter_of fd_quarter_of
  g_quarter_of : mg "quarter_of" = some (.ref a_quarter_of)
  b_quarter_of : Binds K fd_quarter_of ["one", "other"] []
  a_ahead : Addr
  fd_ahead : FuncData
  F_ahead : Fun K "ahead" "ahead" s_ahead a_ahead fd_ahead
  g_ahead : mg "ahead" = some (.ref a_ahead)
  b_ahead : Binds K fd_ahead ["c", "a", "p", "q"] []
  a_side : Addr
  fd_side : FuncData
  F_side : Fun K "side" "side" s_side a_side fd_side
  g_side : mg "side" = some (.ref a_side)
  b_side : Binds K fd_side ["a", "b", "p"] []
  a_lies_on : Addr
  fd_lies_on : FuncData
  F_lies_on : Fun K "lies_on" "lies_on" s_lies_on a_lies_on fd_lies_on
  g_lies_on : mg "lies_on" = some (.ref a_lies_on)
  b_lies_on : Binds K fd_lies_on ["piece", "p"] []
  a_far : Addr
  fd_far : FuncData
  F_far : Fun K "far" "far" s_far a_far fd_far
  g_far : mg "far" = some (.ref a_far)
  b_far : Binds K fd_far ["p", "q"] []
  a_on : Addr
  fd_on : FuncData
  F_on : Fun K "on" "on" s_on a_on fd_on
  g_on : mg "on" = some (.ref a_on)
  b_on : Binds K fd_on ["piece", "p"] []
  a_comes_to : Addr
  fd_comes_to : FuncData
  F_comes_to : Fun K "comes_to" "comes_to" s_comes_to a_comes_to fd_comes_to
  g_comes_to : mg "comes_to" = some (.ref a_comes_to)
  b_comes_to : Binds K fd_comes_to ["one", "here", "goal"] []
  a_bent_chain : Addr
  fd_bent_chain : FuncData
  F_bent_chain : Fun K "bent_chain" "bent_chain" s_bent_chain a_bent_chain fd_bent_chain
  g_bent_chain : mg "bent_chain" = some (.ref a_bent_chain)
  b_bent_chain : Binds K fd_bent_chain ["pieces", "piece"] []
  a_straight_chain : Addr
  fd_straight_chain : FuncData
  F_straight_chain : Fun K "straight_chain" "straight_chain" s_straight_chain a_straight_chain fd_straight_chain
  g_straight_chain : mg "straight_chain" = some (.ref a_straight_chain)
  b_straight_chain : Binds K fd_straight_chain ["pieces", "piece"] []
  a_same_circle : Addr
  fd_same_circle : FuncData
  F_same_circle : Fun K "same_circle" "same_circle" s_same_circle a_same_circle fd_same_circle
  g_same_circle : mg "same_circle" = some (.ref a_same_circle)
  b_same_circle : Binds K fd_same_circle ["one", "piece"] []
  a_chain_shown : Addr
  fd_chain_shown : FuncData
  F_chain_shown : Fun K "chain_shown" "chain_shown" s_chain_shown a_chain_shown fd_chain_shown
  g_chain_shown : mg "chain_shown" = some (.ref a_chain_shown)
  b_chain_shown : Binds K fd_chain_shown ["pieces", "piece"] []
  a_grown : Addr
  fd_grown : FuncData
  F_grown : Fun K "grown" "grown" s_grown a_grown fd_grown
  g_grown : mg "grown" = some (.ref a_grown)
  b_grown : Binds K fd_grown ["p", "number"] []
  a_turned : Addr
  fd_turned : FuncData
  F_turned : Fun K "turned" "turned" s_turned a_turned fd_turned
  g_turned : mg "turned" = some (.ref a_turned)
  b_turned : Binds K fd_turned ["p", "quarters"] []
  a_led : Addr
  fd_led : FuncData
  F_led : Fun K "led" "led" s_led a_led fd_led
  g_led : mg "led" = some (.ref a_led)
  b_led : Binds K fd_led ["frame", "p"] []
  a_led_piece : Addr
  fd_led_piece : FuncData
  F_led_piece : Fun K "led_piece" "led_piece" s_led_piece a_led_piece fd_led_piece
  g_led_piece : mg "led_piece" = some (.ref a_led_piece)
  b_led_piece : Binds K fd_led_piece ["frame", "piece"] []
  a_first : Addr
  fd_first : FuncData
  F_first : Fun K "first" "first" s_first a_first fd_first
  g_first : mg "first" = some (.ref a_first)
  b_first : Binds K fd_first [] []
  a_behind : Addr
  fd_behind : FuncData
  F_behind : Fun K "behind" "behind" s_behind a_behind fd_behind
  g_behind : mg "behind" = some (.ref a_behind)
  b_behind : Binds K fd_behind ["one", "other"] []
  a_power : Addr
  fd_power : FuncData
  F_power : Fun K "power" "power" s_power a_power fd_power
  g_power : mg "power" = some (.ref a_power)
  b_power : Binds K fd_power ["frame", "n"] []
  a_frame_of : Addr
  fd_frame_of : FuncData
  F_frame_of : Fun K "frame_of" "frame_of" s_frame_of a_frame_of fd_frame_of
  g_frame_of : mg "frame_of" = some (.ref a_frame_of)
  b_frame_of : Binds K fd_frame_of ["wanted"] []
  a_Given_piece : Addr
  fd_Given_piece : FuncData
  F_Given_piece : Fun K "piece" "Given.piece" s_Given_piece a_Given_piece fd_Given_piece
  b_Given_piece : Binds K fd_Given_piece ["self", "number", "n"] []
  a_is_number : Addr
  fd_is_number : FuncData
  F_is_number : Fun K "is_number" "is_number" s_is_number a_is_number fd_is_number
  g_is_number : mg "is_number" = some (.ref a_is_number)
  b_is_number : Binds K fd_is_number ["thing"] []
  a_Given_is_one : Addr
  fd_Given_is_one : FuncData
  F_Given_is_one : Fun K "is_one" "Given.is_one" s_Given_is_one a_Given_is_one fd_Given_is_one
  b_Given_is_one : Binds K fd_Given_is_one ["self", "thing"] []
  a_Given_covers : Addr
  fd_Given_covers : FuncData
  F_Given_covers : Fun K "covers" "Given.covers" s_Given_covers a_Given_covers fd_Given_covers
  b_Given_covers : Binds K fd_Given_covers ["self", "paper", "piece"] []
  a_Given_covers_all : Addr
  fd_Given_covers_all : FuncData
  F_Given_covers_all : Fun K "covers_all" "Given.covers_all" s_Given_covers_all a_Given_covers_all fd_Given_covers_all
  b_Given_covers_all : Binds K fd_Given_covers_all ["self", "papers", "piece"] []
  a_papers_shown : Addr
  fd_papers_shown : FuncData
  F_papers_shown : Fun K "papers_shown" "papers_shown" s_papers_shown a_papers_shown fd_papers_shown
  g_papers_shown : mg "papers_shown" = some (.ref a_papers_shown)
  b_papers_shown : Binds K fd_papers_shown ["given", "one", "papers"] []
  a_Given_init : Addr
  fd_Given_init : FuncData
  F_Given_init : Fun K "__init__" "Given.__init__" s_Given_init a_Given_init fd_Given_init
  b_Given_init : Binds K fd_Given_init ["self", "wanted", "still", "flow"] []
  a_alike_shown : Addr
  fd_alike_shown : FuncData
  F_alike_shown : Fun K "alike_shown" "alike_shown" s_alike_shown a_alike_shown fd_alike_shown
  g_alike_shown : mg "alike_shown" = some (.ref a_alike_shown)
  b_alike_shown : Binds K fd_alike_shown ["even", "papers"] []
  a_law : Addr
  fd_law : FuncData
  F_law : Fun K "law" "law" s_law a_law fd_law
  g_law : mg "law" = some (.ref a_law)
  b_law : Binds K fd_law ["_law_script"] []
  n_abs : mg "abs" = none
  n_all : mg "all" = none
  n_any : mg "any" = none
  n_bool : mg "bool" = none
  n_enumerate : mg "enumerate" = none
  n_int : mg "int" = none
  n_isinstance : mg "isinstance" = none
  n_len : mg "len" = none
  n_list : mg "list" = none
  n_range : mg "range" = none
  n_tuple : mg "tuple" = none
  n_zip : mg "zip" = none
  u_MOST_TOLD : Value
  v_MOST_TOLD : V
  m_MOST_TOLD : mg "MOST_TOLD" = some u_MOST_TOLD
  r_MOST_TOLD : RelV v_MOST_TOLD u_MOST_TOLD
  d_MOST_TOLD : ∀ F, Dp K F v_MOST_TOLD (.int 2000)
  u_NOUGHT : Value
  v_NOUGHT : V
  m_NOUGHT : mg "NOUGHT" = some u_NOUGHT
  r_NOUGHT : RelV v_NOUGHT u_NOUGHT
  d_NOUGHT : ∀ F, Dp K F v_NOUGHT (.tuple [.tuple [.int 0, .int 1], .tuple [.int 0, .int 1]])
  u_ONE : Value
  v_ONE : V
  m_ONE : mg "ONE" = some u_ONE
  r_ONE : RelV v_ONE u_ONE
  d_ONE : ∀ F, Dp K F v_ONE (.tuple [.int 1, .int 1])
  C_Given : Addr
  g_Given : mg "Given" = some (.ref C_Given)
  kp_Given : PySem.W.keepIn K (.ref C_Given) = true
  cl_Given : Cls K C_Given
  na_Given_flow : NoAttr K C_Given "flow"
  na_Given_still : NoAttr K C_Given "still"
  na_Given_wanted : NoAttr K C_Given "wanted"
  me_Given_init : Meth K C_Given "__init__" a_Given_init
  mk_Given : Mk K C_Given a_Given_init
  me_Given_covers : Meth K C_Given "covers" a_Given_covers
  me_Given_covers_all : Meth K C_Given "covers_all" a_Given_covers_all
  me_Given_is_one : Meth K C_Given "is_one" a_Given_is_one
  me_Given_piece : Meth K C_Given "piece" a_Given_piece
  C_NoNumber : Addr
  g_NoNumber : mg "NoNumber" = some (.ref C_NoNumber)
  kp_NoNumber : PySem.W.keepIn K (.ref C_NoNumber) = true
  s_NoNumber : PySem.W.subIn K (.ref C_NoNumber) (.type "BaseException") = some true
  t_NoNumber : PySem.W.typeIn K (.ref C_NoNumber) = some (.type "type")
  x_NoNumber : PySem.W.excIn K C_NoNumber [.type "ValueError", .type "Exception", .type "BaseException", .type "object"] "ValueError.__new__" = true
section
variable {P : Program} {w : World} {K : PySem.W.Frag} {mg : Str → Option Value} {base : Heap}
local macro_rules | `(tactic| walk_at "fb") => `(tactic| with_reducible first | assumption | (apply fb_add <;> walk_at "fb") | (apply fb_sub <;> walk_at "fb") | (apply fb_mul <;> walk_at "fb") | (apply fb_div <;> walk_at "fb") | (apply fb_neg <;> walk_at "fb") | exact fb_one | exact fb_zero)
local macro_rules | `(tactic| walk_at "fk") => `(tactic| with_reducible first | assumption | (apply Fk.nx; walk_at "fk"))
local macro_rules | `(tactic| walk_at "ib") => `(tactic| with_reducible first | assumption | (apply ib_num; walk_at "fb") | (apply ib_den; walk_at "fb") | (apply ib_mul <;> walk_at "ib") | (apply ib_add <;> walk_at "ib") | (apply ib_sub <;> walk_at "ib") | (apply ib_neg; walk_at "ib") | (apply ib_v; walk_at "ib"; decide) | exact ib_n 2 (by decide) | exact ib_n 6 (by decide) | exact ib_n 12 (by decide) | exact ib_n 20 (by decide) | exact ib_n 32 (by decide) | exact ib_lit (by decide) | exact ib_lit2 (by decide))
local macro_rules | `(tactic| walk_at "nz") => `(tactic| first | with_reducible exact den_ne _ | assumption | ((with_reducible apply one_v); decide) | ((with_reducible apply Int.mul_ne_zero) <;> walk_at "nz") | omega | decide)
local macro_rules | `(tactic| walk_at "ob") => `(tactic| first | ((with_reducible apply cmul_ib); walk_at "ib"; walk_at "ib"; omega) | ((with_reducible apply lt_ib); walk_at "ib"; omega) | ((with_reducible apply lt_ib8); walk_at "ib"; omega) | walk_at "nz" | (with_reducible rfl) | omega | decide | assumption | exact k_int_int | exact k_int_bool | exact k_bool_bool | exact k_tuple_tuple)
local macro_rules | `(tactic| walk_at "eqv") => `(tactic| first | exact SeqAt.eqv_refl _ rfl | (rw [eqv_fr]; first | exact decide_eq_true (by assumption) | exact decide_eq_false (by assumption)))
local macro_rules | `(tactic| walk_at "dec") => `(tactic| first | rfl | decide | exact decide_eq_true (by omega) | exact decide_eq_false (by omega))
local macro_rules | `(tactic| walk_at "fb") => `(tactic| with_reducible first | (apply Pb.fx; walk_at "fb") | (apply Pb.fy; walk_at "fb") | (apply pb_add <;> walk_at "fb") | (apply pb_sub <;> walk_at "fb") | (apply pb_smul <;> walk_at "fb") | (apply fb_along <;> walk_at "fb") | (apply fb_across <;> walk_at "fb") | (apply fb_far <;> walk_at "fb"))
local macro_rules | `(tactic| walk_at "ib") => `(tactic| with_reducible (apply ib_less <;> walk_at "fb"))
local macro_rules | `(tactic| walk_at "fb") => `(tactic| with_reducible first | (apply fb_ib <;> walk_at "ib") | (apply fb_int8; decide))
local macro_rules | `(tactic| walk_at "fb") => `(tactic| with_reducible first | (apply fb_uS; walk_at "fb") | (apply fb_vS; walk_at "fb") | (apply pb_share <;> walk_at "fb"))
local macro_rules | `(tactic| walk_at "ob") => `(tactic| with_reducible exact div_ok (b := 64) (by decide) (by decide))
local macro_rules | `(tactic| walk_at "fb") => `(tactic| with_reducible (apply fb_abs; walk_at "fb"))
def c_law_feed : Con := fun ss M R _ => ∃ c : Int, ss = [.d (.int c)] ∧ ∀ (q : Addr) (F : Fd), Fk 0 F → R (.ob q) (M ++ [(q, fdM F)])
theorem ok_law_feed (T : Tx K mg) : FnOk P w K mg base (L2.CX P w) 1 T.a_law_feed T.fd_law_feed ["_law_cell"] (spD K c_law_feed) := by
  refine Fun.okD T.F_law_feed sc_law_feed (fun ss M R Rx h => ?_) (fun cdv A outer s H E ss M R Rx h hr tk => ?_)
  · obtain ⟨c, rfl, _⟩ := h
    rfl
  · obtain ⟨c, rfl, hR⟩ := h
    -- return [cell, 0, int(cell >= 10 ** 18)]
    refine b_cons (s_retM (n_lst (ea_cons (e_var 0 rfl) (ea_cons e_int (ea_cons (e_intB rfl T.n_int (ea_cons (e_ge (e_var 0 rfl) (e_pow (z := 1000000000000000000) e_int e_int pow_ok (by decide))) ea_nil)) ea_nil)))) ?_)
    exact fun q => hR q ⟨c, 0, _⟩ ⟨Int.le_refl _, Int.le_refl _⟩

def c_law_draw : Con := fun ss M R _ => ∃ (p : Addr) (F : Fd) (m : Int) (i n : Nat) (M0 : MM), ss = [.ob p, .d (.int m)] ∧ M = M0.set i (p, fdM F) ∧ i < M0.length ∧ (0 < m ∧ m.natAbs < 2 ^ 8000) ∧ (Fk n F ∧ Nat.ble n 1000000000 = true) ∧ R (.d (.int (F.v m))) (M0.set i (p, fdM (F.nx m)))
theorem dr_ok {M0 : MM} {p : Addr} {F : Fd} {m : Int} {i n : Nat} {Rx : Value → MM → Prop} (hi : i < M0.length) (hk : Fk n F) (h0 : 0 < m := by decide) (h1 : m.natAbs < 2 ^ 8000 := by first | assumption | exact Nat.lt_of_lt_of_le (show _ < 2 ^ 64 by decide) (p2_le (by decide))) (hn : n ≤ 1000000000 := by omega) :
    c_law_draw [.ob p, .d (.int m)] (M0.set i (p, fdM F)) (fun r M' => r = .d (.int (F.v m)) ∧ M' = M0.set i (p, fdM (F.nx m))) Rx := ⟨p, F, m, i, n, M0, rfl, rfl, hi, ⟨h0, h1⟩, ⟨hk, Nat.ble_eq_true_of_le hn⟩, rfl, rfl⟩
theorem ok_law_draw (T : Tx K mg) : FnOk P w K mg base (L2.CX P w) 1 T.a_law_draw T.fd_law_draw ["_law_feed_here", "_law_many"] (spD K c_law_draw) := by
  refine Fun.okD T.F_law_draw sc_law_draw (fun ss M R Rx h => ?_) (fun cdv A outer s H E ss M R Rx h hr tk => ?_)
  · obtain ⟨p, F, m, i, n, M0, rfl, _⟩ := h
    rfl
  · obtain ⟨p, ⟨c, k, f⟩, m, i, n, M0, rfl, rfl, hi0, ⟨hm0, hm1⟩, ⟨⟨hk0, hk1⟩, hn⟩, hR⟩ := h
    generalize hMM : M0.set i (p, fdM ⟨c, k, f⟩) = M
    have hM : M[i]? = some (p, fdM ⟨c, k, f⟩) := by rw [← hMM]; exact gs hi0
    have hi := gs_lt hM
    have hR : R (.d (.int ((Fd.mk c k f).v m))) (M.set i (p, fdM ((Fd.mk c k f).nx m))) := by rw [← hMM, List.set_set]; exact hR
    have hn' : n ≤ 1000000000 := Nat.le_of_ble_eq_true hn
    have hk2 : k.natAbs < 2 ^ 30 := by
      have h1 : (0 : Int) ≤ k := hk0
      have h2 : k ≤ (n : Int) := hk1
      omega
    -- k = from[1]
    refine b_cons (s_set 2 sc_law_draw.nd (e_ixM (e_var 0 rfl) e_int hM rfl) ?_)
    -- from[1] = k + 1
    refine b_cons (s_setI (k := i) (e_add (e_var 2 rfl) e_int) (e_var 0 rfl) e_int hM rfl ?_)
    -- if from[2] == 1 and from[0] > 0:
    refine b_cons (s_if (b1 := (Fd.mk c k f).on) (EW.t (w_and (t_eqI hr (e_ixM (e_var 0 rfl) e_int (gs hi) rfl) e_int) (fun _ => (w_and1 (t_gt (e_ixM (e_var 0 rfl) e_int (gs hi) rfl) e_int))))) (fun h1 => ?_) (fun h1 => ?_))
    · -- found = from[0] % many
      refine b_cons (s_set 4 sc_law_draw.nd (e_mod (e_ixM (e_var 0 rfl) e_int (gs hi) rfl) (e_var 1 rfl) hm0) ?_)
      -- from[0] = from[0] // many
      refine b_cons (s_setI (k := i) (e_fdiv (e_ixM (e_var 0 rfl) e_int (gs hi) rfl) (e_var 1 rfl) (div_ok (by omega) hm1)) (e_var 0 rfl) e_int (gs hi) rfl ?_)
      -- return found
      refine b_cons (s_ret (e_var 4 rfl) ?_)
      have e1 : (Fd.mk c k f).v m = c % m := if_pos h1
      have e2 : (Fd.mk c k f).nx m = ⟨c.fdiv m, k + 1, f⟩ := if_pos h1
      rw [e1, e2] at hR
      show R (.d (.int (c % m))) ((M.set i _).set i _)
      rw [List.set_set]
      exact hR
    · refine b_nil ?_
      have hmo : ∀ (a b : Int), 0 < b → b < 2 ^ 64 → (a % b).natAbs < 2 ^ 64 := fun a b h1 h2 => by
        have h3 := Int.emod_nonneg a (b := b) (by omega)
        have h4 := Int.emod_lt_of_pos a h1
        omega
      -- number = (from[0] % 10 ** 18 + 7919 * k * k + k) * 48271 % 2305843009213693951
      refine b_cons (s_set 3 sc_law_draw.nd (e_mod (e_mul (e_add (e_add (e_mod (e_ixM (e_var 0 rfl) e_int (gs hi) rfl) (e_pow (z := 1000000000000000000) e_int e_int pow_ok (by decide)) (by decide)) (e_mul (e_mul e_int (e_var 2 rfl) (mul_ok (a := 13) (b := 30) (by decide) hk2)) (e_var 2 rfl) (mul_ok (a := 43) (b := 30) (im_mul (a := 13) (b := 30) (by decide) hk2) hk2))) (e_var 2 rfl)) e_int
        (mul_ok (a := 200) (b := 20) ?_ (by decide))) e_int (by decide)) ?_)
      · have h3 : (7919 * k * k).natAbs < 2 ^ 73 := im_mul (a := 43) (b := 30) (im_mul (a := 13) (b := 30) (by decide) hk2) hk2
        have h4 := hmo c 1000000000000000000 (by decide) (by decide)
        have e3 : (2 : Nat) ^ 73 = 9444732965739290427392 := by decide
        have e4 : (2 : Nat) ^ 64 = 18446744073709551616 := by decide
        have e5 : (2 : Nat) ^ 30 = 1073741824 := by decide
        have e6 : (2 : Nat) ^ 200 = 1606938044258990275541962092341162602522202993782792835301376 := by decide
        rw [e3] at h3
        rw [e4] at h4
        rw [e5] at hk2
        rw [e6]
        generalize 7919 * k * k = z at h3
        generalize c % 1000000000000000000 = y at h4
        omega
      -- number = (number * 1442695040888963407 + 4321) % 2305843009213693921
      refine b_cons (s_set 3 sc_law_draw.nd (e_mod (e_add (e_mul (e_var 3 rfl) e_int (mul_ok (a := 64) (b := 64) (hmo _ _ (by decide) (by decide)) (by decide))) e_int) e_int (by decide)) ?_)
      -- return number // 16 % many
      refine b_cons (s_ret (e_mod (e_fdiv (e_var 3 rfl) e_int (div_ok (b := 5) (by decide) (by decide))) (e_var 1 rfl) hm0) ?_)
      have h1' : ¬ (Fd.mk c k f).on = true := by rw [h1]; decide
      have e1 : (Fd.mk c k f).v m = (Fd.mk c k f).mix.fdiv 16 % m := if_neg h1'
      have e2 : (Fd.mk c k f).nx m = ⟨c, k + 1, f⟩ := if_neg h1'
      rw [e1, e2] at hR
      exact hR

def lnkD (ls : List Nat) : PyData := .list (ls.map fun i => PyData.tuple [.int (i : Nat), .int 0])
def LnkO (ls : List Nat) (due : Bool) (ls' : List Nat) (due' : Bool) : Prop := (ls' = ls ∧ due' = due) ∨ (1 < ls.length ∧ ls' = ls.dropLast ∧ due' = false) ∨ (ls.reverse ≠ ls ∧ ls' = ls.reverse ∧ due' = false)
def c_law_links : Con := fun ss M R _ => ∃ (fa : Addr) (F : Fd) (i n : Nat) (M0 : MM) (ls : List Nat) (due : Bool), ss = [.ob fa, .d (lnkD ls), .d (.bool due)] ∧ M = M0.set i (fa, fdM F) ∧ i < M0.length ∧ (Fk n F ∧ Nat.ble n 10000 = true) ∧
  ∀ (ls' : List Nat) (due' : Bool) (F' : Fd), LnkO ls due ls' due' → R (.d (.list [lnkD ls', .bool due'])) (M0.set i (fa, fdM F'))
theorem lnk_sh (ls : List Nat) : SeqAt.shaped (lnkD ls) = true := Lay.sh (lay_list (lay_map fun i => lay_tup (lay_cons (lay_int _) (lay_cons (lay_int _) lay_nil))))
theorem lnk_len (ls : List Nat) : lenD (lnkD ls) = some ls.length := by show some (ls.map _).length = _; rw [List.length_map]
theorem lnk_eqv : ∀ ls ks : List Nat, PyData.eqv (lnkD ls) (lnkD ks) = decide (ls = ks)
  | [], [] => by rw [decide_eq_true rfl]; rfl
  | [], k :: ks => by rw [decide_eq_false (fun z => nomatch z)]; rfl
  | l :: ls, [] => by rw [decide_eq_false (fun z => nomatch z)]; rfl
  | l :: ls, k :: ks => by
    have ih := lnk_eqv ls ks
    have e : PyData.eqv (lnkD (l :: ls)) (lnkD (k :: ks)) = (PyData.eqv (.tuple [.int (l : Nat), .int 0]) (.tuple [.int (k : Nat), .int 0]) && PyData.eqv (lnkD ls) (lnkD ks)) := rfl
    have e2 : PyData.eqv (.tuple [.int (l : Nat), .int 0]) (.tuple [.int (k : Nat), .int 0]) = (PyData.eqv (.int (l : Nat)) (.int (k : Nat)) && true) := rfl
    rw [e, ih, e2, eqv_int, Bool.and_true, ← Bool.decide_and]
    apply decide_eq_decide.mpr
    rw [List.cons.injEq]
    constructor
    · rintro ⟨h1, h2⟩
      exact ⟨by omega, h2⟩
    · rintro ⟨h1, h2⟩
      exact ⟨by omega, h2⟩
theorem cut_lessL {α : Type} (xs : List α) : cutL xs none (some (-1)) = xs.dropLast := by
  unfold cutL
  have e : HT.sIx xs.length xs.length (some (-1)) = xs.length - 1 := by
    unfold HT.sIx
    show (if (-1 : Int) < 0 then ((-1 : Int) + (xs.length : Int)).toNat else min (-1 : Int).toNat xs.length) = _
    rw [if_pos (by decide)]
    omega
  rw [e, show HT.sIx xs.length 0 none = 0 from rfl, List.drop_zero, Nat.sub_zero, List.dropLast_eq_take]
theorem ok_law_links (T : Tx K mg) : FnOk P w K mg base (L2.CX P w) 2 T.a_law_links T.fd_law_links ["_law_feed_here", "_law_links_here", "_law_due"] (spD K c_law_links) := by
  refine Fun.okD T.F_law_links sc_law_links (fun ss M R Rx h => ?_) (fun cdv A outer s H E ss M R Rx h hr tk => ?_)
  · obtain ⟨fa, F, i, n, M0, ls, due, rfl, _⟩ := h
    rfl
  · obtain ⟨fa, F, i, n, M0, ls, due, rfl, rfl, hi, ⟨hk, hn0⟩, hR⟩ := h
    have hn := Nat.le_of_ble_eq_true hn0
    have e1 : decide ((1 : Int) < (ls.length : Int)) = decide (1 < ls.length) := decide_eq_decide.mpr (by omega)
    have hcut : cutL (ls.map fun i => PyData.tuple [.int (i : Nat), .int 0]) none (some (-1)) = ls.dropLast.map fun i => PyData.tuple [.int (i : Nat), .int 0] := by
      rw [cut_lessL, List.map_dropLast]
    have hrev : ((ls.map fun i : Nat => PyData.tuple [.int (i : Nat), .int 0]).map S.d).reverse = ((ls.reverse).map fun i : Nat => PyData.tuple [.int (i : Nat), .int 0]).map S.d := by rw [List.map_reverse, List.map_reverse]
    -- way = draw(feed_here, 5)
    refine b_cons (s_set 3 sc_law_links.nd (e_call (ok_law_draw T) (hr.mono (by decide)) T.g_law_draw T.F_law_draw.kp T.b_law_draw tk (ea_cons (e_var 0 rfl) (ea_cons e_int ea_nil)) (dr_ok hi (by walk_at "fk") (h1 := by walk_at "ob"))) ?_)
    generalize F.v 5 = wy
    generalize F.nx 5 = F1
    -- if way == 0 and len(links_here) > 1:
    refine b_cons (s_if (b1 := decide (wy = 0) && decide (1 < ls.length)) (EW.t (w_and (t_eqI hr (e_var 3 rfl) e_int) (fun hb => (w_and1 (t_is (t_gt (e_len (d := lnkD ls) (n := ls.length) rfl T.n_len (ea_cons (e_var 1 rfl) ea_nil) .d (lnk_len ls)) e_int) e1))))) (fun h1 => ?_) (fun h1 => b_nil ?_))
    · rw [Bool.and_eq_true, decide_eq_true_eq, decide_eq_true_eq] at h1
      -- return [links_here[:-1], False]
      refine b_cons (s_ret (e_lst (ds := [lnkD ls.dropLast, .bool false]) (ea_cons (e_is (e_slice (l := none) (h := some (-1)) (xs := ls.map fun i => PyData.tuple [.int (i : Nat), .int 0]) (e_var 1 rfl) o_none (o_some (e_neg e_int))) (congrArg (fun z => S.d (.list z)) hcut)) (ea_cons e_bl ea_nil))) ?_)
      exact hR _ _ F1 (.inr (.inl ⟨h1.2, rfl, rfl⟩))
    -- if way == 1 and links_here[::-1] != links_here:
    refine b_cons (s_if (b1 := decide (wy = 1) && !decide (ls.reverse = ls)) (EW.t (w_and (t_eqI hr (e_var 3 rfl) e_int) (fun hb => (w_and1 (t_ne (d1 := lnkD ls.reverse) (d2 := lnkD ls) hr (e_frz (ds := ls.reverse.map fun i : Nat => PyData.tuple [.int (i : Nat), .int 0]) (by rw [← hrev]; exact n_back (e_var 1 rfl) .d)) (e_var 1 rfl) .d .d (lnk_sh _) (lnk_sh _) (lnk_eqv _ _)))))) (fun h2 => ?_) (fun h2 => b_nil ?_))
    · rw [Bool.and_eq_true, decide_eq_true_eq, Bool.not_eq_true', decide_eq_false_iff_not] at h2
      -- return [links_here[::-1], False]
      refine b_cons (s_ret (e_lst (ds := [lnkD ls.reverse, .bool false]) (ea_cons (e_frz (ds := ls.reverse.map fun i : Nat => PyData.tuple [.int (i : Nat), .int 0]) (by rw [← hrev]; exact n_back (e_var 1 rfl) .d)) (ea_cons e_bl ea_nil))) ?_)
      exact hR _ _ F1 (.inr (.inr ⟨h2.2, rfl, rfl⟩))
    -- return [links_here, due]
    refine b_cons (s_ret (e_lst (ds := [lnkD ls, .bool due]) (ea_cons (e_var 1 rfl) (ea_cons (e_var 2 rfl) ea_nil))) ?_)
    exact hR _ _ F1 (.inl ⟨rfl, rfl⟩)

def c_law_cell_at : Con := fun ss M R _ => ∃ (ns : List Int) (k : Int), ss = [.d (.list (ns.map PyData.int)), .d (.int k)] ∧ 0 ≤ k ∧ R (.d (.int (ns.getD k.toNat 0))) M
theorem ok_law_cell_at (T : Tx K mg) : FnOk P w K mg base (L2.CX P w) 1 T.a_law_cell_at T.fd_law_cell_at ["_law_script", "_law_k"] (spD K c_law_cell_at) := by
  refine Fun.okD T.F_law_cell_at sc_law_cell_at (fun ss M R Rx h => ?_) (fun cdv A outer s H E ss M R Rx h hr tk => ?_)
  · obtain ⟨ns, k, rfl, _⟩ := h
    rfl
  · obtain ⟨ns, k, rfl, hk, hR⟩ := h
    -- if k < len(script):
    refine b_cons (s_if (t_lt (e_var 1 rfl) (e_len rfl T.n_len (ea_cons (e_var 0 rfl) ea_nil) .d rfl)) (fun h1 => ?_) (fun h1 => b_nil ?_))
    · have h2 : k < ((ns.map PyData.int).length : Int) := of_decide_eq_true h1
      rw [List.length_map] at h2
      have h3 : itD (.list (ns.map PyData.int)) k = some (.int (ns.getD k.toNat 0)) := by
        show atI (ns.map PyData.int) k = _
        unfold atI ixN
        rw [List.length_map]
        rw [if_pos hk, if_pos h2]
        show (ns.map PyData.int)[k.toNat]? = _
        rw [List.getElem?_map, List.getD_eq_getElem?_getD, List.getElem?_eq_getElem (by omega)]
        rfl
      -- return script[k]
      refine b_cons (s_ret (e_ix (e_var 0 rfl) (e_var 1 rfl) h3) ?_)
      exact hR
    · have h2 : ¬ k < ((ns.map PyData.int).length : Int) := of_decide_eq_false h1
      rw [List.length_map] at h2
      -- return 0
      refine b_cons (s_ret e_int ?_)
      rw [List.getD_eq_getElem?_getD, List.getElem?_eq_none (by omega)] at hR
      exact hR

def c_law_point : Con := fun ss M R _ => ∃ (fa : Addr) (F : Fd) (i n : Nat) (M0 : MM), ss = [.ob fa] ∧ M = M0.set i (fa, fdM F) ∧ i < M0.length ∧ (Fk n F ∧ Nat.ble n 10000 = true) ∧
  ∀ (p : Pt) (F' : Fd), Pb 10 p → Fk (n + 2) F' → R (.d (pt p)) (M0.set i (fa, fdM F'))
theorem ok_law_point (T : Tx K mg) : FnOk P w K mg base (L2.CX P w) 2 T.a_law_point T.fd_law_point ["_law_feed_here"] (spD K c_law_point) := by
  refine Fun.okD T.F_law_point sc_law_point (fun ss M R Rx h => ?_) (fun cdv A outer s H E ss M R Rx h hr tk => ?_)
  · obtain ⟨fa, F, i, n, M0, rfl, _⟩ := h
    rfl
  · obtain ⟨fa, F, i, n, M0, rfl, rfl, hi, ⟨hk, hn0⟩, hR⟩ := h
    have hn := Nat.le_of_ble_eq_true hn0
    have v0 := Fd.v_nn F (m := 13) (by decide)
    have v1 := Fd.v_lt F (m := 13) (by decide)
    have v2 := Fd.v_nn (F.nx 13) (m := 13) (by decide)
    have v3 := Fd.v_lt (F.nx 13) (m := 13) (by decide)
    have k1 : Fk (n + 1) (F.nx 13) := hk.nx 13
    -- return ((draw(feed_here, 13) - 6, 1), (draw(feed_here, 13) - 6, 1))
    refine b_cons (s_ret (e_is (e_tup (ds := [.tuple [.int (F.v 13 - 6), .int 1], .tuple [.int ((F.nx 13).v 13 - 6), .int 1]]) (ea_cons (e_tup (ds := [_, _]) (ea_cons (e_sub (e_call (ok_law_draw T) (hr.mono (by decide)) T.g_law_draw T.F_law_draw.kp T.b_law_draw tk (ea_cons (e_var 0 rfl) (ea_cons e_int ea_nil)) (dr_ok hi hk (h1 := by walk_at "ob"))) e_int) (ea_cons e_int ea_nil))) (ea_cons (e_tup (ds := [_, _]) (ea_cons (e_sub (e_call (ok_law_draw T) (hr.mono (by decide)) T.g_law_draw T.F_law_draw.kp T.b_law_draw tk (ea_cons (e_var 0 rfl) (ea_cons e_int ea_nil)) (dr_ok hi k1 (h1 := by walk_at "ob"))) e_int) (ea_cons e_int ea_nil))) ea_nil))) (show _ = S.d (pt ⟨((F.v 13 - 6 : Int) : Rat), (((F.nx 13).v 13 - 6 : Int) : Rat)⟩) from rfl)) ?_)
    exact hR _ _ ⟨fb_int (by show _ < 1024; omega) (by decide), fb_int (by show _ < 1024; omega) (by decide)⟩ (k1.nx 13)

def c_divisor : Con := fun ss M R _ => ∃ a b : Int, ss = [.d (.int a), .d (.int b)] ∧ R (.d (.int (Int.gcd a b : Nat))) M
theorem ok_divisor (T : Tx K mg) : FnOk P w K mg base (L2.CX P w) 1 T.a_divisor T.fd_divisor ["one", "other"] (spD K c_divisor) := by
  refine Fun.okD T.F_divisor sc_divisor (fun ss M R Rx h => ?_) (fun cdv A outer s H E ss M R Rx h hr tk => ?_)
  · obtain ⟨a, b, rfl, _⟩ := h
    rfl
  · obtain ⟨a, b, rfl, hR⟩ := h
    -- one = abs(one)
    refine b_cons (s_set 0 sc_divisor.nd (e_abs rfl T.n_abs (ea_cons (e_var 0 rfl) ea_nil)) ?_)
    -- other = abs(other)
    refine b_cons (s_set 1 sc_divisor.nd (e_abs rfl T.n_abs (ea_cons (e_var 1 rfl) ea_nil)) ?_)
    -- while other > 0:
    refine b_cons (s_while (passes_of rfl) (fun m γ' M' => ∃ x y : Nat, γ' = [.d (.int x), .d (.int y)] ∧ M' = M ∧ Nat.gcd x y = Int.gcd a b ∧ m = y) b.natAbs ⟨a.natAbs, b.natAbs, rfl, rfl, rfl, rfl⟩ ?_)
    rintro m γ' M' ⟨x, y, rfl, rfl, hg, rfl⟩
    refine ⟨_, _, (t_gt (e_var 1 rfl) e_int), fun h1 => ?_, fun h1 => ?_⟩
    · have h2 : (0 : Int) < m := of_decide_eq_true h1
      refine b_cons (s_par 0 1 rfl sc_divisor.nd (ea_cons (e_var 1 rfl) (ea_cons (e_mod (e_var 0 rfl) (e_var 1 rfl) h2) ea_nil)) ?_)
      refine b_nil ⟨x % m, Nat.mod_lt _ (by omega), m, x % m, rfl, rfl, ?_, rfl⟩
      rw [← hg, Nat.gcd_comm m, ← Nat.gcd_rec, Nat.gcd_comm]
    · have h2 : ¬ (0 : Int) < m := of_decide_eq_false h1
      have h3 : m = 0 := by omega
      subst h3
      refine b_cons (s_ret (e_var 0 rfl) ?_)
      rw [Nat.gcd_zero_right] at hg
      rw [hg]
      exact hR

def c_ratio (CN : Addr) : Con := fun ss M R Rx => ∃ a b : Int, ss = [.d (.int a), .d (.int b)] ∧ (b = 0 → Rx (.ref CN) M) ∧ (b ≠ 0 → b.natAbs < 2 ^ 9000 ∧ R (.d (fr (Rat.divInt a b))) M)
theorem ok_ratio (T : Tx K mg) : FnOk P w K mg base (L2.CX P w) 2 T.a_ratio T.fd_ratio ["top", "bottom"] (spD K (c_ratio T.C_NoNumber)) := by
  refine Fun.okD T.F_ratio sc_ratio (fun ss M R Rx h => ?_) (fun cdv A outer s H E ss M R Rx h hr tk => ?_)
  · obtain ⟨a, b, rfl, _⟩ := h
    rfl
  · obtain ⟨a, b, rfl, h0, h1⟩ := h
    -- if bottom == 0:
    refine b_cons (s_if (t_eqI hr (e_var 1 rfl) e_int) (fun hb => ?_) (fun hb => ?_))
    · -- raise NoNumber('nothing is divided by 0')
      refine b_cons (s_raise rfl tk PySem.F.excBase_ValueError T.x_NoNumber T.g_NoNumber T.kp_NoNumber (raises_own T.s_NoNumber T.t_NoNumber) ?_)
      exact h0 (of_decide_eq_true hb)
    · have hb0 : b ≠ 0 := of_decide_eq_false hb
      obtain ⟨hsz, hR⟩ := h1 hb0
      refine b_nil ?_
      -- by = divisor(top, bottom)
      refine b_cons (s_set 2 sc_ratio.nd (e_call (ok_divisor T) (hr.mono (by decide)) T.g_divisor T.F_divisor.kp T.b_divisor tk (ea_cons (e_var 0 rfl) (ea_cons (e_var 1 rfl) ea_nil)) ⟨a, b, rfl, rfl, rfl⟩) ?_)
      have hg : Int.gcd a b ≤ b.natAbs := Nat.le_of_dvd (by omega) (by have := Int.gcd_dvd_right (a := a) (b := b); exact Int.ofNat_dvd_left.mp this)
      have hg0 : 0 < Int.gcd a b := Int.gcd_pos_of_ne_zero_right a hb0
      have hsg : Int.gcd a b < 2 ^ 9000 := Nat.lt_of_le_of_lt hg hsz
      -- if bottom < 0:
      refine b_cons (s_if (t_lt (e_var 1 rfl) e_int) (fun hl => ?_) (fun hl => ?_))
      · have hl' : b < 0 := of_decide_eq_true hl
        -- by = 0 - by
        refine b_cons (s_set 2 sc_ratio.nd (e_sub e_int (e_var 2 rfl)) ?_)
        refine b_nil ?_
        have hd : ∀ z : Int, CDivG z (0 - (Int.gcd a b : Int)) := fun z => ⟨by omega, PySem.Flt.log2_lt_of (by decide) (by rw [Int.zero_sub, Int.natAbs_neg, Int.natAbs_natCast]; exact hsg)⟩
        -- return (top // by, bottom // by)
        refine b_cons (s_ret (e_tup (ds := [_, _]) (ea_cons (e_fdiv (e_var 0 rfl) (e_var 2 rfl) (hd _)) (ea_cons (e_fdiv (e_var 1 rfl) (e_var 2 rfl) (hd _)) ea_nil))) ?_)
        have e1 := low_num (a := a) hb0
        have e2 := low_den (a := a) hb0
        rw [if_pos hl'] at e1 e2
        show R (.d (.tuple [.int _, .int _])) M
        rw [e1, e2]
        exact hR
      · have hl' : ¬ b < 0 := of_decide_eq_false hl
        refine b_nil ?_
        have hd : ∀ z : Int, CDivG z (Int.gcd a b : Int) := fun z => ⟨by omega, PySem.Flt.log2_lt_of (by decide) (by rw [Int.natAbs_natCast]; exact hsg)⟩
        -- return (top // by, bottom // by)
        refine b_cons (s_ret (e_tup (ds := [_, _]) (ea_cons (e_fdiv (e_var 0 rfl) (e_var 2 rfl) (hd _)) (ea_cons (e_fdiv (e_var 1 rfl) (e_var 2 rfl) (hd _)) ea_nil))) ?_)
        have e1 := low_num (a := a) hb0
        have e2 := low_den (a := a) hb0
        rw [if_neg hl'] at e1 e2
        show R (.d (.tuple [.int _, .int _])) M
        rw [e1, e2]
        exact hR

def c_plus : Con := fun ss M R _ => ∃ (x y : Rat) (n m : Nat), ss = [.d (fr x), .d (fr y)] ∧ Fb n x ∧ Fb m y ∧ n + m ≤ 9000 ∧ R (.d (fr (x + y))) M
theorem ok_plus (T : Tx K mg) : FnOk P w K mg base (L2.CX P w) 3 T.a_plus T.fd_plus ["one", "other"] (spD K c_plus) := by
  refine Fun.okD T.F_plus sc_plus (fun ss M R Rx h => ?_) (fun cdv A outer s H E ss M R Rx h hr tk => ?_)
  · obtain ⟨x, y, n, m, rfl, _⟩ := h
    rfl
  · obtain ⟨x, y, n, m, rfl, hx, hy, hnm, hR⟩ := h
    refine b_cons (s_ret (e_call (ok_ratio T) (hr.mono (by decide)) T.g_ratio T.F_ratio.kp T.b_ratio tk (ea_cons (e_add (e_mul (e_ix (d := fr x) (e_var 0 rfl) e_int rfl) (e_ix (d := fr y) (e_var 1 rfl) e_int rfl) (nd_mul hx hy hnm)) (e_mul (e_ix (d := fr y) (e_var 1 rfl) e_int rfl) (e_ix (d := fr x) (e_var 0 rfl) e_int rfl) (nd_mul hy hx (by omega)))) (ea_cons (e_mul (e_ix (d := fr x) (e_var 0 rfl) e_int rfl) (e_ix (d := fr y) (e_var 1 rfl) e_int rfl) (dd_mul hx hy hnm)) ea_nil)) ⟨_, _, rfl, fun h => absurd h (dd_ne x y), fun _ => ⟨dd_lt hx hy hnm, rfl, rfl⟩⟩) ?_)
    rw [← add_eq_divInt]
    exact hR

def c_together : Con := fun ss M R _ => ∃ (p q : Pt) (n m : Nat), ss = [.d (pt p), .d (pt q)] ∧ Pb n p ∧ Pb m q ∧ n + m ≤ 9000 ∧ R (.d (pt (p.add q))) M
theorem ok_together (T : Tx K mg) : FnOk P w K mg base (L2.CX P w) 4 T.a_together T.fd_together ["p", "q"] (spD K c_together) := by
  refine Fun.okD T.F_together sc_together (fun ss M R Rx h => ?_) (fun cdv A outer s H E ss M R Rx h hr tk => ?_)
  · obtain ⟨p, q, n, m, rfl, _⟩ := h
    rfl
  · obtain ⟨p, q, n, m, rfl, h0, h1, h2, hR⟩ := h
    -- return (plus(p[0], q[0]), plus(p[1], q[1]))
    refine b_cons (s_ret (e_tup (ds := [_, _]) (ea_cons (e_call (ok_plus T) (hr.mono (by decide)) T.g_plus T.F_plus.kp T.b_plus tk (ea_cons (e_ix (e_var 0 rfl) e_int rfl) (ea_cons (e_ix (e_var 1 rfl) e_int rfl) ea_nil)) ⟨_, _, _, _, rfl, by walk_at "fb", by walk_at "fb", by first | omega | decide, rfl, rfl⟩) (ea_cons (e_call (ok_plus T) (hr.mono (by decide)) T.g_plus T.F_plus.kp T.b_plus tk (ea_cons (e_ix (e_var 0 rfl) e_int rfl) (ea_cons (e_ix (e_var 1 rfl) e_int rfl) ea_nil)) ⟨_, _, _, _, rfl, by walk_at "fb", by walk_at "fb", by first | omega | decide, rfl, rfl⟩) ea_nil))) ?_)
    exact hR

def c_below : Con := fun ss M R _ => ∃ (x y : Rat) (n m : Nat), ss = [.d (fr x), .d (fr y)] ∧ Fb n x ∧ Fb m y ∧ n + m ≤ 20000 ∧ R (.d (.bool (decide (x < y)))) M
theorem ok_below (T : Tx K mg) : FnOk P w K mg base (L2.CX P w) 1 T.a_below T.fd_below ["one", "other"] (spD K c_below) := by
  refine Fun.okD T.F_below sc_below (fun ss M R Rx h => ?_) (fun cdv A outer s H E ss M R Rx h hr tk => ?_)
  · obtain ⟨x, y, n, m, rfl, _⟩ := h
    rfl
  · obtain ⟨x, y, n, m, rfl, hx, hy, hnm, hR⟩ := h
    refine b_cons (s_ret (e_lt (e_mul (e_ix (d := fr x) (e_var 0 rfl) e_int rfl) (e_ix (d := fr y) (e_var 1 rfl) e_int rfl) (nd_mulW hx hy (by omega))) (e_mul (e_ix (d := fr y) (e_var 1 rfl) e_int rfl) (e_ix (d := fr x) (e_var 0 rfl) e_int rfl) (nd_mulW hy hx (by omega)))) ?_)
    have e : decide (x < y) = decide (x.num * y.den < y.num * x.den) := decide_eq_decide.mpr (Rat.lt_iff x y)
    rw [e] at hR
    exact hR

def c_before : Con := fun ss M R _ => ∃ (p q : Pt) (n m : Nat), ss = [.d (pt p), .d (pt q)] ∧ Pb n p ∧ Pb m q ∧ n + m ≤ 9000 ∧ R (.d (.bool (p.before q))) M
theorem ok_before (T : Tx K mg) : FnOk P w K mg base (L2.CX P w) 2 T.a_before T.fd_before ["p", "q"] (spD K c_before) := by
  refine Fun.okD T.F_before sc_before (fun ss M R Rx h => ?_) (fun cdv A outer s H E ss M R Rx h hr tk => ?_)
  · obtain ⟨p, q, n, m, rfl, _⟩ := h
    rfl
  · obtain ⟨p, q, n, m, rfl, h0, h1, h2, hR⟩ := h
    -- return below(p[0], q[0]) or (p[0] == q[0] and below(p[1], q[
    refine b_cons (s_ret (e_or (e_call (ok_below T) (hr.mono (by decide)) T.g_below T.F_below.kp T.b_below tk (ea_cons (e_ix (e_var 0 rfl) e_int rfl) (ea_cons (e_ix (e_var 1 rfl) e_int rfl) ea_nil)) ⟨_, _, _, _, rfl, by walk_at "fb", by walk_at "fb", by first | omega | decide, rfl, rfl⟩) (fun hb => (e_one (e_and (e_eq hr (e_ix (e_var 0 rfl) e_int rfl) (e_ix (e_var 1 rfl) e_int rfl) .d .d rfl rfl rfl) (fun hb => (e_one (e_call (ok_below T) (hr.mono (by decide)) T.g_below T.F_below.kp T.b_below tk (ea_cons (e_ix (e_var 0 rfl) e_int rfl) (ea_cons (e_ix (e_var 1 rfl) e_int rfl) ea_nil)) ⟨_, _, _, _, rfl, by walk_at "fb", by walk_at "fb", by first | omega | decide, rfl, rfl⟩))))))) ?_)
    (rw [eqv_fr]; exact hR)

def stretchD (p q : Pt) : PyData := if p = q then dotD p else if q.before p = true then stD q p else stD p q
def c_stretch : Con := fun ss M R _ => ∃ (p q : Pt) (n m : Nat), ss = [.d (pt p), .d (pt q)] ∧ Pb n p ∧ Pb m q ∧ n + m ≤ 9000 ∧ R (.d (stretchD p q)) M
theorem ok_stretch (T : Tx K mg) : FnOk P w K mg base (L2.CX P w) 3 T.a_stretch T.fd_stretch ["p", "q"] (spD K c_stretch) := by
  refine Fun.okD T.F_stretch sc_stretch (fun ss M R Rx h => ?_) (fun cdv A outer s H E ss M R Rx h hr tk => ?_)
  · obtain ⟨p, q, n, m, rfl, _⟩ := h
    rfl
  · obtain ⟨p, q, n, m, rfl, hp, hq, hnm, hR⟩ := h
    -- if p == q:
    refine b_cons (s_if (t_eq hr (e_var 0 rfl) (e_var 1 rfl) .d .d rfl rfl rfl) (fun h1 => ?_) (fun h1 => b_nil ?_))
    · rw [pt_eqv, decide_eq_true_eq] at h1
      -- return ('dot', p)
      refine b_cons (s_ret (e_tup (ds := [_, _]) (ea_cons e_str (ea_cons (e_var 0 rfl) ea_nil))) ?_)
      unfold stretchD at hR
      rw [if_pos h1] at hR
      exact hR
    · rw [pt_eqv, decide_eq_false_iff_not] at h1
      unfold stretchD at hR
      rw [if_neg h1] at hR
      -- if before(q, p):
      refine b_cons (s_if (t_val (e_call (ok_before T) (hr.mono (by decide)) T.g_before T.F_before.kp T.b_before tk (ea_cons (e_var 1 rfl) (ea_cons (e_var 0 rfl) ea_nil)) ⟨q, p, m, n, rfl, hq, hp, by omega, rfl, rfl⟩)) (fun h2 => ?_) (fun h2 => b_nil ?_))
      · -- return ('stretch', q, p)
        refine b_cons (s_ret (e_tup (ds := [_, _, _]) (ea_cons e_str (ea_cons (e_var 1 rfl) (ea_cons (e_var 0 rfl) ea_nil)))) ?_)
        rw [if_pos h2] at hR
        exact hR
      · -- return ('stretch', p, q)
        refine b_cons (s_ret (e_tup (ds := [_, _, _]) (ea_cons e_str (ea_cons (e_var 0 rfl) (ea_cons (e_var 1 rfl) ea_nil)))) ?_)
        rw [if_neg (by rw [h2]; decide)] at hR
        exact hR

/-- what is built of stretches -/
structure StO (p : Pt) (w h a : Rat) (B : Pc) (due : Bool) : Prop where
  hw : w = 2 ∨ w = 4
  ne : ¬ (w = 4 ∧ h = a)
  bs : B.isSt = true
  bb : p.before (dotP B) = true
  bo : B.ok
  bp : B.pc 300 300
  pp : Pb 300 p ∧ Pb 300 (p.add ⟨w, h⟩) ∧ Pb 300 (p.add ⟨4, a⟩)
  du : chB [.st p (p.add ⟨w, h⟩), B] (.st p (p.add ⟨4, a⟩)) = due
def c_law_straight_ones : Con := fun ss M R _ => ∃ (fa : Addr) (F : Fd) (i n : Nat) (M0 : MM), ss = [.ob fa] ∧ M = M0.set i (fa, fdM F) ∧ i < M0.length ∧ (Fk n F ∧ Nat.ble n 10000 = true) ∧
  ∀ (p : Pt) (w h a : Rat) (B : Pc) (due : Bool) (F' : Fd), StO p w h a B due → Fk (n + 10) F' → R (.d (.list [.list [(Pc.st p (p.add ⟨w, h⟩)).D, B.D], (Pc.st p (p.add ⟨4, a⟩)).D, lnkD [0, 1], .bool due])) (M0.set i (fa, fdM F'))
theorem st_bef {p q : Pt} (h : p.before q = true) : stretchD p q = (Pc.st p q).D := by
  unfold stretchD
  rw [if_neg (fun e => by rw [e, bef_irr] at h; cases h), if_neg (by rw [bef_asym h]; decide)]
  rfl
theorem st_any {p q : Pt} (h : p ≠ q) : ∃ B : Pc, stretchD p q = B.D ∧ B.isSt = true ∧ B.ok ∧ ((dotP B = p ∧ B.two = q) ∨ (dotP B = q ∧ B.two = p)) := by
  by_cases c : q.before p = true
  · exact ⟨.st q p, by unfold stretchD; rw [if_neg h, if_pos c]; rfl, rfl, c, .inr ⟨rfl, rfl⟩⟩
  · have c2 : q.before p = false := by simpa using c
    exact ⟨.st p q, by unfold stretchD; rw [if_neg h, if_neg c]; rfl, rfl, bef_tri h c2, .inl ⟨rfl, rfl⟩⟩
theorem way_pick {v : Int} (h0 : 0 ≤ v) (h1 : v < 2) : ∃ w : Int, itD (.list [.int 2, .int 4]) v = some (.int w) ∧ (w = 2 ∨ w = 4) := by
  rcases (show v = 0 ∨ v = 1 by omega) with rfl | rfl
  · exact ⟨2, rfl, .inl rfl⟩
  · exact ⟨4, rfl, .inr rfl⟩
theorem ok_law_straight_ones (T : Tx K mg) : FnOk P w K mg base (L2.CX P w) 5 T.a_law_straight_ones T.fd_law_straight_ones ["_law_feed_here"] (spD K c_law_straight_ones) := by
  refine Fun.okD T.F_law_straight_ones sc_law_straight_ones (fun ss M R Rx h => ?_) (fun cdv A outer s H E ss M R Rx h hr tk => ?_)
  · obtain ⟨fa, F, i, n, M0, rfl, _⟩ := h
    rfl
  · obtain ⟨fa, F, i, n, M0, rfl, rfl, hi, ⟨hk, hn0⟩, hR⟩ := h
    have hn := Nat.le_of_ble_eq_true hn0
    -- p = point(feed_here)
    refine b_cons (s_setQ 1 sc_law_straight_ones.nd (q_call (ok_law_point T) (hr.mono (by decide)) T.g_law_point T.F_law_point.kp T.b_law_point tk (ea_cons (e_var 0 rfl) ea_nil) ⟨fa, F, i, n, M0, rfl, rfl, hi, ⟨hk, Nat.ble_eq_true_of_le (by omega)⟩, fun p F1 hp hk1 => ?_⟩))
    have a0 := Fd.v_nn F1 (m := 5) (by decide)
    have a1 := Fd.v_lt F1 (m := 5) (by decide)
    -- a = draw(feed_here, 5)
    refine b_cons (s_set 2 sc_law_straight_ones.nd (e_call (ok_law_draw T) (hr.mono (by decide)) T.g_law_draw T.F_law_draw.kp T.b_law_draw tk (ea_cons (e_var 0 rfl) (ea_cons e_int ea_nil)) (dr_ok hi (by walk_at "fk") (h1 := by walk_at "ob"))) ?_)
    have hk2 : Fk (n + 3) (F1.nx 5) := hk1.nx 5
    generalize F1.v 5 = av at *
    generalize F1.nx 5 = F2 at *
    have hqa : Pb 10 (⟨((4 : Int) : Rat), ((av : Int) : Rat)⟩ : Pt) := ⟨fb_int (by decide) (by decide), fb_int (by show _ < 1024; omega) (by decide)⟩
    -- q = together(p, ((4, 1), (a, 1)))
    refine b_cons (s_set 3 sc_law_straight_ones.nd (e_call (ok_together T) (hr.mono (by decide)) T.g_together T.F_together.kp T.b_together tk (ea_cons (e_var 1 rfl) (ea_cons (e_tup (ds := [_, _]) (ea_cons (e_tup (ds := [_, _]) (ea_cons e_int (ea_cons e_int ea_nil))) (ea_cons (e_tup (ds := [_, _]) (ea_cons (e_var 2 rfl) (ea_cons e_int ea_nil))) ea_nil))) ea_nil)) ⟨p, ⟨((4 : Int) : Rat), ((av : Int) : Rat)⟩, 10, 10, rfl, hp, hqa, by decide, rfl, rfl⟩) ?_)
    have b0 := Fd.v_nn F2 (m := 2) (by decide)
    have b1 := Fd.v_lt F2 (m := 2) (by decide)
    have c0 := Fd.v_nn (F2.nx 2) (m := 9) (by decide)
    have c1 := Fd.v_lt (F2.nx 2) (m := 9) (by decide)
    have hk3 : Fk (n + 4) (F2.nx 2) := hk2.nx 2
    have hk4 : Fk (n + 5) ((F2.nx 2).nx 9) := hk3.nx 9
    obtain ⟨w, hw, hw2⟩ := way_pick b0 b1
    -- way, high = ([2, 4][draw(feed_here, 2)], draw(feed_here, 9) - 2)
    refine b_cons (s_par 8 9 rfl sc_law_straight_ones.nd (ea_cons (e_ix (e_lst (ds := [_, _]) (ea_cons e_int (ea_cons e_int ea_nil))) (e_call (ok_law_draw T) (hr.mono (by decide)) T.g_law_draw T.F_law_draw.kp T.b_law_draw tk (ea_cons (e_var 0 rfl) (ea_cons e_int ea_nil)) (dr_ok hi hk2 (h1 := by walk_at "ob"))) hw) (ea_cons (e_sub (e_call (ok_law_draw T) (hr.mono (by decide)) T.g_law_draw T.F_law_draw.kp T.b_law_draw tk (ea_cons (e_var 0 rfl) (ea_cons e_int ea_nil)) (dr_ok hi hk3 (h1 := by walk_at "ob"))) e_int) ea_nil)) ?_)
    generalize hh0 : (F2.nx 2).v 9 - 2 = h0
    generalize (F2.nx 2).nx 9 = F3 at *
    have hra : Pb 10 (⟨((w : Int) : Rat), ((h0 : Int) : Rat)⟩ : Pt) := ⟨fb_int (by show _ < 1024; omega) (by decide), fb_int (by show _ < 1024; omega) (by decide)⟩
    -- r = together(p, ((way, 1), (high, 1)))
    refine b_cons (s_set 4 sc_law_straight_ones.nd (e_call (ok_together T) (hr.mono (by decide)) T.g_together T.F_together.kp T.b_together tk (ea_cons (e_var 1 rfl) (ea_cons (e_tup (ds := [_, _]) (ea_cons (e_tup (ds := [_, _]) (ea_cons (e_var 8 rfl) (ea_cons e_int ea_nil))) (ea_cons (e_tup (ds := [_, _]) (ea_cons (e_var 9 rfl) (ea_cons e_int ea_nil))) ea_nil))) ea_nil)) ⟨p, ⟨((w : Int) : Rat), ((h0 : Int) : Rat)⟩, 10, 10, rfl, hp, hra, by decide, rfl, rfl⟩) ?_)
    have hpr : Pb 21 (p.add ⟨((w : Int) : Rat), ((h0 : Int) : Rat)⟩) := pb_add hp hra
    have w4 : ∀ x : Int, ((x : Int) : Rat) = 4 → x = 4 := fun x z => Rat.intCast_inj.mp (z.trans rfl)
    -- if r == q:
    refine b_cut (fun γ' M' => M' = M0.set i (fa, fdM F3) ∧ ∃ h : Int, γ' = [.ob fa, .d (pt p), .d (.int av), .d (pt (p.add ⟨((4 : Int) : Rat), ((av : Int) : Rat)⟩)), .d (pt (p.add ⟨((w : Int) : Rat), ((h : Int) : Rat)⟩)), .no, .no, .no, .d (.int w), .d (.int h)] ∧ ¬ (w = 4 ∧ h = av) ∧ -2 ≤ h ∧ h ≤ 10) (s_if (t_eq (d1 := pt (p.add ⟨((w : Int) : Rat), ((h0 : Int) : Rat)⟩)) (d2 := pt (p.add ⟨((4 : Int) : Rat), ((av : Int) : Rat)⟩)) hr (e_var 4 rfl) (e_var 3 rfl) .d .d rfl rfl (pt_eqv _ _)) (fun h1 => ?_) (fun h1 => b_nil ⟨rfl, h0, rfl, fun z => ?_, by omega, by omega⟩)) ?_
    · have h1 := of_decide_eq_true h1
      obtain ⟨z1, z2⟩ := addc_eq.mp h1
      have z1 : w = 4 := Rat.intCast_inj.mp z1
      have z2 : h0 = av := Rat.intCast_inj.mp z2
      have e3 : (p.add ⟨((w : Int) : Rat), ((h0 : Int) : Rat)⟩).add ⟨((0 : Int) : Rat), ((3 : Int) : Rat)⟩ = p.add ⟨((w : Int) : Rat), ((h0 + 3 : Int) : Rat)⟩ := by
        have e0 : ((0 : Int) : Rat) = 0 := rfl
        rw [Rat.intCast_add]
        apply pt_ext
        · show p.x + (w : Rat) + ((0 : Int) : Rat) = p.x + (w : Rat)
          rw [e0]; grind
        · show p.y + (h0 : Rat) + ((3 : Int) : Rat) = p.y + ((h0 : Rat) + ((3 : Int) : Rat))
          grind
      -- r = together(r, ((0, 1), (3, 1)))
      refine b_cons (s_set 4 sc_law_straight_ones.nd (e_is (e_call (ok_together T) (hr.mono (by decide)) T.g_together T.F_together.kp T.b_together tk (ea_cons (e_var 4 rfl) (ea_cons (e_tup (ds := [_, _]) (ea_cons (e_tup (ds := [_, _]) (ea_cons e_int (ea_cons e_int ea_nil))) (ea_cons (e_tup (ds := [_, _]) (ea_cons e_int (ea_cons e_int ea_nil))) ea_nil))) ea_nil)) ⟨_, ⟨((0 : Int) : Rat), ((3 : Int) : Rat)⟩, 21, 2, rfl, hpr, ⟨fb_int (by decide) (by decide), fb_int (by decide) (by decide)⟩, by decide, rfl, rfl⟩) (congrArg (fun z => S.d (pt z)) e3)) ?_)
      -- high = high + 3
      refine b_cons (s_set 9 sc_law_straight_ones.nd (e_add (e_var 9 rfl) e_int) ?_)
      exact b_nil ⟨rfl, h0 + 3, rfl, fun z => by omega, by omega, by omega⟩
    · exact (of_decide_eq_false h1) (by rw [z.1, z.2])
    rintro _ _ ⟨rfl, h, rfl, hne, hl1, hl2⟩
    have hwr : ((w : Int) : Rat) = 2 ∨ ((w : Int) : Rat) = 4 := hw2.imp (fun e => by rw [e]; rfl) (fun e => by rw [e]; rfl)
    have hner : ¬ (((w : Int) : Rat) = 4 ∧ ((h : Int) : Rat) = ((av : Int) : Rat)) := fun z => hne ⟨w4 _ z.1, Rat.intCast_inj.mp z.2⟩
    have hrb : Pb 10 (⟨((w : Int) : Rat), ((h : Int) : Rat)⟩ : Pt) := ⟨fb_int (by show _ < 1024; omega) (by decide), fb_int (by show _ < 1024; omega) (by decide)⟩
    have hpr2 : Pb 21 (p.add ⟨((w : Int) : Rat), ((h : Int) : Rat)⟩) := pb_add hp hrb
    have hpq2 : Pb 21 (p.add ⟨((4 : Int) : Rat), ((av : Int) : Rat)⟩) := pb_add hp hqa
    have g0 := Fd.v_nn F3 (m := 3) (by decide)
    -- gap = draw(feed_here, 3) == 0 and way == 2
    refine b_cons (s_set 5 sc_law_straight_ones.nd (e_and (e_eqI hr (e_call (ok_law_draw T) (hr.mono (by decide)) T.g_law_draw T.F_law_draw.kp T.b_law_draw tk (ea_cons (e_var 0 rfl) (ea_cons e_int ea_nil)) (dr_ok hi hk4 (h1 := by walk_at "ob"))) e_int) (fun hb0 => (e_one (e_eqI hr (e_var 8 rfl) e_int)))) ?_)
    have hk5 : Fk (n + 6) (F3.nx 3) := hk4.nx 3
    obtain ⟨gap, hgap⟩ : ∃ gap : Bool, (decide (F3.v 3 = 0) && decide (w = 2)) = gap := ⟨_, rfl⟩
    rw [hgap]
    have hg2 : gap = true → w = 2 := fun e => by
      rw [e, Bool.and_eq_true, decide_eq_true_eq, decide_eq_true_eq] at hgap
      exact hgap.2
    clear hgap
    generalize F3.nx 3 = F4 at *
    -- begin = r
    refine b_cons (s_set 6 sc_law_straight_ones.nd (e_var 4 rfl) ?_)
    -- if gap:
    refine b_cut (fun γ' M' => M' = M0.set i (fa, fdM F4) ∧ ∃ b : Int, γ' = [.ob fa, .d (pt p), .d (.int av), .d (pt (p.add ⟨((4 : Int) : Rat), ((av : Int) : Rat)⟩)), .d (pt (p.add ⟨((w : Int) : Rat), ((h : Int) : Rat)⟩)), .d (.bool gap), .d (pt (p.add ⟨((b : Int) : Rat), ((h : Int) : Rat)⟩)), .no, .d (.int w), .d (.int h)] ∧ (gap = true → b = 3) ∧ (gap = false → b = w)) (s_if (t_val (e_var 5 rfl)) (fun h1 => ?_) (fun h1 => b_nil ⟨rfl, w, rfl, fun z => (by rw [h1] at z; cases z), fun _ => rfl⟩)) ?_
    · have e3 : (p.add ⟨((w : Int) : Rat), ((h : Int) : Rat)⟩).add ⟨((1 : Int) : Rat), ((0 : Int) : Rat)⟩ = p.add ⟨((w + 1 : Int) : Rat), ((h : Int) : Rat)⟩ := by
        have e0 : ((0 : Int) : Rat) = 0 := rfl
        rw [Rat.intCast_add]
        apply pt_ext
        · show p.x + (w : Rat) + ((1 : Int) : Rat) = p.x + ((w : Rat) + ((1 : Int) : Rat))
          grind
        · show p.y + (h : Rat) + ((0 : Int) : Rat) = p.y + (h : Rat)
          rw [e0]; grind
      -- begin = together(r, ((1, 1), (0, 1)))
      refine b_cons (s_set 6 sc_law_straight_ones.nd (e_is (e_call (ok_together T) (hr.mono (by decide)) T.g_together T.F_together.kp T.b_together tk (ea_cons (e_var 4 rfl) (ea_cons (e_tup (ds := [_, _]) (ea_cons (e_tup (ds := [_, _]) (ea_cons e_int (ea_cons e_int ea_nil))) (ea_cons (e_tup (ds := [_, _]) (ea_cons e_int (ea_cons e_int ea_nil))) ea_nil))) ea_nil)) ⟨_, ⟨((1 : Int) : Rat), ((0 : Int) : Rat)⟩, 21, 2, rfl, hpr2, ⟨fb_int (by decide) (by decide), fb_int (by decide) (by decide)⟩, by decide, rfl, rfl⟩) (congrArg (fun z => S.d (pt z)) e3)) ?_)
      exact b_nil ⟨rfl, w + 1, rfl, fun _ => by have := hg2 h1; omega, fun z => (by rw [h1] at z; cases z)⟩
    rintro _ _ ⟨rfl, b, rfl, hb1, hb2⟩
    have hbb : (w = 2 → b = 2 ∨ b = 3) ∧ (w = 4 → b = 4) := by
      cases gap with
      | true =>
        have := hg2 rfl
        have := hb1 rfl
        exact ⟨fun _ => .inr this, fun z => by omega⟩
      | false =>
        have := hb2 rfl
        exact ⟨fun z => .inl (by omega), fun z => by omega⟩
    have b4 : b ≤ 4 ∧ 2 ≤ b := by rcases hw2 with z | z; rcases hbb.1 z with y | y <;> omega; have := hbb.2 z; omega
    have bef0 : ∀ x y : Int, 0 < x → p.before (p.add ⟨((x : Int) : Rat), ((y : Int) : Rat)⟩) = true := fun x y hx => by
      have := (bef_add p 0 0 ((x : Int) : Rat) ((y : Int) : Rat)).mpr (.inl (Rat.intCast_pos.mpr hx))
      rwa [show p.add ⟨0, 0⟩ = p from pt_ext (by simp only [Pt.add]; grind) (by simp only [Pt.add]; grind)] at this
    have hpb2 : Pb 21 (p.add ⟨((b : Int) : Rat), ((h : Int) : Rat)⟩) := pb_add hp (show Pb 10 (⟨((b : Int) : Rat), ((h : Int) : Rat)⟩ : Pt) from ⟨fb_int (by show _ < 1024; omega) (by decide), hrb.2⟩)
    have hnq : p.add ⟨((b : Int) : Rat), ((h : Int) : Rat)⟩ ≠ p.add ⟨((4 : Int) : Rat), ((av : Int) : Rat)⟩ := fun z => by
      obtain ⟨z1, z2⟩ := addc_eq.mp z
      have z1 : b = 4 := Rat.intCast_inj.mp z1
      have z2 : h = av := Rat.intCast_inj.mp z2
      rcases hw2 with y | y
      · rcases hbb.1 y with x | x <;> omega
      · exact hne ⟨y, z2⟩
    obtain ⟨B, eB, Bst, Bok, Bdot, Bpc, Bw⟩ : ∃ B : Pc, stretchD (p.add ⟨((b : Int) : Rat), ((h : Int) : Rat)⟩) (p.add ⟨((4 : Int) : Rat), ((av : Int) : Rat)⟩) = B.D ∧ B.isSt = true ∧ B.ok ∧ p.before (dotP B) = true ∧ B.pc 300 300 ∧ (w = 2 → B = .st (p.add ⟨((b : Int) : Rat), ((h : Int) : Rat)⟩) (p.add ⟨((4 : Int) : Rat), ((av : Int) : Rat)⟩)) := by
      have m1 : Pb 300 (p.add ⟨((b : Int) : Rat), ((h : Int) : Rat)⟩) := hpb2.mono (by decide)
      have m2 : Pb 300 (p.add ⟨((4 : Int) : Rat), ((av : Int) : Rat)⟩) := hpq2.mono (by decide)
      by_cases c : w = 2
      · have hbf : (p.add ⟨((b : Int) : Rat), ((h : Int) : Rat)⟩).before (p.add ⟨((4 : Int) : Rat), ((av : Int) : Rat)⟩) = true := (bef_add p _ _ _ _).mpr (.inl (Rat.intCast_lt_intCast.mpr (by rcases hbb.1 c with x | x <;> omega)))
        exact ⟨_, st_bef hbf, rfl, hbf, bef0 b h (by omega), ⟨m1, m2⟩, fun _ => rfl⟩
      · obtain ⟨B, e1, e2, e3, e4⟩ := st_any hnq
        refine ⟨B, e1, e2, e3, ?_, ?_, fun z => absurd z c⟩
        · rcases e4 with ⟨x, _⟩ | ⟨x, _⟩ <;> rw [x]
          · exact bef0 b h (by omega)
          · exact bef0 4 av (by decide)
        · cases B with
          | st u v =>
            rcases e4 with ⟨x, y⟩ | ⟨x, y⟩ <;> (have x : u = _ := x; have y : v = _ := y; rw [x, y])
            · exact ⟨m1, m2⟩
            · exact ⟨m2, m1⟩
          | _ => cases e2
    have hA := st_bef (bef0 w h (by rcases hw2 with z | z <;> omega))
    have hQ := st_bef (bef0 4 av (by decide))
    -- due = way == 2 and a == 2 * high and (not gap)
    refine b_cons (s_set 7 sc_law_straight_ones.nd (e_and (e_eqI hr (e_var 8 rfl) e_int) (fun hb0 => (e_and (e_eqI hr (e_var 2 rfl) (e_mul e_int (e_var 9 rfl) (mul_ok (a := 2) (b := 5) (by decide) (show h.natAbs < 32 by omega)))) (fun hb1 => (e_one (e_not (e_var 5 rfl))))))) ?_)
    have hdu : chB [.st p (p.add ⟨((w : Int) : Rat), ((h : Int) : Rat)⟩), B] (.st p (p.add ⟨((4 : Int) : Rat), ((av : Int) : Rat)⟩)) = (decide (w = 2) && (decide (av = 2 * h) && !gap)) := by
      have w2 : ∀ x : Int, ((x : Int) : Rat) = 2 ↔ x = 2 := fun x => ⟨fun z => Rat.intCast_inj.mp (z.trans rfl), fun z => by rw [z]; rfl⟩
      have w3 : ((av : Int) : Rat) = 2 * ((h : Int) : Rat) ↔ av = 2 * h := by
        have e2 : (2 : Rat) = ((2 : Int) : Rat) := rfl
        rw [e2, ← Rat.intCast_mul]
        exact Rat.intCast_inj
      by_cases c : w = 2
      · have hb3 : ((b : Int) : Rat) = 2 ∨ ((b : Int) : Rat) = 3 := (hbb.1 c).imp (fun z => by rw [z]; rfl) (fun z => by rw [z]; rfl)
        refine (s_two hwr hner hb3 (fun _ => Bw c)).trans ?_
        rw [Bool.eq_iff_iff, decide_eq_true_eq, Bool.and_eq_true, Bool.and_eq_true, decide_eq_true_eq, decide_eq_true_eq, Bool.not_eq_true', w2, w2, w3]
        cases gap with
        | true =>
          have := hb1 rfl
          exact ⟨fun ⟨_, _, z⟩ => by omega, fun ⟨_, _, z⟩ => nomatch z⟩
        | false =>
          have := hb2 rfl
          exact ⟨fun ⟨x, y, z⟩ => ⟨x, y, rfl⟩, fun ⟨x, y, _⟩ => ⟨x, y, by omega⟩⟩
      · refine (s_two (b := 2) hwr hner (.inl rfl) (fun z => absurd ((w2 w).mp z) c)).trans ?_
        rw [decide_eq_false (fun z => c ((w2 w).mp z.1)), decide_eq_false c, Bool.false_and]
    -- return [[stretch(p, r), stretch(begin, q)], stretch(p, q), [(0, 0), (1, 0)], due]
    refine b_cons (s_ret (e_lst (ds := [.list [(Pc.st p (p.add ⟨((w : Int) : Rat), ((h : Int) : Rat)⟩)).D, B.D], (Pc.st p (p.add ⟨((4 : Int) : Rat), ((av : Int) : Rat)⟩)).D, lnkD [0, 1], .bool (decide (w = 2) && (decide (av = 2 * h) && !gap))]) (ea_cons (e_lst (ds := [_, _]) (ea_cons (e_is (e_call (ok_stretch T) (hr.mono (by decide)) T.g_stretch T.F_stretch.kp T.b_stretch tk (ea_cons (e_var 1 rfl) (ea_cons (e_var 4 rfl) ea_nil)) ⟨p, _, 10, 21, rfl, hp, hpr2, by decide, rfl, rfl⟩) (congrArg S.d hA)) (ea_cons (e_is (e_call (ok_stretch T) (hr.mono (by decide)) T.g_stretch T.F_stretch.kp T.b_stretch tk (ea_cons (e_var 6 rfl) (ea_cons (e_var 3 rfl) ea_nil)) ⟨_, _, 21, 21, rfl, hpb2, hpq2, by decide, rfl, rfl⟩) (congrArg S.d eB)) ea_nil))) (ea_cons (e_is (e_call (ok_stretch T) (hr.mono (by decide)) T.g_stretch T.F_stretch.kp T.b_stretch tk (ea_cons (e_var 1 rfl) (ea_cons (e_var 3 rfl) ea_nil)) ⟨p, _, 10, 21, rfl, hp, hpq2, by decide, rfl, rfl⟩) (congrArg S.d hQ)) (ea_cons (e_lst (ds := [_, _]) (ea_cons (e_tup (ds := [_, _]) (ea_cons e_int (ea_cons e_int ea_nil))) (ea_cons (e_tup (ds := [_, _]) (ea_cons e_int (ea_cons e_int ea_nil))) ea_nil))) (ea_cons (e_var 7 rfl) ea_nil))))) ?_)
    exact hR p _ _ _ B _ F4 ⟨hwr, hner, Bst, Bdot, Bok, Bpc, ⟨hp.mono (by decide), hpr2.mono (by decide), hpq2.mono (by decide)⟩, hdu⟩ (hk5.mono (by omega))

def c_law_left : Con := fun ss M R _ => ∃ v : Pt, ss = [.d (pt v)] ∧ R (.d (pt ⟨-v.y, v.x⟩)) M
theorem neg_fr (y : Rat) : PyData.tuple [.int (0 - y.num), .int y.den] = fr (-y) := by unfold fr; rw [Rat.neg_num, Rat.neg_den, Int.zero_sub]
theorem ok_law_left (T : Tx K mg) : FnOk P w K mg base (L2.CX P w) 1 T.a_law_left T.fd_law_left ["_law_v"] (spD K c_law_left) := by
  refine Fun.okD T.F_law_left sc_law_left (fun ss M R Rx h => ?_) (fun cdv A outer s H E ss M R Rx h hr tk => ?_)
  · obtain ⟨v, rfl, _⟩ := h
    rfl
  · obtain ⟨v, rfl, hR⟩ := h
    -- return ((0 - v[1][0], v[1][1]), v[0])
    refine b_cons (s_ret (e_tup (ds := [fr (-v.y), fr v.x]) (ea_cons (e_is (e_tup (ds := [_, _]) (ea_cons (e_sub e_int (e_ix (d := fr v.y) (d' := .int v.y.num) (e_ix (d := pt v) (d' := fr v.y) (e_var 0 rfl) e_int rfl) e_int rfl)) (ea_cons (e_ix (d := fr v.y) (d' := .int v.y.den) (e_ix (d := pt v) (d' := fr v.y) (e_var 0 rfl) e_int rfl) e_int rfl) ea_nil))) (congrArg S.d (neg_fr _))) (ea_cons (e_ix (d := pt v) (d' := fr v.x) (e_var 0 rfl) e_int rfl) ea_nil))) ?_)
    exact hR

def c_minus : Con := fun ss M R _ => ∃ (x y : Rat) (n m : Nat), ss = [.d (fr x), .d (fr y)] ∧ Fb n x ∧ Fb m y ∧ n + m ≤ 9000 ∧ R (.d (fr (x - y))) M
theorem ok_minus (T : Tx K mg) : FnOk P w K mg base (L2.CX P w) 3 T.a_minus T.fd_minus ["one", "other"] (spD K c_minus) := by
  refine Fun.okD T.F_minus sc_minus (fun ss M R Rx h => ?_) (fun cdv A outer s H E ss M R Rx h hr tk => ?_)
  · obtain ⟨x, y, n, m, rfl, _⟩ := h
    rfl
  · obtain ⟨x, y, n, m, rfl, hx, hy, hnm, hR⟩ := h
    refine b_cons (s_ret (e_call (ok_ratio T) (hr.mono (by decide)) T.g_ratio T.F_ratio.kp T.b_ratio tk (ea_cons (e_sub (e_mul (e_ix (d := fr x) (e_var 0 rfl) e_int rfl) (e_ix (d := fr y) (e_var 1 rfl) e_int rfl) (nd_mul hx hy hnm)) (e_mul (e_ix (d := fr y) (e_var 1 rfl) e_int rfl) (e_ix (d := fr x) (e_var 0 rfl) e_int rfl) (nd_mul hy hx (by omega)))) (ea_cons (e_mul (e_ix (d := fr x) (e_var 0 rfl) e_int rfl) (e_ix (d := fr y) (e_var 1 rfl) e_int rfl) (dd_mul hx hy hnm)) ea_nil)) ⟨_, _, rfl, fun h => absurd h (dd_ne x y), fun _ => ⟨dd_lt hx hy hnm, rfl, rfl⟩⟩) ?_)
    rw [← sub_eq_divInt]
    exact hR

def c_off : Con := fun ss M R _ => ∃ (p q : Pt) (n m : Nat), ss = [.d (pt p), .d (pt q)] ∧ Pb n p ∧ Pb m q ∧ n + m ≤ 9000 ∧ R (.d (pt (p.sub q))) M
theorem ok_off (T : Tx K mg) : FnOk P w K mg base (L2.CX P w) 4 T.a_off T.fd_off ["p", "q"] (spD K c_off) := by
  refine Fun.okD T.F_off sc_off (fun ss M R Rx h => ?_) (fun cdv A outer s H E ss M R Rx h hr tk => ?_)
  · obtain ⟨p, q, n, m, rfl, _⟩ := h
    rfl
  · obtain ⟨p, q, n, m, rfl, h0, h1, h2, hR⟩ := h
    -- return (minus(p[0], q[0]), minus(p[1], q[1]))
    refine b_cons (s_ret (e_tup (ds := [_, _]) (ea_cons (e_call (ok_minus T) (hr.mono (by decide)) T.g_minus T.F_minus.kp T.b_minus tk (ea_cons (e_ix (e_var 0 rfl) e_int rfl) (ea_cons (e_ix (e_var 1 rfl) e_int rfl) ea_nil)) ⟨_, _, _, _, rfl, by walk_at "fb", by walk_at "fb", by first | omega | decide, rfl, rfl⟩) (ea_cons (e_call (ok_minus T) (hr.mono (by decide)) T.g_minus T.F_minus.kp T.b_minus tk (ea_cons (e_ix (e_var 0 rfl) e_int rfl) (ea_cons (e_ix (e_var 1 rfl) e_int rfl) ea_nil)) ⟨_, _, _, _, rfl, by walk_at "fb", by walk_at "fb", by first | omega | decide, rfl, rfl⟩) ea_nil))) ?_)
    exact hR

/-- pieces, one piece more, links for it: what papers tell of it -/
structure Bt (zs : List Pc) (z : Pc) (ls : List Nat) (due : Bool) : Prop where
  ok : ∀ y ∈ zs, y.pc 300 300
  zp : z.pc 300 300
  own : ∀ y ∈ zs, chB [y] y = true
  few : zs ≠ [] ∧ zs.length ≤ 2
  lk : ∀ ls' due', LnkO ls due ls' due' → ls' ≠ [] ∧ ls'.length ≤ 3 ∧ (∀ i ∈ ls', i < zs.length) ∧ (z.isSt = true → ls'.Nodup) ∧ chB (ls'.map fun i => zs.getD i (.dot PtZ)) z = due'
theorem lnk01 {due : Bool} {ls' : List Nat} {due' : Bool} (h : LnkO [0, 1] due ls' due') : (ls' = [0, 1] ∧ due' = due) ∨ (ls' = [0] ∧ due' = false) ∨ (ls' = [1, 0] ∧ due' = false) := by
  rcases h with ⟨rfl, rfl⟩ | ⟨_, rfl, rfl⟩ | ⟨_, rfl, rfl⟩
  · exact .inl ⟨rfl, rfl⟩
  · exact .inr (.inl ⟨rfl, rfl⟩)
  · exact .inr (.inr ⟨rfl, rfl⟩)
theorem lnk0 {due : Bool} {ls' : List Nat} {due' : Bool} (h : LnkO [0] due ls' due') : ls' = [0] ∧ due' = due := by
  rcases h with ⟨rfl, rfl⟩ | ⟨h, rfl, rfl⟩ | ⟨h, rfl, rfl⟩
  · exact ⟨rfl, rfl⟩
  · exact absurd h (by decide)
  · exact absurd rfl h
theorem lnk010 {due : Bool} {ls' : List Nat} {due' : Bool} (h : LnkO [0, 1, 0] due ls' due') : (ls' = [0, 1, 0] ∧ due' = due) ∨ (ls' = [0, 1] ∧ due' = false) := by
  rcases h with ⟨rfl, rfl⟩ | ⟨_, rfl, rfl⟩ | ⟨h, rfl, rfl⟩
  · exact .inl ⟨rfl, rfl⟩
  · exact .inr ⟨rfl, rfl⟩
  · exact absurd rfl h
theorem bt_st {p : Pt} {w h a : Rat} {B : Pc} {due : Bool} (o : StO p w h a B due) : Bt [.st p (p.add ⟨w, h⟩), B] (.st p (p.add ⟨4, a⟩)) [0, 1] due := by
  have h0 : p.before (p.add ⟨w, h⟩) = true := by
    have := (bef_add p 0 0 w h).mpr (.inl (by rcases o.hw with e | e <;> rw [e] <;> decide +kernel))
    rwa [show p.add ⟨0, 0⟩ = p from pt_ext (by simp only [Pt.add]; grind) (by simp only [Pt.add]; grind)] at this
  refine ⟨fun y hy => ?_, ⟨o.pp.1, o.pp.2.2⟩, fun y hy => ?_, ⟨(nomatch ·), Nat.le_refl 2⟩, fun ls' due' hl => ?_⟩
  · rcases List.mem_cons.mp hy with rfl | hy
    · exact ⟨o.pp.1, o.pp.2.1⟩
    · rw [List.mem_singleton.mp hy]
      exact o.bp
  · rcases List.mem_cons.mp hy with rfl | hy
    · exact st_self h0
    · rw [List.mem_singleton.mp hy]
      have h1 := o.bs
      have h2 := o.bo
      cases B with
      | st u v => exact st_self h2
      | _ => cases h1
  · rcases lnk01 hl with ⟨rfl, rfl⟩ | ⟨rfl, rfl⟩ | ⟨rfl, rfl⟩
    · exact ⟨(nomatch ·), by decide, (show ∀ i ∈ [0, 1], i < 2 by decide), fun _ => by decide, o.du⟩
    · exact ⟨(nomatch ·), by decide, (show ∀ i ∈ [0], i < 2 by decide), fun _ => by decide, s_no1 o.hw o.ne⟩
    · exact ⟨(nomatch ·), by decide, (show ∀ i ∈ [1, 0], i < 2 by decide), fun _ => by decide, s_no2 o.bs o.bb⟩
section
variable {c : Pt} {x y : Rat}
theorem bt_ring {o : Pt} {due : Bool} (h1 : Pb 300 c) (h2 : Pb 300 (c.add ⟨x, y⟩)) (ho : Pb 300 o) (h : chB [.ring c (c.add ⟨x, y⟩)] (.ring c o) = due) : Bt [.ring c (c.add ⟨x, y⟩)] (.ring c o) [0] due := by
  refine ⟨fun y hy => ?_, ⟨h1, ho⟩, fun y hy => ?_, ⟨(nomatch ·), (show 1 ≤ 2 by decide)⟩, fun ls' due' hl => ?_⟩
  · rw [List.mem_singleton.mp hy]
    exact ⟨h1, h2⟩
  · rw [List.mem_singleton.mp hy]
    exact ring_self rfl
  · obtain ⟨rfl, rfl⟩ := lnk0 hl
    exact ⟨(nomatch ·), by decide, (show ∀ i ∈ [0], i < 1 by decide), (nomatch ·), h⟩
theorem bt_halves (hv : 0 < x * x + y * y) {z : Pc} {ls : List Nat} {due : Bool} (h1 : Pb 300 c) (h2 : Pb 300 (c.add ⟨y, -x⟩)) (h3 : Pb 300 (c.add ⟨-y, x⟩)) (hz : z.pc 300 300)
    (h : ∀ ls' due', LnkO ls due ls' due' → ls' ≠ [] ∧ ls'.length ≤ 3 ∧ (∀ i ∈ ls', i < 2) ∧ (z.isSt = true → ls'.Nodup) ∧ chB (ls'.map fun i => [halfA c x y, halfB c x y].getD i (.dot PtZ)) z = due') : Bt [halfA c x y, halfB c x y] z ls due := by
  refine ⟨fun y hy => ?_, hz, fun y hy => ?_, ⟨(nomatch ·), Nat.le_refl 2⟩, h⟩
  · rcases List.mem_cons.mp hy with rfl | hy
    · exact ⟨h1, h2, h3⟩
    · rw [List.mem_singleton.mp hy]
      exact ⟨h1, h3, h2⟩
  · rcases List.mem_cons.mp hy with rfl | hy
    · exact arc_self (halfA_ok hv)
    · rw [List.mem_singleton.mp hy]
      exact arc_self (halfB_ok hv)
theorem bt_arcs (hv : 0 < x * x + y * y) (h1 : Pb 300 c) (h2 : Pb 300 (c.add ⟨y, -x⟩)) (h3 : Pb 300 (c.add ⟨-y, x⟩)) {o : Pt} {due : Bool} (ho : Pb 300 o)
    (h : (o = c.add ⟨x, y⟩ ∧ due = true) ∨ (o = c.add ⟨2 * x, 2 * y⟩ ∧ due = false)) : Bt [halfA c x y, halfB c x y] (.ring c o) [0, 1, 0] due := by
  refine bt_halves hv h1 h2 h3 ⟨h1, ho⟩ fun ls' due' hl => ?_
  rcases lnk010 hl with ⟨rfl, rfl⟩ | ⟨rfl, rfl⟩
  · refine ⟨(nomatch ·), by decide, by decide, (nomatch ·), ?_⟩
    rcases h with ⟨rfl, rfl⟩ | ⟨rfl, rfl⟩
    · exact ring_three hv
    · exact wide_no hv (.inl rfl)
  · refine ⟨(nomatch ·), by decide, by decide, (nomatch ·), ?_⟩
    rcases h with ⟨rfl, rfl⟩ | ⟨rfl, rfl⟩
    · exact ring_twoH hv
    · exact wide_no hv (.inl rfl)
theorem bt_half (hv : 0 < x * x + y * y) (h1 : Pb 300 c) (h2 : Pb 300 (c.add ⟨y, -x⟩)) (h3 : Pb 300 (c.add ⟨-y, x⟩)) (h4 : Pb 300 (c.add ⟨x, y⟩)) (h5 : Pb 300 (c.add ⟨-x, -y⟩)) :
    Bt [halfA c x y, halfB c x y] (.arc c (c.add ⟨x, y⟩) (c.add ⟨-x, -y⟩)) [0, 1] true := by
  refine bt_halves hv h1 h2 h3 ⟨h1, h4, h5⟩ fun ls' due' hl => ?_
  rcases lnk01 hl with ⟨rfl, rfl⟩ | ⟨rfl, rfl⟩ | ⟨rfl, rfl⟩
  · exact ⟨(nomatch ·), by decide, by decide, (nomatch ·), half_two hv⟩
  · exact ⟨(nomatch ·), by decide, by decide, (nomatch ·), half_one hv⟩
  · exact ⟨(nomatch ·), by decide, by decide, (nomatch ·), half_back hv⟩
end
def c_law_round_ones : Con := fun ss M R _ => ∃ (fa : Addr) (F : Fd) (i n : Nat) (M0 : MM), ss = [.ob fa] ∧ M = M0.set i (fa, fdM F) ∧ i < M0.length ∧ (Fk n F ∧ Nat.ble n 10000 = true) ∧
  ∀ (zs : List Pc) (z : Pc) (ls : List Nat) (due : Bool) (F' : Fd), Bt zs z ls due → Fk (n + 10) F' → R (.d (.list [.list (zs.map Pc.D), z.D, lnkD ls, .bool due])) (M0.set i (fa, fdM F'))
theorem by_pick {v : Pt} {k : Int} (h0 : 0 ≤ k) (h1 : k < 2) : ∃ o : Pt, itD (.list [pt ⟨((0 : Int) : Rat), ((0 : Int) : Rat)⟩, pt v]) k = some (pt o) ∧ ((k = 0 ∧ o = ⟨((0 : Int) : Rat), ((0 : Int) : Rat)⟩) ∨ (k = 1 ∧ o = v)) := by
  rcases (show k = 0 ∨ k = 1 by omega) with rfl | rfl
  · exact ⟨_, rfl, .inl ⟨rfl, rfl⟩⟩
  · exact ⟨_, rfl, .inr ⟨rfl, rfl⟩⟩
theorem sq_one {x y : Rat} (hx : 1 ≤ x) : 0 < x * x + y * y := by
  have h2 : 0 ≤ y * y := by
    rcases Rat.le_total (a := 0) (b := y) with h | h
    · exact Rat.mul_nonneg h h
    · have h3 := Rat.mul_nonneg (show 0 ≤ -y by grind) (show 0 ≤ -y by grind)
      grind
  have h4 := Rat.mul_le_mul_of_nonneg_left hx (show (0 : Rat) ≤ x by grind)
  grind
theorem out_pick {c ov : Pt} {x y : Rat} {bv : Int} (h : (bv = 0 ∧ ov = ⟨((0 : Int) : Rat), ((0 : Int) : Rat)⟩) ∨ (bv = 1 ∧ ov = ⟨x, y⟩)) : (bv = 0 ∧ (c.add ⟨x, y⟩).add ov = c.add ⟨x, y⟩) ∨ (bv = 1 ∧ (c.add ⟨x, y⟩).add ov = c.add ⟨2 * x, 2 * y⟩) := by
  rcases h with ⟨rfl, rfl⟩ | ⟨rfl, rfl⟩
  · have e0 : ((0 : Int) : Rat) = 0 := rfl
    refine .inl ⟨rfl, pt_ext ?_ ?_⟩ <;> (simp only [Pt.add]; rw [e0]; grind)
  · refine .inr ⟨rfl, pt_ext ?_ ?_⟩ <;> (simp only [Pt.add]; grind)
theorem ok_law_round_ones (T : Tx K mg) : FnOk P w K mg base (L2.CX P w) 5 T.a_law_round_ones T.fd_law_round_ones ["_law_feed_here"] (spD K c_law_round_ones) := by
  refine Fun.okD T.F_law_round_ones sc_law_round_ones (fun ss M R Rx h => ?_) (fun cdv A outer s H E ss M R Rx h hr tk => ?_)
  · obtain ⟨fa, F, i, n, M0, rfl, _⟩ := h
    rfl
  · obtain ⟨fa, F, i, n, M0, rfl, rfl, hi, ⟨hk, hn0⟩, hR⟩ := h
    have hn := Nat.le_of_ble_eq_true hn0
    -- c = point(feed_here)
    refine b_cons (s_setQ 1 sc_law_round_ones.nd (q_call (ok_law_point T) (hr.mono (by decide)) T.g_law_point T.F_law_point.kp T.b_law_point tk (ea_cons (e_var 0 rfl) ea_nil) ⟨fa, F, i, n, M0, rfl, rfl, hi, ⟨hk, Nat.ble_eq_true_of_le (by omega)⟩, fun c F1 hc hk1 => ?_⟩))
    have a0 := Fd.v_nn F1 (m := 4) (by decide)
    have a1 := Fd.v_lt F1 (m := 4) (by decide)
    have hk2 : Fk (n + 3) (F1.nx 4) := hk1.nx 4
    have b0 := Fd.v_nn (F1.nx 4) (m := 7) (by decide)
    have b1 := Fd.v_lt (F1.nx 4) (m := 7) (by decide)
    have hk3 : Fk (n + 4) ((F1.nx 4).nx 7) := hk2.nx 7
    -- v = ((1 + draw(feed_here, 4), 1), (draw(feed_here, 7) - 3, 1))
    refine b_cons (s_set 2 sc_law_round_ones.nd (e_tup (ds := [_, _]) (ea_cons (e_tup (ds := [_, _]) (ea_cons (e_add e_int (e_call (ok_law_draw T) (hr.mono (by decide)) T.g_law_draw T.F_law_draw.kp T.b_law_draw tk (ea_cons (e_var 0 rfl) (ea_cons e_int ea_nil)) (dr_ok hi hk1 (h1 := by walk_at "ob")))) (ea_cons e_int ea_nil))) (ea_cons (e_tup (ds := [_, _]) (ea_cons (e_sub (e_call (ok_law_draw T) (hr.mono (by decide)) T.g_law_draw T.F_law_draw.kp T.b_law_draw tk (ea_cons (e_var 0 rfl) (ea_cons e_int ea_nil)) (dr_ok hi hk2 (h1 := by walk_at "ob"))) e_int) (ea_cons e_int ea_nil))) ea_nil))) ?_)
    obtain ⟨xi, hxi⟩ : ∃ xi : Int, 1 + F1.v 4 = xi := ⟨_, rfl⟩
    obtain ⟨yi, hyi⟩ : ∃ yi : Int, (F1.nx 4).v 7 - 3 = yi := ⟨_, rfl⟩
    rw [hxi, hyi]
    have x0 : 1 ≤ xi ∧ xi ≤ 4 := by omega
    have y0 : -3 ≤ yi ∧ yi ≤ 3 := by omega
    clear hxi hyi a0 a1 b0 b1
    generalize (F1.nx 4).nx 7 = F2 at *
    have hb : ∀ u v : Int, -8 ≤ u → u ≤ 8 → -8 ≤ v → v ≤ 8 → Pb 10 (⟨((u : Int) : Rat), ((v : Int) : Rat)⟩ : Pt) := fun u v _ _ _ _ => ⟨fb_int (by show _ < 1024; omega) (by decide), fb_int (by show _ < 1024; omega) (by decide)⟩
    have hvb := hb xi yi (by omega) (by omega) (by omega) (by omega)
    have c0 := Fd.v_nn F2 (m := 2) (by decide)
    have c1 := Fd.v_lt F2 (m := 2) (by decide)
    have hk4 : Fk (n + 5) (F2.nx 2) := hk3.nx 2
    have hxp : (1 : Rat) ≤ ((xi : Int) : Rat) := Rat.intCast_le_intCast.mpr x0.1
    have hv : 0 < ((xi : Int) : Rat) * ((xi : Int) : Rat) + ((yi : Int) : Rat) * ((yi : Int) : Rat) := sq_one hxp
    -- by = draw(feed_here, 2)
    refine b_cons (s_set 3 sc_law_round_ones.nd (e_call (ok_law_draw T) (hr.mono (by decide)) T.g_law_draw T.F_law_draw.kp T.b_law_draw tk (ea_cons (e_var 0 rfl) (ea_cons e_int ea_nil)) (dr_ok hi hk3 (h1 := by walk_at "ob"))) ?_)
    generalize F2.v 2 = bv at *
    generalize F2.nx 2 = F3 at *
    have hcv : Pb 21 (c.add ⟨((xi : Int) : Rat), ((yi : Int) : Rat)⟩) := pb_add hc hvb
    -- r = together(c, v)
    refine b_cons (s_set 4 sc_law_round_ones.nd (e_call (ok_together T) (hr.mono (by decide)) T.g_together T.F_together.kp T.b_together tk (ea_cons (e_var 1 rfl) (ea_cons (e_var 2 rfl) ea_nil)) ⟨c, ⟨((xi : Int) : Rat), ((yi : Int) : Rat)⟩, 10, 10, rfl, hc, hvb, by decide, rfl, rfl⟩) ?_)
    obtain ⟨ov, ho, ho2⟩ := by_pick (v := ⟨((xi : Int) : Rat), ((yi : Int) : Rat)⟩) c0 c1
    have hob : Pb 10 ov := by
      rcases ho2 with ⟨_, rfl⟩ | ⟨_, rfl⟩
      · exact hb 0 0 (by decide) (by decide) (by decide) (by decide)
      · exact hvb
    have hcvo : Pb 32 ((c.add ⟨((xi : Int) : Rat), ((yi : Int) : Rat)⟩).add ov) := pb_add hcv hob
    -- outer = together(r, [((0, 1), (0, 1)), v][by])
    refine b_cons (s_set 5 sc_law_round_ones.nd (e_call (ok_together T) (hr.mono (by decide)) T.g_together T.F_together.kp T.b_together tk (ea_cons (e_var 4 rfl) (ea_cons (e_ix (e_lst (ds := [_, _]) (ea_cons (e_tup (ds := [_, _]) (ea_cons (e_tup (ds := [_, _]) (ea_cons e_int (ea_cons e_int ea_nil))) (ea_cons (e_tup (ds := [_, _]) (ea_cons e_int (ea_cons e_int ea_nil))) ea_nil))) (ea_cons (e_var 2 rfl) ea_nil))) (e_var 3 rfl) ho) ea_nil)) ⟨_, ov, 21, 10, rfl, hcv, hob, by decide, rfl, rfl⟩) ?_)
    have hout := out_pick (c := c) ho2
    generalize (c.add ⟨((xi : Int) : Rat), ((yi : Int) : Rat)⟩).add ov = out at *
    have hc3 : Pb 300 c := hc.mono (by decide)
    have hcv3 : Pb 300 (c.add ⟨((xi : Int) : Rat), ((yi : Int) : Rat)⟩) := hcv.mono (by decide)
    have ho3 : Pb 300 out := hcvo.mono (by decide)
    have hk5 : Fk (n + 6) (F3.nx 2) := hk4.nx 2
    -- if draw(feed_here, 2) == 0:
    refine b_cons (s_if (t_eqI hr (e_call (ok_law_draw T) (hr.mono (by decide)) T.g_law_draw T.F_law_draw.kp T.b_law_draw tk (ea_cons (e_var 0 rfl) (ea_cons e_int ea_nil)) (dr_ok hi hk4 (h1 := by walk_at "ob"))) e_int) (fun h1 => ?_) (fun h1 => ?_))
    ·
      -- return [[('ring', c, r)], ('ring', c, outer), [(0, 0)], by == 0]
      refine b_cons (s_ret (e_lst (ds := [.list [(Pc.ring c (c.add ⟨((xi : Int) : Rat), ((yi : Int) : Rat)⟩)).D], (Pc.ring c out).D, lnkD [0], .bool (decide (bv = 0))]) (ea_cons (e_lst (ds := [_]) (ea_cons (e_tup (ds := [_, _, _]) (ea_cons e_str (ea_cons (e_var 1 rfl) (ea_cons (e_var 4 rfl) ea_nil)))) ea_nil)) (ea_cons (e_tup (ds := [_, _, _]) (ea_cons e_str (ea_cons (e_var 1 rfl) (ea_cons (e_var 5 rfl) ea_nil)))) (ea_cons (e_lst (ds := [_]) (ea_cons (e_tup (ds := [_, _]) (ea_cons e_int (ea_cons e_int ea_nil))) ea_nil)) (ea_cons (e_eqI hr (e_var 3 rfl) e_int) ea_nil))))) ?_)
      refine hR [.ring c (c.add ⟨((xi : Int) : Rat), ((yi : Int) : Rat)⟩)] _ [0] _ _ (bt_ring hc3 hcv3 ho3 ?_) (hk5.mono (by omega))
      rcases hout with ⟨e1, e2⟩ | ⟨e1, e2⟩
      · rw [e1, e2]
        exact ring_self rfl
      · rw [e1, e2]
        exact wide_no hv (.inr (.inr rfl))
    ·
      refine b_nil ?_
      generalize F3.nx 2 = F4 at *
      have hlb := hb (-yi) xi (by omega) (by omega) (by omega) (by omega)
      have hrb := hb yi (-xi) (by omega) (by omega) (by omega) (by omega)
      have hbb := hb (-xi) (-yi) (by omega) (by omega) (by omega) (by omega)
      rw [Rat.intCast_neg] at hlb hrb
      rw [Rat.intCast_neg, Rat.intCast_neg] at hbb
      have hzb := hb 0 0 (by decide) (by decide) (by decide) (by decide)
      have hcl : Pb 21 (c.add ⟨-((yi : Int) : Rat), ((xi : Int) : Rat)⟩) := pb_add hc hlb
      have hcr : Pb 21 (c.add ⟨((yi : Int) : Rat), -((xi : Int) : Rat)⟩) := pb_add hc hrb
      have hcb : Pb 21 (c.add ⟨-((xi : Int) : Rat), -((yi : Int) : Rat)⟩) := pb_add hc hbb
      have er : (⟨((0 : Int) : Rat), ((0 : Int) : Rat)⟩ : Pt).sub ⟨-((yi : Int) : Rat), ((xi : Int) : Rat)⟩ = ⟨((yi : Int) : Rat), -((xi : Int) : Rat)⟩ := by
        have e0 : ((0 : Int) : Rat) = 0 := rfl
        refine pt_ext ?_ ?_ <;> (simp only [Pt.sub]; rw [e0]; grind)
      have eb : (⟨((0 : Int) : Rat), ((0 : Int) : Rat)⟩ : Pt).sub ⟨((xi : Int) : Rat), ((yi : Int) : Rat)⟩ = ⟨-((xi : Int) : Rat), -((yi : Int) : Rat)⟩ := by
        have e0 : ((0 : Int) : Rat) = 0 := rfl
        refine pt_ext ?_ ?_ <;> (simp only [Pt.sub]; rw [e0]; grind)
      -- left_here = together(c, left(v))
      refine b_cons (s_set 6 sc_law_round_ones.nd (e_call (ok_together T) (hr.mono (by decide)) T.g_together T.F_together.kp T.b_together tk (ea_cons (e_var 1 rfl) (ea_cons (e_call (ok_law_left T) (hr.mono (by decide)) T.g_law_left T.F_law_left.kp T.b_law_left tk (ea_cons (e_var 2 rfl) ea_nil) ⟨⟨((xi : Int) : Rat), ((yi : Int) : Rat)⟩, rfl, rfl, rfl⟩) ea_nil)) ⟨c, ⟨-((yi : Int) : Rat), ((xi : Int) : Rat)⟩, 10, 10, rfl, hc, hlb, by decide, rfl, rfl⟩) ?_)
      -- right = together(c, off(((0, 1), (0, 1)), left(v)))
      refine b_cons (s_set 7 sc_law_round_ones.nd (e_call (ok_together T) (hr.mono (by decide)) T.g_together T.F_together.kp T.b_together tk (ea_cons (e_var 1 rfl) (ea_cons (e_is (e_call (ok_off T) (hr.mono (by decide)) T.g_off T.F_off.kp T.b_off tk (ea_cons (e_tup (ds := [_, _]) (ea_cons (e_tup (ds := [_, _]) (ea_cons e_int (ea_cons e_int ea_nil))) (ea_cons (e_tup (ds := [_, _]) (ea_cons e_int (ea_cons e_int ea_nil))) ea_nil))) (ea_cons (e_call (ok_law_left T) (hr.mono (by decide)) T.g_law_left T.F_law_left.kp T.b_law_left tk (ea_cons (e_var 2 rfl) ea_nil) ⟨⟨((xi : Int) : Rat), ((yi : Int) : Rat)⟩, rfl, rfl, rfl⟩) ea_nil)) ⟨⟨((0 : Int) : Rat), ((0 : Int) : Rat)⟩, ⟨-((yi : Int) : Rat), ((xi : Int) : Rat)⟩, 10, 10, rfl, hzb, hlb, by decide, rfl, rfl⟩) (congrArg (fun z => S.d (pt z)) er)) ea_nil)) ⟨c, ⟨((yi : Int) : Rat), -((xi : Int) : Rat)⟩, 10, 10, rfl, hc, hrb, by decide, rfl, rfl⟩) ?_)
      -- arcs = [('arc', c, right, left_here), ('arc', c, left_here, right)]
      refine b_cons (s_set 8 sc_law_round_ones.nd (e_lst (ds := [(halfA c ((xi : Int) : Rat) ((yi : Int) : Rat)).D, (halfB c ((xi : Int) : Rat) ((yi : Int) : Rat)).D]) (ea_cons (e_tup (ds := [_, _, _, _]) (ea_cons e_str (ea_cons (e_var 1 rfl) (ea_cons (e_var 7 rfl) (ea_cons (e_var 6 rfl) ea_nil))))) (ea_cons (e_tup (ds := [_, _, _, _]) (ea_cons e_str (ea_cons (e_var 1 rfl) (ea_cons (e_var 6 rfl) (ea_cons (e_var 7 rfl) ea_nil))))) ea_nil))) ?_)
      have hk6 : Fk (n + 7) (F4.nx 2) := hk5.nx 2
      -- if draw(feed_here, 2) == 0:
      refine b_cons (s_if (t_eqI hr (e_call (ok_law_draw T) (hr.mono (by decide)) T.g_law_draw T.F_law_draw.kp T.b_law_draw tk (ea_cons (e_var 0 rfl) (ea_cons e_int ea_nil)) (dr_ok hi hk5 (h1 := by walk_at "ob"))) e_int) (fun h2 => ?_) (fun h2 => ?_))
      ·
        -- return [arcs, ('ring', c, outer), [(0, 0), (1, 0), (0, 0)], by == 0]
        refine b_cons (s_ret (e_lst (ds := [.list [(halfA c ((xi : Int) : Rat) ((yi : Int) : Rat)).D, (halfB c ((xi : Int) : Rat) ((yi : Int) : Rat)).D], (Pc.ring c out).D, lnkD [0, 1, 0], .bool (decide (bv = 0))]) (ea_cons (e_var 8 rfl) (ea_cons (e_tup (ds := [_, _, _]) (ea_cons e_str (ea_cons (e_var 1 rfl) (ea_cons (e_var 5 rfl) ea_nil)))) (ea_cons (e_lst (ds := [_, _, _]) (ea_cons (e_tup (ds := [_, _]) (ea_cons e_int (ea_cons e_int ea_nil))) (ea_cons (e_tup (ds := [_, _]) (ea_cons e_int (ea_cons e_int ea_nil))) (ea_cons (e_tup (ds := [_, _]) (ea_cons e_int (ea_cons e_int ea_nil))) ea_nil)))) (ea_cons (e_eqI hr (e_var 3 rfl) e_int) ea_nil))))) ?_)
        refine hR [halfA c ((xi : Int) : Rat) ((yi : Int) : Rat), halfB c ((xi : Int) : Rat) ((yi : Int) : Rat)] _ [0, 1, 0] _ _ (bt_arcs hv hc3 (hcr.mono (by decide)) (hcl.mono (by decide)) ho3 ?_) (hk6.mono (by omega))
        rcases hout with ⟨e1, e2⟩ | ⟨e1, e2⟩
        · exact .inl ⟨e2, by rw [e1]; rfl⟩
        · exact .inr ⟨e2, by rw [e1]; rfl⟩
      ·
        refine b_nil ?_
        generalize F4.nx 2 = F5 at *
        -- back = together(c, off(((0, 1), (0, 1)), v))
        refine b_cons (s_set 9 sc_law_round_ones.nd (e_call (ok_together T) (hr.mono (by decide)) T.g_together T.F_together.kp T.b_together tk (ea_cons (e_var 1 rfl) (ea_cons (e_is (e_call (ok_off T) (hr.mono (by decide)) T.g_off T.F_off.kp T.b_off tk (ea_cons (e_tup (ds := [_, _]) (ea_cons (e_tup (ds := [_, _]) (ea_cons e_int (ea_cons e_int ea_nil))) (ea_cons (e_tup (ds := [_, _]) (ea_cons e_int (ea_cons e_int ea_nil))) ea_nil))) (ea_cons (e_var 2 rfl) ea_nil)) ⟨⟨((0 : Int) : Rat), ((0 : Int) : Rat)⟩, ⟨((xi : Int) : Rat), ((yi : Int) : Rat)⟩, 10, 10, rfl, hzb, hvb, by decide, rfl, rfl⟩) (congrArg (fun z => S.d (pt z)) eb)) ea_nil)) ⟨c, ⟨-((xi : Int) : Rat), -((yi : Int) : Rat)⟩, 10, 10, rfl, hc, hbb, by decide, rfl, rfl⟩) ?_)
        -- return [arcs, ('arc', c, r, back), [(0, 0), (1, 0)], True]
        refine b_cons (s_ret (e_lst (ds := [.list [(halfA c ((xi : Int) : Rat) ((yi : Int) : Rat)).D, (halfB c ((xi : Int) : Rat) ((yi : Int) : Rat)).D], (Pc.arc c (c.add ⟨((xi : Int) : Rat), ((yi : Int) : Rat)⟩) (c.add ⟨-((xi : Int) : Rat), -((yi : Int) : Rat)⟩)).D, lnkD [0, 1], .bool true]) (ea_cons (e_var 8 rfl) (ea_cons (e_tup (ds := [_, _, _, _]) (ea_cons e_str (ea_cons (e_var 1 rfl) (ea_cons (e_var 4 rfl) (ea_cons (e_var 9 rfl) ea_nil))))) (ea_cons (e_lst (ds := [_, _]) (ea_cons (e_tup (ds := [_, _]) (ea_cons e_int (ea_cons e_int ea_nil))) (ea_cons (e_tup (ds := [_, _]) (ea_cons e_int (ea_cons e_int ea_nil))) ea_nil))) (ea_cons e_bl ea_nil))))) ?_)
        exact hR [halfA c ((xi : Int) : Rat) ((yi : Int) : Rat), halfB c ((xi : Int) : Rat) ((yi : Int) : Rat)] _ [0, 1] _ _ (bt_half hv hc3 (hcr.mono (by decide)) (hcl.mono (by decide)) hcv3 (hcb.mono (by decide))) (hk6.mono (by omega))

def c_sign_of : Con := fun ss M R _ => ∃ (x : Rat), ss = [.d (fr x)] ∧ R (.d (.int (sgI x.num 0))) M
theorem ok_sign_of (T : Tx K mg) : FnOk P w K mg base (L2.CX P w) 1 T.a_sign_of T.fd_sign_of ["number"] (spD K c_sign_of) := by
  refine Fun.okD T.F_sign_of sc_sign_of (fun ss M R Rx h => ?_) (fun cdv A outer s H E ss M R Rx h hr tk => ?_)
  · obtain ⟨x, rfl, _⟩ := h
    rfl
  · obtain ⟨x, rfl, hR⟩ := h
    -- return int(number[0] > 0) - int(number[0] < 0)
    refine b_cons (s_ret (e_sub (e_intB rfl T.n_int (ea_cons (e_gt (e_ix (e_var 0 rfl) e_int rfl) e_int) ea_nil)) (e_intB rfl T.n_int (ea_cons (e_lt (e_ix (e_var 0 rfl) e_int rfl) e_int) ea_nil))) ?_)
    exact hR

def c_times : Con := fun ss M R _ => ∃ (x y : Rat) (n m : Nat), ss = [.d (fr x), .d (fr y)] ∧ Fb n x ∧ Fb m y ∧ n + m ≤ 9000 ∧ R (.d (fr (x * y))) M
theorem ok_times (T : Tx K mg) : FnOk P w K mg base (L2.CX P w) 3 T.a_times T.fd_times ["one", "other"] (spD K c_times) := by
  refine Fun.okD T.F_times sc_times (fun ss M R Rx h => ?_) (fun cdv A outer s H E ss M R Rx h hr tk => ?_)
  · obtain ⟨x, y, n, m, rfl, _⟩ := h
    rfl
  · obtain ⟨x, y, n, m, rfl, hx, hy, hnm, hR⟩ := h
    refine b_cons (s_ret (e_call (ok_ratio T) (hr.mono (by decide)) T.g_ratio T.F_ratio.kp T.b_ratio tk (ea_cons (e_mul (e_ix (d := fr x) (e_var 0 rfl) e_int rfl) (e_ix (d := fr y) (e_var 1 rfl) e_int rfl) (nn_mul hx hy hnm)) (ea_cons (e_mul (e_ix (d := fr x) (e_var 0 rfl) e_int rfl) (e_ix (d := fr y) (e_var 1 rfl) e_int rfl) (dd_mul hx hy hnm)) ea_nil)) ⟨_, _, rfl, fun h => absurd h (dd_ne x y), fun _ => ⟨dd_lt hx hy hnm, rfl, rfl⟩⟩) ?_)
    rw [← mul_eq_divInt]
    exact hR

def c_along : Con := fun ss M R _ => ∃ (p q : Pt) (n m : Nat), ss = [.d (pt p), .d (pt q)] ∧ Pb n p ∧ Pb m q ∧ n + m + (n + m) ≤ 9000 ∧ R (.d (fr (p.along q))) M
theorem ok_along (T : Tx K mg) : FnOk P w K mg base (L2.CX P w) 4 T.a_along T.fd_along ["p", "q"] (spD K c_along) := by
  refine Fun.okD T.F_along sc_along (fun ss M R Rx h => ?_) (fun cdv A outer s H E ss M R Rx h hr tk => ?_)
  · obtain ⟨p, q, n, m, rfl, _⟩ := h
    rfl
  · obtain ⟨p, q, n, m, rfl, h0, h1, h2, hR⟩ := h
    -- return plus(times(p[0], q[0]), times(p[1], q[1]))
    refine b_cons (s_ret (e_call (ok_plus T) (hr.mono (by decide)) T.g_plus T.F_plus.kp T.b_plus tk (ea_cons (e_call (ok_times T) (hr.mono (by decide)) T.g_times T.F_times.kp T.b_times tk (ea_cons (e_ix (e_var 0 rfl) e_int rfl) (ea_cons (e_ix (e_var 1 rfl) e_int rfl) ea_nil)) ⟨_, _, _, _, rfl, by walk_at "fb", by walk_at "fb", by first | omega | decide, rfl, rfl⟩) (ea_cons (e_call (ok_times T) (hr.mono (by decide)) T.g_times T.F_times.kp T.b_times tk (ea_cons (e_ix (e_var 0 rfl) e_int rfl) (ea_cons (e_ix (e_var 1 rfl) e_int rfl) ea_nil)) ⟨_, _, _, _, rfl, by walk_at "fb", by walk_at "fb", by first | omega | decide, rfl, rfl⟩) ea_nil)) ⟨_, _, _, _, rfl, by walk_at "fb", by walk_at "fb", by first | omega | decide, rfl, rfl⟩) ?_)
    exact hR

def c_across : Con := fun ss M R _ => ∃ (p q : Pt) (n m : Nat), ss = [.d (pt p), .d (pt q)] ∧ Pb n p ∧ Pb m q ∧ n + m + (n + m) ≤ 9000 ∧ R (.d (fr (p.across q))) M
theorem ok_across (T : Tx K mg) : FnOk P w K mg base (L2.CX P w) 4 T.a_across T.fd_across ["p", "q"] (spD K c_across) := by
  refine Fun.okD T.F_across sc_across (fun ss M R Rx h => ?_) (fun cdv A outer s H E ss M R Rx h hr tk => ?_)
  · obtain ⟨p, q, n, m, rfl, _⟩ := h
    rfl
  · obtain ⟨p, q, n, m, rfl, h0, h1, h2, hR⟩ := h
    -- return minus(times(p[0], q[1]), times(p[1], q[0]))
    refine b_cons (s_ret (e_call (ok_minus T) (hr.mono (by decide)) T.g_minus T.F_minus.kp T.b_minus tk (ea_cons (e_call (ok_times T) (hr.mono (by decide)) T.g_times T.F_times.kp T.b_times tk (ea_cons (e_ix (e_var 0 rfl) e_int rfl) (ea_cons (e_ix (e_var 1 rfl) e_int rfl) ea_nil)) ⟨_, _, _, _, rfl, by walk_at "fb", by walk_at "fb", by first | omega | decide, rfl, rfl⟩) (ea_cons (e_call (ok_times T) (hr.mono (by decide)) T.g_times T.F_times.kp T.b_times tk (ea_cons (e_ix (e_var 0 rfl) e_int rfl) (ea_cons (e_ix (e_var 1 rfl) e_int rfl) ea_nil)) ⟨_, _, _, _, rfl, by walk_at "fb", by walk_at "fb", by first | omega | decide, rfl, rfl⟩) ea_nil)) ⟨_, _, _, _, rfl, by walk_at "fb", by walk_at "fb", by first | omega | decide, rfl, rfl⟩) ?_)
    exact hR

def c_quarter_of : Con := fun ss M R _ => ∃ (p q : Pt) (n m : Nat), ss = [.d (pt p), .d (pt q)] ∧ Pb n p ∧ Pb m q ∧ n + m + (n + m) ≤ 9000 ∧ R (.d (.int (qOf (p.along q) (p.across q)))) M
theorem sgI_pos (x : Rat) : (0 < sgI x.num 0) ↔ 0 < x := by
  rw [← num_pos]
  unfold sgI
  by_cases h : 0 < x.num <;> by_cases h2 : x.num < 0 <;> simp [h, h2] <;> omega
theorem sgI_neg (x : Rat) : (sgI x.num 0 < 0) ↔ x < 0 := by
  rw [← num_neg]
  unfold sgI
  by_cases h : 0 < x.num <;> by_cases h2 : x.num < 0 <;> simp [h, h2] <;> omega
theorem sgI_nn (x : Rat) : (0 ≤ sgI x.num 0) ↔ 0 ≤ x := by
  have := sgI_neg x
  constructor
  · intro h
    by_cases h1 : 0 ≤ x
    · exact h1
    · have := this.mpr (by grind)
      omega
  · intro h
    by_cases h1 : 0 ≤ sgI x.num 0
    · exact h1
    · have := this.mp (by omega)
      grind
theorem ok_quarter_of (T : Tx K mg) : FnOk P w K mg base (L2.CX P w) 5 T.a_quarter_of T.fd_quarter_of ["one", "other"] (spD K c_quarter_of) := by
  refine Fun.okD T.F_quarter_of sc_quarter_of (fun ss M R Rx h => ?_) (fun cdv A outer s H E ss M R Rx h hr tk => ?_)
  · obtain ⟨p, q, n, m, rfl, _⟩ := h
    rfl
  · obtain ⟨p, q, n, m, rfl, hp, hq, hnm, hR⟩ := h
    -- straight = sign_of(along(one, other))
    refine b_cons (s_set 2 sc_quarter_of.nd (e_call (ok_sign_of T) (hr.mono (by decide)) T.g_sign_of T.F_sign_of.kp T.b_sign_of tk (ea_cons (e_call (ok_along T) (hr.mono (by decide)) T.g_along T.F_along.kp T.b_along tk (ea_cons (e_var 0 rfl) (ea_cons (e_var 1 rfl) ea_nil)) ⟨p, q, _, _, rfl, by walk_at "fb", by walk_at "fb", by first | omega | decide, rfl, rfl⟩) ea_nil) ⟨p.along q, rfl, rfl, rfl⟩) ?_)
    -- left = sign_of(across(one, other))
    refine b_cons (s_set 3 sc_quarter_of.nd (e_call (ok_sign_of T) (hr.mono (by decide)) T.g_sign_of T.F_sign_of.kp T.b_sign_of tk (ea_cons (e_call (ok_across T) (hr.mono (by decide)) T.g_across T.F_across.kp T.b_across tk (ea_cons (e_var 0 rfl) (ea_cons (e_var 1 rfl) ea_nil)) ⟨p, q, _, _, rfl, by walk_at "fb", by walk_at "fb", by first | omega | decide, rfl, rfl⟩) ea_nil) ⟨p.across q, rfl, rfl, rfl⟩) ?_)
    generalize p.along q = x at *
    generalize p.across q = y at *
    have e1 := sgI_pos x
    have e2 := sgI_neg x
    have e3 := sgI_pos y
    have e4 := sgI_nn y
    unfold qOf at hR
    -- if straight > 0 and left >= 0:
    refine b_cons (s_if (EW.t (w_and (t_gt (e_var 2 rfl) e_int) (fun hb => (w_and1 (t_ge (e_var 3 rfl) e_int))))) (fun h1 => ?_) (fun h1 => ?_))
    · rw [Bool.and_eq_true, decide_eq_true_eq, decide_eq_true_eq, e1, e4] at h1
      -- return 0
      refine b_cons (s_ret e_int ?_)
      rw [if_pos h1] at hR
      exact hR
    · refine b_nil ?_
      have h1' : ¬ (0 < x ∧ 0 ≤ y) := fun z => by
        rw [decide_eq_true (e1.mpr z.1), decide_eq_true (e4.mpr z.2)] at h1
        cases h1
      rw [if_neg h1'] at hR
      -- if left > 0:
      refine b_cons (s_if (t_gt (e_var 3 rfl) e_int) (fun h2 => ?_) (fun h2 => ?_))
      · have h2' := e3.mp (of_decide_eq_true h2)
        -- return 1
        refine b_cons (s_ret e_int ?_)
        rw [if_pos h2'] at hR
        exact hR
      · refine b_nil ?_
        have h2' : ¬ 0 < y := fun z => of_decide_eq_false h2 (e3.mpr z)
        rw [if_neg h2'] at hR
        -- if straight < 0:
        refine b_cons (s_if (t_lt (e_var 2 rfl) e_int) (fun h3 => ?_) (fun h3 => ?_))
        · have h3' := e2.mp (of_decide_eq_true h3)
          -- return 2
          refine b_cons (s_ret e_int ?_)
          rw [if_pos h3'] at hR
          exact hR
        · refine b_nil ?_
          have h3' : ¬ x < 0 := fun z => of_decide_eq_false h3 (e2.mpr z)
          rw [if_neg h3'] at hR
          -- return 3
          refine b_cons (s_ret e_int ?_)
          exact hR

def c_ahead : Con := fun ss M R _ => ∃ (c a p q : Pt) (n m k l : Nat), ss = [.d (pt c), .d (pt a), .d (pt p), .d (pt q)] ∧ Pb n c ∧ Pb m a ∧ Pb k p ∧ Pb l q ∧ 4 * n + 2 * m + 2 * k + 2 * l ≤ 8900 ∧ R (.d (.bool (aheadB c a p q))) M
theorem ok_ahead (T : Tx K mg) : FnOk P w K mg base (L2.CX P w) 6 T.a_ahead T.fd_ahead ["c", "a", "p", "q"] (spD K c_ahead) := by
  refine Fun.okD T.F_ahead sc_ahead (fun ss M R Rx h => ?_) (fun cdv A outer s H E ss M R Rx h hr tk => ?_)
  · obtain ⟨c, a, p, q, n, m, k, l, rfl, _⟩ := h
    rfl
  · obtain ⟨c, a, p, q, n, m, k, l, rfl, hc, ha, hp, hq, hnm, hR⟩ := h
    -- start = off(a, c)
    refine b_cons (s_set 4 sc_ahead.nd (e_call (ok_off T) (hr.mono (by decide)) T.g_off T.F_off.kp T.b_off tk (ea_cons (e_var 1 rfl) (ea_cons (e_var 0 rfl) ea_nil)) ⟨a, c, _, _, rfl, by walk_at "fb", by walk_at "fb", by first | omega | decide, rfl, rfl⟩) ?_)
    -- one = off(p, c)
    refine b_cons (s_set 5 sc_ahead.nd (e_call (ok_off T) (hr.mono (by decide)) T.g_off T.F_off.kp T.b_off tk (ea_cons (e_var 2 rfl) (ea_cons (e_var 0 rfl) ea_nil)) ⟨p, c, _, _, rfl, by walk_at "fb", by walk_at "fb", by first | omega | decide, rfl, rfl⟩) ?_)
    -- other = off(q, c)
    refine b_cons (s_set 6 sc_ahead.nd (e_call (ok_off T) (hr.mono (by decide)) T.g_off T.F_off.kp T.b_off tk (ea_cons (e_var 3 rfl) (ea_cons (e_var 0 rfl) ea_nil)) ⟨q, c, _, _, rfl, by walk_at "fb", by walk_at "fb", by first | omega | decide, rfl, rfl⟩) ?_)
    -- here = quarter_of(start, one)
    refine b_cons (s_set 7 sc_ahead.nd (e_call (ok_quarter_of T) (hr.mono (by decide)) T.g_quarter_of T.F_quarter_of.kp T.b_quarter_of tk (ea_cons (e_var 4 rfl) (ea_cons (e_var 5 rfl) ea_nil)) ⟨a.sub c, p.sub c, _, _, rfl, by walk_at "fb", by walk_at "fb", by first | omega | decide, rfl, rfl⟩) ?_)
    -- there = quarter_of(start, other)
    refine b_cons (s_set 8 sc_ahead.nd (e_call (ok_quarter_of T) (hr.mono (by decide)) T.g_quarter_of T.F_quarter_of.kp T.b_quarter_of tk (ea_cons (e_var 4 rfl) (ea_cons (e_var 6 rfl) ea_nil)) ⟨a.sub c, q.sub c, _, _, rfl, by walk_at "fb", by walk_at "fb", by first | omega | decide, rfl, rfl⟩) ?_)
    unfold aheadB at hR
    -- if here != there:
    refine b_cons (s_if (t_neI hr (e_var 7 rfl) (e_var 8 rfl)) (fun h1 => ?_) (fun h1 => ?_))
    · rw [Bool.not_eq_true', decide_eq_false_iff_not] at h1
      -- return here < there
      refine b_cons (s_ret (e_lt (e_var 7 rfl) (e_var 8 rfl)) ?_)
      rw [if_pos h1] at hR
      exact hR
    · refine b_nil ?_
      rw [Bool.not_eq_false', decide_eq_true_eq] at h1
      rw [if_neg (fun z => z h1)] at hR
      -- return across(one, other)[0] > 0
      refine b_cons (s_ret (e_gt (e_ix (d := fr ((p.sub c).across (q.sub c))) (e_call (ok_across T) (hr.mono (by decide)) T.g_across T.F_across.kp T.b_across tk (ea_cons (e_var 5 rfl) (ea_cons (e_var 6 rfl) ea_nil)) ⟨p.sub c, q.sub c, _, _, rfl, by walk_at "fb", by walk_at "fb", by first | omega | decide, rfl, rfl⟩) e_int rfl) e_int) ?_)
      rw [show decide (0 < ((p.sub c).across (q.sub c)).num) = decide (0 < (p.sub c).across (q.sub c)) from decide_eq_decide.mpr (num_pos _)]
      exact hR

def c_side : Con := fun ss M R _ => ∃ (a b p : Pt) (n m k : Nat), ss = [.d (pt a), .d (pt b), .d (pt p)] ∧ Pb n a ∧ Pb m b ∧ Pb k p ∧ 2 * (n + m + k + n + 2) ≤ 9000 ∧ R (.d (.int (sgI (((b.sub a).across (p.sub a)).num) 0))) M
theorem ok_side (T : Tx K mg) : FnOk P w K mg base (L2.CX P w) 5 T.a_side T.fd_side ["a", "b", "p"] (spD K c_side) := by
  refine Fun.okD T.F_side sc_side (fun ss M R Rx h => ?_) (fun cdv A outer s H E ss M R Rx h hr tk => ?_)
  · obtain ⟨a, b, p, n, m, k, rfl, _⟩ := h
    rfl
  · obtain ⟨a, b, p, n, m, k, rfl, h0, h1, h2, h3, hR⟩ := h
    -- return sign_of(across(off(b, a), off(p, a)))
    refine b_cons (s_ret (e_call (ok_sign_of T) (hr.mono (by decide)) T.g_sign_of T.F_sign_of.kp T.b_sign_of tk (ea_cons (e_call (ok_across T) (hr.mono (by decide)) T.g_across T.F_across.kp T.b_across tk (ea_cons (e_call (ok_off T) (hr.mono (by decide)) T.g_off T.F_off.kp T.b_off tk (ea_cons (e_var 1 rfl) (ea_cons (e_var 0 rfl) ea_nil)) ⟨_, _, _, _, rfl, by walk_at "fb", by walk_at "fb", by first | omega | decide, rfl, rfl⟩) (ea_cons (e_call (ok_off T) (hr.mono (by decide)) T.g_off T.F_off.kp T.b_off tk (ea_cons (e_var 2 rfl) (ea_cons (e_var 0 rfl) ea_nil)) ⟨_, _, _, _, rfl, by walk_at "fb", by walk_at "fb", by first | omega | decide, rfl, rfl⟩) ea_nil)) ⟨_, _, _, _, rfl, by walk_at "fb", by walk_at "fb", by first | omega | decide, rfl, rfl⟩) ea_nil) ⟨_, rfl, rfl, rfl⟩) ?_)
    exact hR

def c_lies_on : Con := fun ss M R _ => ∃ (z : Pc) (p : Pt) (n k : Nat), ss = [.d z.D, .d (pt p)] ∧ z.flat ∧ z.pb n ∧ Pb k p ∧ 2 * (n + n + k + n + 2) ≤ 9000 ∧ R (.d (.bool (z.on p))) M
theorem ok_lies_on (T : Tx K mg) : FnOk P w K mg base (L2.CX P w) 6 T.a_lies_on T.fd_lies_on ["piece", "p"] (spD K c_lies_on) := by
  refine Fun.okD T.F_lies_on sc_lies_on (fun ss M R Rx h => ?_) (fun cdv A outer s H E ss M R Rx h hr tk => ?_)
  · obtain ⟨z, p, n, k, rfl, _⟩ := h
    rfl
  · obtain ⟨z, p, n, k, rfl, hz, hn, hp, hnm, hR⟩ := h
    cases z with
    | dot a =>
      -- if piece[0] == 'dot':
      refine b_cons (s_if (b1 := true) (t_eq (z := true) hr (e_ix (d := (Pc.dot a).D) (d' := .str "dot") (e_var 0 rfl) e_int rfl) e_str .d .d (by decide +kernel) (by decide +kernel) (by decide +kernel)) (fun _ => ?_) (fun h1 => nomatch h1))
      -- return p == piece[1]
      refine b_cons (s_ret (e_eq (d1 := pt p) (d2 := pt a) hr (e_var 1 rfl) (e_ix (d := (Pc.dot a).D) (d' := pt a) (e_var 0 rfl) e_int rfl) .d .d rfl rfl (pt_eqv _ _)) ?_)
      exact hR
    | st a b =>
      obtain ⟨ha, hb⟩ := hn
      -- if piece[0] == 'dot':
      refine b_cons (s_if (b1 := false) (t_eq (z := false) hr (e_ix (d := (Pc.st a b).D) (d' := .str "stretch") (e_var 0 rfl) e_int rfl) e_str .d .d (by decide +kernel) (by decide +kernel) (by decide +kernel)) (fun h1 => nomatch h1) (fun h1 => b_nil ?_))
      -- return side(piece[1], piece[2], p) == 0 and not before(p, piece[1]) and not before(piece[2], p)
      refine b_cons (s_ret (e_and (e_eqI hr (e_call (ok_side T) (hr.mono (by decide)) T.g_side T.F_side.kp T.b_side tk (ea_cons (e_ix (d := (Pc.st a b).D) (d' := pt a) (e_var 0 rfl) e_int rfl) (ea_cons (e_ix (d := (Pc.st a b).D) (d' := pt b) (e_var 0 rfl) e_int rfl) (ea_cons (e_var 1 rfl) ea_nil))) ⟨a, b, p, n, n, k, rfl, ha, hb, hp, hnm, rfl, rfl⟩) e_int) (fun hb1 => (e_and (e_not (e_call (ok_before T) (hr.mono (by decide)) T.g_before T.F_before.kp T.b_before tk (ea_cons (e_var 1 rfl) (ea_cons (e_ix (d := (Pc.st a b).D) (d' := pt a) (e_var 0 rfl) e_int rfl) ea_nil)) ⟨p, a, k, n, rfl, hp, ha, by omega, rfl, rfl⟩)) (fun hb2 => (e_one (e_not (e_call (ok_before T) (hr.mono (by decide)) T.g_before T.F_before.kp T.b_before tk (ea_cons (e_ix (d := (Pc.st a b).D) (d' := pt b) (e_var 0 rfl) e_int rfl) (ea_cons (e_var 1 rfl) ea_nil)) ⟨b, p, n, k, rfl, hb, hp, by omega, rfl, rfl⟩)))))))  ?_)
      exact hR
    | arc c a b => exact hz.elim
    | ring c a => exact hz.elim

def c_far : Con := fun ss M R _ => ∃ (p q : Pt) (n m : Nat), ss = [.d (pt p), .d (pt q)] ∧ Pb n p ∧ Pb m q ∧ 4 * (n + m + 1) ≤ 9000 ∧ R (.d (fr (p.far q))) M
theorem ok_far (T : Tx K mg) : FnOk P w K mg base (L2.CX P w) 5 T.a_far T.fd_far ["p", "q"] (spD K c_far) := by
  refine Fun.okD T.F_far sc_far (fun ss M R Rx h => ?_) (fun cdv A outer s H E ss M R Rx h hr tk => ?_)
  · obtain ⟨p, q, n, m, rfl, _⟩ := h
    rfl
  · obtain ⟨p, q, n, m, rfl, h0, h1, h2, hR⟩ := h
    -- way = off(p, q)
    refine b_cons (s_set 2 sc_far.nd (e_call (ok_off T) (hr.mono (by decide)) T.g_off T.F_off.kp T.b_off tk (ea_cons (e_var 0 rfl) (ea_cons (e_var 1 rfl) ea_nil)) ⟨_, _, _, _, rfl, by walk_at "fb", by walk_at "fb", by first | omega | decide, rfl, rfl⟩) ?_)
    -- return along(way, way)
    refine b_cons (s_ret (e_call (ok_along T) (hr.mono (by decide)) T.g_along T.F_along.kp T.b_along tk (ea_cons (e_var 2 rfl) (ea_cons (e_var 2 rfl) ea_nil)) ⟨_, _, _, _, rfl, by walk_at "fb", by walk_at "fb", by first | omega | decide, rfl, rfl⟩) ?_)
    exact hR

def c_on : Con := fun ss M R _ => ∃ (z : Pc) (x : Pt) (n m k : Nat), ss = [.d z.D, .d (pt x)] ∧ z.pc n m ∧ Pb k x ∧ 4 * n + 6 * m + 4 * k ≤ 8900 ∧ R (.d (.bool (z.on x))) M
theorem ok_on (T : Tx K mg) : FnOk P w K mg base (L2.CX P w) 7 T.a_on T.fd_on ["piece", "p"] (spD K c_on) := by
  refine Fun.okD T.F_on sc_on (fun ss M R Rx h => ?_) (fun cdv A outer s H E ss M R Rx h hr tk => ?_)
  · obtain ⟨z, x, n, m, k, rfl, _⟩ := h
    rfl
  · obtain ⟨z, x, n, m, k, rfl, hn, hx, hnm, hR⟩ := h
    cases z with
    | dot a =>
      -- if piece[0] == 'dot' or piece[0] == 'stretch':
      refine b_cons (s_if (b1 := true) (EW.t (w_or (b1 := true) (b2 := true) (t_eq (z := true) hr (e_ix (d := (Pc.dot a).D) (d' := .str "dot") (e_var 0 rfl) e_int rfl) e_str .d .d (by decide +kernel) (by decide +kernel) (by decide +kernel)) (fun hb => nomatch hb))) (fun _ => ?_) (fun h1 => nomatch h1))
      -- return lies_on(piece, p)
      refine b_cons (s_ret (e_call (ok_lies_on T) (hr.mono (by decide)) T.g_lies_on T.F_lies_on.kp T.b_lies_on tk (ea_cons (e_var 0 rfl) (ea_cons (e_var 1 rfl) ea_nil)) ⟨.dot a, x, m, k, rfl, trivial, hn, hx, by omega, rfl, rfl⟩) ?_)
      exact hR
    | st a b =>
      -- if piece[0] == 'dot' or piece[0] == 'stretch':
      refine b_cons (s_if (b1 := true) (EW.t (w_or (b1 := false) (b2 := true) (t_eq (z := false) hr (e_ix (d := (Pc.st a b).D) (d' := .str "stretch") (e_var 0 rfl) e_int rfl) e_str .d .d (by decide +kernel) (by decide +kernel) (by decide +kernel)) (fun hb => (w_or1 (t_eq (z := true) hr (e_ix (d := (Pc.st a b).D) (d' := .str "stretch") (e_var 0 rfl) e_int rfl) e_str .d .d (by decide +kernel) (by decide +kernel) (by decide +kernel)))))) (fun _ => ?_) (fun h1 => nomatch h1))
      -- return lies_on(piece, p)
      refine b_cons (s_ret (e_call (ok_lies_on T) (hr.mono (by decide)) T.g_lies_on T.F_lies_on.kp T.b_lies_on tk (ea_cons (e_var 0 rfl) (ea_cons (e_var 1 rfl) ea_nil)) ⟨.st a b, x, m, k, rfl, trivial, hn, hx, by omega, rfl, rfl⟩) ?_)
      exact hR
    | arc c a b =>
      obtain ⟨hc, ha, hb⟩ := hn
      have hR' : R (.d (.bool (decide (c.far x = c.far a) && (decide (x = a) || decide (x = b) || aheadB c a x b)))) M := hR
      -- if piece[0] == 'dot' or piece[0] == 'stretch':
      refine b_cons (s_if (b1 := false) (EW.t (w_or (b1 := false) (b2 := false) (t_eq (z := false) hr (e_ix (d := (Pc.arc c a b).D) (d' := .str "arc") (e_var 0 rfl) e_int rfl) e_str .d .d (by decide +kernel) (by decide +kernel) (by decide +kernel)) (fun hb => (w_or1 (t_eq (z := false) hr (e_ix (d := (Pc.arc c a b).D) (d' := .str "arc") (e_var 0 rfl) e_int rfl) e_str .d .d (by decide +kernel) (by decide +kernel) (by decide +kernel)))))) (fun h1 => nomatch h1) (fun _ => b_nil ?_))
      -- c = piece[1]
      refine b_cons (s_set 2 sc_on.nd (e_ix (d := (Pc.arc c a b).D) (d' := pt c) (e_var 0 rfl) e_int rfl) ?_)
      -- if far(c, p) != far(c, piece[2]):
      refine b_cons (s_if (t_ne (d1 := fr (c.far x)) (d2 := fr (c.far a)) hr (e_call (ok_far T) (hr.mono (by decide)) T.g_far T.F_far.kp T.b_far tk (ea_cons (e_var 2 rfl) (ea_cons (e_var 1 rfl) ea_nil)) ⟨c, x, _, _, rfl, hc, hx, by omega, rfl, rfl⟩) (e_call (ok_far T) (hr.mono (by decide)) T.g_far T.F_far.kp T.b_far tk (ea_cons (e_var 2 rfl) (ea_cons (e_ix (d := (Pc.arc c a b).D) (d' := pt a) (e_var 0 rfl) e_int rfl) ea_nil)) ⟨c, a, _, _, rfl, hc, ha, by omega, rfl, rfl⟩) .d .d rfl rfl (eqv_fr _ _)) (fun h1 => ?_) (fun h1 => b_nil ?_))
      · rw [Bool.not_eq_true', decide_eq_false_iff_not] at h1
        refine b_cons (s_ret e_bl ?_)
        rw [decide_eq_false h1, Bool.false_and] at hR'
        exact hR'
      rw [Bool.not_eq_false', decide_eq_true_eq] at h1
      rw [decide_eq_true h1, Bool.true_and] at hR'
      -- if piece[0] == 'ring' or p == piece[2] or p == piece[3]:
      refine b_cons (s_if (b1 := decide (x = a) || decide (x = b)) (EW.t (w_or (b1 := false) (b2 := decide (x = a) || decide (x = b)) (t_eq (z := false) hr (e_ix (d := (Pc.arc c a b).D) (d' := .str "arc") (e_var 0 rfl) e_int rfl) e_str .d .d (by decide +kernel) (by decide +kernel) (by decide +kernel)) (fun _ => (w_or (b1 := decide (x = a)) (b2 := decide (x = b)) (t_eq (d1 := pt x) (d2 := pt a) hr (e_var 1 rfl) (e_ix (d := (Pc.arc c a b).D) (d' := pt a) (e_var 0 rfl) e_int rfl) .d .d rfl rfl (pt_eqv _ _)) (fun _ => (w_or1 (t_eq (d1 := pt x) (d2 := pt b) hr (e_var 1 rfl) (e_ix (d := (Pc.arc c a b).D) (d' := pt b) (e_var 0 rfl) e_int rfl) .d .d rfl rfl (pt_eqv _ _)))))))) (fun h2 => ?_) (fun h2 => b_nil ?_))
      · refine b_cons (s_ret e_bl ?_)
        rw [h2, Bool.true_or] at hR'
        exact hR'
      rw [h2, Bool.false_or] at hR'
      -- return ahead(c, piece[2], p, piece[3])
      refine b_cons (s_ret (e_call (ok_ahead T) (hr.mono (by decide)) T.g_ahead T.F_ahead.kp T.b_ahead tk (ea_cons (e_var 2 rfl) (ea_cons (e_ix (d := (Pc.arc c a b).D) (d' := pt a) (e_var 0 rfl) e_int rfl) (ea_cons (e_var 1 rfl) (ea_cons (e_ix (d := (Pc.arc c a b).D) (d' := pt b) (e_var 0 rfl) e_int rfl) ea_nil)))) ⟨c, a, x, b, _, _, _, _, rfl, hc, ha, hx, hb, by omega, rfl, rfl⟩) ?_)
      exact hR'
    | ring c a =>
      obtain ⟨hc, ha⟩ := hn
      have hR' : R (.d (.bool (decide (c.far x = c.far a)))) M := hR
      -- if piece[0] == 'dot' or piece[0] == 'stretch':
      refine b_cons (s_if (b1 := false) (EW.t (w_or (b1 := false) (b2 := false) (t_eq (z := false) hr (e_ix (d := (Pc.ring c a).D) (d' := .str "ring") (e_var 0 rfl) e_int rfl) e_str .d .d (by decide +kernel) (by decide +kernel) (by decide +kernel)) (fun hb => (w_or1 (t_eq (z := false) hr (e_ix (d := (Pc.ring c a).D) (d' := .str "ring") (e_var 0 rfl) e_int rfl) e_str .d .d (by decide +kernel) (by decide +kernel) (by decide +kernel)))))) (fun h1 => nomatch h1) (fun _ => b_nil ?_))
      -- c = piece[1]
      refine b_cons (s_set 2 sc_on.nd (e_ix (d := (Pc.ring c a).D) (d' := pt c) (e_var 0 rfl) e_int rfl) ?_)
      -- if far(c, p) != far(c, piece[2]):
      refine b_cons (s_if (t_ne (d1 := fr (c.far x)) (d2 := fr (c.far a)) hr (e_call (ok_far T) (hr.mono (by decide)) T.g_far T.F_far.kp T.b_far tk (ea_cons (e_var 2 rfl) (ea_cons (e_var 1 rfl) ea_nil)) ⟨c, x, _, _, rfl, hc, hx, by omega, rfl, rfl⟩) (e_call (ok_far T) (hr.mono (by decide)) T.g_far T.F_far.kp T.b_far tk (ea_cons (e_var 2 rfl) (ea_cons (e_ix (d := (Pc.ring c a).D) (d' := pt a) (e_var 0 rfl) e_int rfl) ea_nil)) ⟨c, a, _, _, rfl, hc, ha, by omega, rfl, rfl⟩) .d .d rfl rfl (eqv_fr _ _)) (fun h1 => ?_) (fun h1 => b_nil ?_))
      · rw [Bool.not_eq_true', decide_eq_false_iff_not] at h1
        refine b_cons (s_ret e_bl ?_)
        rw [decide_eq_false h1] at hR'
        exact hR'
      rw [Bool.not_eq_false', decide_eq_true_eq] at h1
      rw [decide_eq_true h1] at hR'
      -- if piece[0] == 'ring' or p == piece[2] or p == piece[3]:
      refine b_cons (s_if (b1 := true) (EW.t (w_or (b1 := true) (b2 := true) (t_eq (z := true) hr (e_ix (d := (Pc.ring c a).D) (d' := .str "ring") (e_var 0 rfl) e_int rfl) e_str .d .d (by decide +kernel) (by decide +kernel) (by decide +kernel)) (fun hb => nomatch hb))) (fun _ => ?_) (fun h1 => nomatch h1))
      refine b_cons (s_ret e_bl ?_)
      exact hR'

def c_comes_to : Con := fun ss M R _ => ∃ (c p q here goal : Pt), ss = [.d (Pc.arc c p q).D, .d (pt here), .d (pt goal)] ∧ (Pc.arc c p q).pc 300 300 ∧ Pb 300 here ∧ Pb 300 goal ∧ R (.d (.bool (comesB c p q here goal))) M
theorem ok_comes_to (T : Tx K mg) : FnOk P w K mg base (L2.CX P w) 8 T.a_comes_to T.fd_comes_to ["one", "here", "goal"] (spD K c_comes_to) := by
  refine Fun.okD T.F_comes_to sc_comes_to (fun ss M R Rx h => ?_) (fun cdv A outer s H E ss M R Rx h hr tk => ?_)
  · obtain ⟨c, p, q, here, goal, rfl, _⟩ := h
    rfl
  · obtain ⟨c, p, q, here, goal, rfl, hz, hh, hg, hR⟩ := h
    -- return goal != here and on(one, goal) and (not ahead(one[1], here, one[3], goal))
    refine b_cons (s_ret (e_is (e_and (e_ne (d1 := pt goal) (d2 := pt here) hr (e_var 2 rfl) (e_var 1 rfl) .d .d rfl rfl (pt_eqv _ _)) (fun hb0 => (e_and (e_call (ok_on T) (hr.mono (by decide)) T.g_on T.F_on.kp T.b_on tk (ea_cons (e_var 0 rfl) (ea_cons (e_var 2 rfl) ea_nil)) ⟨.arc c p q, goal, 300, 300, 300, rfl, hz, hg, by decide, rfl, rfl⟩) (fun hb1 => (e_one (e_not (e_call (ok_ahead T) (hr.mono (by decide)) T.g_ahead T.F_ahead.kp T.b_ahead tk (ea_cons (e_ix (d := (Pc.arc c p q).D) (d' := pt c) (e_var 0 rfl) e_int rfl) (ea_cons (e_var 1 rfl) (ea_cons (e_ix (d := (Pc.arc c p q).D) (d' := pt q) (e_var 0 rfl) e_int rfl) (ea_cons (e_var 2 rfl) ea_nil)))) ⟨c, here, q, goal, 300, 300, 300, 300, rfl, hz.1, hh, hz.2.2, hg, by decide, rfl, rfl⟩))))))) rfl) ?_)
    exact hR

def c_bent_chain : Con := fun ss M R _ => ∃ (zs : List Pc) (z : Pc), ss = [.d (.list (zs.map Pc.D)), .d z.D] ∧ zs.length ≤ 100 ∧ (∀ y ∈ zs, y.pc 300 300) ∧ z.pc 300 300 ∧ z.rd = true ∧ R (.d (.bool (bentGo z.fin zs z.two))) M
theorem rd_partsB {z : Pc} (h : z.pc 300 300) (hr : z.rd = true) : itD z.D 2 = some (pt z.two) ∧ itD z.D (-1) = some (pt z.fin) ∧ Pb 300 z.two ∧ Pb 300 z.fin := by
  cases z with
  | arc c p q => exact ⟨rfl, rfl, h.2.1, h.2.2⟩
  | ring c p => exact ⟨rfl, rfl, h.2, h.2⟩
  | dot p => cases hr
  | st p q => cases hr
theorem pc_drop {zs : List Pc} {i : Nat} {d : PyData} (h : (zs.map Pc.D)[i]? = some d) : ∃ y, zs.drop i = y :: zs.drop (i + 1) ∧ y ∈ zs ∧ d = y.D ∧ i < zs.length := by
  rw [List.getElem?_map] at h
  cases e : zs[i]? with
  | none => rw [e] at h; cases h
  | some y =>
    rw [e] at h
    obtain ⟨hlt, e2⟩ := List.getElem?_eq_some_iff.mp e
    exact ⟨y, by rw [← e2]; exact (List.getElem_cons_drop hlt).symm, List.mem_of_getElem? e, (Option.some.inj h).symm, hlt⟩
theorem ok_bent_chain (T : Tx K mg) : FnOk P w K mg base (L2.CX P w) 9 T.a_bent_chain T.fd_bent_chain ["pieces", "piece"] (spD K c_bent_chain) := by
  refine Fun.okD T.F_bent_chain sc_bent_chain (fun ss M R Rx h => ?_) (fun cdv A outer s H E ss M R Rx h hr tk => ?_)
  · obtain ⟨zs, z, rfl, _⟩ := h
    rfl
  · obtain ⟨zs, z, rfl, hl, hz, hzp, hrd, hR⟩ := h
    obtain ⟨i2, i3, h2, h3⟩ := rd_partsB hzp hrd
    -- here = piece[2]
    refine b_cons (s_set 2 sc_bent_chain.nd (e_ix (d := z.D) (d' := pt z.two) (e_var 1 rfl) e_int i2) ?_)
    -- goal = piece[-1]
    refine b_cons (s_set 3 sc_bent_chain.nd (e_ix (d := z.D) (d' := pt z.fin) (e_var 1 rfl) (e_neg e_int) i3) ?_)
    generalize z.fin = goal at *
    -- for k, one in enumerate(pieces):
    refine b_cons (s_for (passes_of rfl) rfl (i_enumL rfl T.n_enumerate (ea_cons (e_var 0 rfl) ea_nil)) (fun i γ' M' => M' = M ∧ ∃ (here : Pt) (u4 u5 : S), Pb 300 here ∧ bentGo goal (zs.drop i) here = bentGo goal zs z.two ∧ γ' = [.d (.list (zs.map Pc.D)), .d z.D, .d (pt here), .d (pt goal), u4, u5]) ⟨rfl, z.two, _, _, h2, rfl, rfl⟩ (fun _ _ _ _ => trivial) (fun i x γ2 M2 hx w => ?_) (fun γ2 M2 w => ?_))
    · obtain ⟨rfl, here, u4, u5, hh, hgo, rfl⟩ := w
      obtain ⟨d, hd, rfl⟩ := enumS_at hx
      obtain ⟨y, hy, hym, rfl, hil⟩ := pc_drop hd
      rw [hy] at hgo
      have hyp := hz y hym
      refine ⟨_, g_tup (ds := [.int i, y.D]) rfl (g_cons (g_name 4 sc_bent_chain.nd) (g_cons (g_name 5 sc_bent_chain.nd) g_nil)), ?_⟩
      cases y with
      | arc c p q =>
        have hgo : (if (!(Pc.arc c p q).on here || decide (q = here)) = true then false else if comesB c p q here goal = true then (zs.drop (i + 1)).isEmpty else bentGo goal (zs.drop (i + 1)) q) = bentGo goal zs z.two := hgo
        -- if one[0] != 'arc' or (not on(one, here)) or one[3] == here:
        refine b_cons (s_if (b1 := false || (!(Pc.arc c p q).on here || decide (q = here))) (EW.t (w_or (b1 := false) (t_ne (d1 := .str "arc") (d2 := .str "arc") (z := true) hr (e_ix (d := (Pc.arc c p q).D) (d' := .str "arc") (e_var 5 rfl) e_int rfl) e_str .d .d (by decide +kernel) (by decide +kernel) (by decide +kernel)) (fun hb => (w_or (t_not (t_val (e_call (ok_on T) (hr.mono (by decide)) T.g_on T.F_on.kp T.b_on tk (ea_cons (e_var 5 rfl) (ea_cons (e_var 2 rfl) ea_nil)) ⟨.arc c p q, here, 300, 300, 300, rfl, hyp, hh, by decide, rfl, rfl⟩))) (fun hb => (w_or1 (t_eq (d1 := pt q) (d2 := pt here) hr (e_ix (d := (Pc.arc c p q).D) (d' := pt q) (e_var 5 rfl) e_int rfl) (e_var 2 rfl) .d .d rfl rfl (pt_eqv _ _)))))))) (fun h1 => ?_) (fun h1 => b_nil ?_))
        · rw [Bool.false_or] at h1
          rw [if_pos h1] at hgo
          rw [← hgo] at hR
          -- return False
          exact b_cons (s_ret e_bl hR)
        rw [Bool.false_or] at h1
        rw [if_neg (by rw [h1]; decide)] at hgo
        -- if comes_to(one, here, goal):
        refine b_cons (s_if (t_val (e_call (ok_comes_to T) (hr.mono (by decide)) T.g_comes_to T.F_comes_to.kp T.b_comes_to tk (ea_cons (e_var 5 rfl) (ea_cons (e_var 2 rfl) (ea_cons (e_var 3 rfl) ea_nil))) ⟨c, p, q, here, goal, rfl, hyp, hh, h3, rfl, rfl⟩)) (fun h2 => ?_) (fun h2 => b_nil ?_))
        · rw [if_pos h2] at hgo
          have he : decide ((i : Int) = (zs.length : Int) - 1) = (zs.drop (i + 1)).isEmpty := by
            rw [Bool.eq_iff_iff, decide_eq_true_eq, List.isEmpty_iff, List.drop_eq_nil_iff]
            omega
          rw [← hgo] at hR
          -- return k == len(pieces) - 1
          refine b_cons (s_ret (e_is (e_eqI hr (e_var 4 rfl) (e_sub (e_len (d := .list (zs.map Pc.D)) (n := zs.length) rfl T.n_len (ea_cons (e_var 0 rfl) ea_nil) .d (show some (zs.map Pc.D).length = _ by rw [List.length_map])) e_int)) (congrArg (fun z => S.d (.bool z)) he)) ?_)
          exact hR
        rw [if_neg (by rw [h2]; decide)] at hgo
        -- here = one[3]
        refine b_cons (s_set 2 sc_bent_chain.nd (e_ix (d := (Pc.arc c p q).D) (d' := pt q) (e_var 5 rfl) e_int rfl) ?_)
        exact b_nil ⟨rfl, q, _, _, hyp.2.2, hgo, rfl⟩
      | dot p =>
        have hgo : false = bentGo goal zs z.two := hgo
        rw [← hgo] at hR
        -- if one[0] != 'arc' or (not on(one, here)) or one[3] == here:
        refine b_cons (s_if (b1 := true) (EW.t (w_or (b1 := true) (b2 := true) (t_ne (d1 := .str "dot") (d2 := .str "arc") (z := false) hr (e_ix (d := (Pc.dot p).D) (d' := .str "dot") (e_var 5 rfl) e_int rfl) e_str .d .d (by decide +kernel) (by decide +kernel) (by decide +kernel)) (fun hb => nomatch hb))) (fun h1 => ?_) (fun h1 => nomatch h1))
        -- return False
        exact b_cons (s_ret e_bl hR)
      | st p q =>
        have hgo : false = bentGo goal zs z.two := hgo
        rw [← hgo] at hR
        -- if one[0] != 'arc' or (not on(one, here)) or one[3] == here:
        refine b_cons (s_if (b1 := true) (EW.t (w_or (b1 := true) (b2 := true) (t_ne (d1 := .str "stretch") (d2 := .str "arc") (z := false) hr (e_ix (d := (Pc.st p q).D) (d' := .str "stretch") (e_var 5 rfl) e_int rfl) e_str .d .d (by decide +kernel) (by decide +kernel) (by decide +kernel)) (fun hb => nomatch hb))) (fun h1 => ?_) (fun h1 => nomatch h1))
        -- return False
        exact b_cons (s_ret e_bl hR)
      | ring c p =>
        have hgo : false = bentGo goal zs z.two := hgo
        rw [← hgo] at hR
        -- if one[0] != 'arc' or (not on(one, here)) or one[3] == here:
        refine b_cons (s_if (b1 := true) (EW.t (w_or (b1 := true) (b2 := true) (t_ne (d1 := .str "ring") (d2 := .str "arc") (z := false) hr (e_ix (d := (Pc.ring c p).D) (d' := .str "ring") (e_var 5 rfl) e_int rfl) e_str .d .d (by decide +kernel) (by decide +kernel) (by decide +kernel)) (fun hb => nomatch hb))) (fun h1 => ?_) (fun h1 => nomatch h1))
        -- return False
        exact b_cons (s_ret e_bl hR)
    · obtain ⟨rfl, here, u4, u5, hh, hgo, rfl⟩ := w
      have hlen : (enumS (zs.map Pc.D)).length = zs.length := by unfold enumS; rw [List.length_mapIdx, List.length_map]
      rw [hlen, List.drop_length] at hgo
      have hgo : false = bentGo goal zs z.two := hgo
      rw [← hgo] at hR
      -- return False
      exact b_cons (s_ret e_bl hR)

def c_straight_chain : Con := fun ss M R _ => ∃ (zs : List Pc) (p q : Pt), ss = [.d (.list (zs.map Pc.D)), .d (Pc.st p q).D] ∧ zs ≠ [] ∧ zs.length ≤ 100 ∧ (∀ y ∈ zs, y.pc 300 300) ∧ Pb 300 p ∧ Pb 300 q ∧ R (.d (.bool (stCh zs p q))) M
theorem st_shape {z : Pc} (h : z.isSt = true) : z = .st (dotP z) z.two := by cases z <;> first | rfl | cases h
theorem head_it {z : Pc} {zs : List Pc} : itD (.list ((z :: zs).map Pc.D)) 0 = some z.D := by
  show atI ((z :: zs).map Pc.D) ((0 : Nat) : Int) = _
  exact Pl.atI_nat rfl
theorem last_it {zs : List Pc} (h : zs ≠ []) : itD (.list (zs.map Pc.D)) (-1) = some (zs.getLastD (.dot PtZ)).D ∧ zs.getLastD (.dot PtZ) ∈ zs := by
  obtain ⟨l, z, rfl⟩ : ∃ l z, zs = l ++ [z] := ⟨zs.dropLast, zs.getLast h, (List.dropLast_concat_getLast h).symm⟩
  refine ⟨?_, ?_⟩
  · rw [List.map_append, List.getLastD_concat]
    exact atI_last
  · rw [List.getLastD_concat]
    exact List.mem_append_right _ (List.mem_singleton_self _)
def stOne (p q : Pt) (z : Pc) : Bool := z.isSt && (decide (cr p q (dotP z) = 0) && decide (cr p q z.two = 0))
theorem cut_less {α : Type} (xs : List α) : cutL xs none (some (-1)) = xs.take (xs.length - 1) := by
  unfold cutL
  have e : HT.sIx xs.length xs.length (some (-1)) = xs.length - 1 := by
    unfold HT.sIx
    show (if (-1 : Int) < 0 then ((-1 : Int) + (xs.length : Int)).toNat else min (-1 : Int).toNat xs.length) = _
    rw [if_pos (by decide)]
    omega
  rw [e]
  show List.take (xs.length - 1 - 0) (xs.drop 0) = _
  rw [List.drop_zero, Nat.sub_zero]
theorem cut_lastP (zs : List Pc) : cutL (zs.map Pc.D) none (some (-1)) = (zs.dropLast).map Pc.D := by
  have h := cut_less (zs.map Pc.D)
  rw [h, List.length_map, ← List.map_take, List.dropLast_eq_take]
theorem cut_oneP {zs : List Pc} : cutL (zs.map Pc.D) (some 1) none = (zs.drop 1).map Pc.D := by
  cases zs with
  | nil => rfl
  | cons z zs => exact cut_one _ _
theorem zip_less {α : Type} (l : List α) : l.dropLast.zip (l.drop 1) = l.zip (l.drop 1) := by
  induction l with
  | nil => rfl
  | cons a l ih =>
    cases l with
    | nil => rfl
    | cons b l =>
      show (a :: (b :: l).dropLast).zip (b :: l) = (a :: b :: l).zip (b :: l)
      rw [List.zip_cons_cons, List.zip_cons_cons]
      congr 1
theorem all_take {α : Type} {l : List α} {f : α → Bool} {i : Nat} {a : α} (h : l[i]? = some a) (hf : f a = false) : l.all f = false := by
  rw [Bool.eq_false_iff]
  intro z
  have := List.all_eq_true.mp z a (List.mem_of_getElem? h)
  rw [hf] at this
  cases this
theorem take_snoc {α : Type} {l : List α} {i : Nat} {a : α} (h : l[i]? = some a) : l.take (i + 1) = l.take i ++ [a] := by
  obtain ⟨h1, rfl⟩ := List.getElem?_eq_some_iff.mp h
  exact List.take_succ_eq_append_getElem h1
theorem ok_straight_chain (T : Tx K mg) : FnOk P w K mg base (L2.CX P w) 8 T.a_straight_chain T.fd_straight_chain ["pieces", "piece"] (spD K c_straight_chain) := by
  refine Fun.okD T.F_straight_chain sc_straight_chain (fun ss M R Rx h => ?_) (fun cdv A outer s H E ss M R Rx h hr tk => ?_)
  · obtain ⟨zs, p, q, rfl, _⟩ := h
    rfl
  · obtain ⟨zs, p, q, rfl, hne, hl, hz, hp, hq, hR⟩ := h
    have hdef : stCh zs p q = (zs.all (stOne p q) && (((zs.headD (.dot PtZ)).on p && (zs.getLastD (.dot PtZ)).on q) && ((zs.zip (zs.drop 1)).all fun a => a.2.on a.1.two))) := rfl
    rw [hdef] at hR
    have i1 : itD (Pc.st p q).D 1 = some (pt p) := rfl
    have i2 : itD (Pc.st p q).D 2 = some (pt q) := rfl
    -- for one in pieces:
    refine b_cons (s_for (passes_of rfl) rfl (i_list (e_var 0 rfl)) (fun i γ' M' => M' = M ∧ (∀ y ∈ zs.take i, stOne p q y = true) ∧ ∃ u2 u3, γ' = [.d (.list (zs.map Pc.D)), .d (Pc.st p q).D, u2, u3]) ⟨rfl, (fun y hy => by rw [List.take_zero] at hy; cases hy), _, _, rfl⟩ (fun _ _ _ _ => trivial) (fun i x γ2 M2 hx w => ?_) (fun γ2 M2 w => ?_))
    · obtain ⟨rfl, hy, u2, u3, rfl⟩ := w
      obtain ⟨y, hyi, rfl⟩ : ∃ y, zs[i]? = some y ∧ x = .d y.D := by
        rw [List.getElem?_map, List.getElem?_map] at hx
        cases e : zs[i]? with
        | none => rw [e] at hx; cases hx
        | some y => rw [e] at hx; exact ⟨y, rfl, (Option.some.inj hx).symm⟩
      have hyp := hz y (List.mem_of_getElem? hyi)
      have htk := take_snoc hyi
      refine ⟨_, g_name 2 sc_straight_chain.nd, ?_⟩
      cases y with
      | st u v =>
        have e1 : decide (sgI ((q.sub p).across (u.sub p)).num 0 = 0) = decide (cr p q u = 0) := decide_eq_decide.mpr sg_zero
        have e2 : decide (sgI ((q.sub p).across (v.sub p)).num 0 = 0) = decide (cr p q v = 0) := decide_eq_decide.mpr sg_zero
        -- if one[0] != 'stretch' or side(piece[1], piece[2], one[1]) != 0 or side(piece[1], piece[2], one[2]) != 0:
        refine b_cons (s_if (b1 := false || (!decide (cr p q u = 0) || !decide (cr p q v = 0))) (EW.t (w_or (b1 := false) (t_ne (d1 := .str "stretch") (d2 := .str "stretch") (z := true) hr (e_ix (d := (Pc.st u v).D) (d' := .str "stretch") (e_var 2 rfl) e_int rfl) e_str .d .d (by decide +kernel) (by decide +kernel) (by decide +kernel)) (fun hb => (w_or (t_is (t_neI hr (e_call (ok_side T) (hr.mono (by decide)) T.g_side T.F_side.kp T.b_side tk (ea_cons (e_ix (d := (Pc.st p q).D) (d' := pt p) (e_var 1 rfl) e_int rfl) (ea_cons (e_ix (d := (Pc.st p q).D) (d' := pt q) (e_var 1 rfl) e_int rfl) (ea_cons (e_ix (d := (Pc.st u v).D) (d' := pt u) (e_var 2 rfl) e_int rfl) ea_nil))) ⟨p, q, u, 300, 300, 300, rfl, hp, hq, hyp.1, by omega, rfl, rfl⟩) e_int) (congrArg (fun b => !b) e1)) (fun hb => (w_or1 (t_is (t_neI hr (e_call (ok_side T) (hr.mono (by decide)) T.g_side T.F_side.kp T.b_side tk (ea_cons (e_ix (d := (Pc.st p q).D) (d' := pt p) (e_var 1 rfl) e_int rfl) (ea_cons (e_ix (d := (Pc.st p q).D) (d' := pt q) (e_var 1 rfl) e_int rfl) (ea_cons (e_ix (d := (Pc.st u v).D) (d' := pt v) (e_var 2 rfl) e_int rfl) ea_nil))) ⟨p, q, v, 300, 300, 300, rfl, hp, hq, hyp.2, by omega, rfl, rfl⟩) e_int) (congrArg (fun b => !b) e2)))))))) (fun h1 => ?_) (fun h1 => b_nil ?_))
        · have hf : stOne p q (.st u v) = false := by
            show (true && (decide (cr p q u = 0) && decide (cr p q v = 0))) = false
            rw [Bool.true_and]
            cases ha : decide (cr p q u = 0) with
            | false => rfl
            | true => cases hb : decide (cr p q v = 0) with
              | false => rfl
              | true => rw [ha, hb] at h1; cases h1
          rw [all_take hyi hf, Bool.false_and] at hR
          -- return False
          exact b_cons (s_ret e_bl hR)
        · have hf : stOne p q (.st u v) = true := by
            show (true && (decide (cr p q u = 0) && decide (cr p q v = 0))) = true
            rw [Bool.true_and]
            cases ha : decide (cr p q u = 0) with
            | false => rw [ha] at h1; cases h1
            | true => cases hb : decide (cr p q v = 0) with
              | false => rw [ha, hb] at h1; cases h1
              | true => rfl
          refine b_nil ⟨rfl, fun z hz' => ?_, _, _, rfl⟩
          rw [htk] at hz'
          rcases List.mem_append.mp hz' with hz' | hz'
          · exact hy z hz'
          · rw [List.mem_singleton.mp hz']; exact hf
      | dot u =>
        rw [all_take hyi (show stOne p q (.dot u) = false from rfl), Bool.false_and] at hR
        -- if one[0] != 'stretch' or side(piece[1], piece[2], one[1]) != 0 or side(piece[1], piece[2], one[2]) != 0:
        refine b_cons (s_if (b1 := true) (EW.t (w_or (b1 := true) (b2 := true) (t_ne (d1 := .str "dot") (d2 := .str "stretch") (z := false) hr (e_ix (d := (Pc.dot u).D) (d' := .str "dot") (e_var 2 rfl) e_int rfl) e_str .d .d (by decide +kernel) (by decide +kernel) (by decide +kernel)) (fun hb => nomatch hb))) (fun h1 => ?_) (fun h1 => nomatch h1))
        exact b_cons (s_ret e_bl hR)
      | arc c u v =>
        rw [all_take hyi (show stOne p q (.arc c u v) = false from rfl), Bool.false_and] at hR
        -- if one[0] != 'stretch' or side(piece[1], piece[2], one[1]) != 0 or side(piece[1], piece[2], one[2]) != 0:
        refine b_cons (s_if (b1 := true) (EW.t (w_or (b1 := true) (b2 := true) (t_ne (d1 := .str "arc") (d2 := .str "stretch") (z := false) hr (e_ix (d := (Pc.arc c u v).D) (d' := .str "arc") (e_var 2 rfl) e_int rfl) e_str .d .d (by decide +kernel) (by decide +kernel) (by decide +kernel)) (fun hb => nomatch hb))) (fun h1 => ?_) (fun h1 => nomatch h1))
        exact b_cons (s_ret e_bl hR)
      | ring c u =>
        rw [all_take hyi (show stOne p q (.ring c u) = false from rfl), Bool.false_and] at hR
        -- if one[0] != 'stretch' or side(piece[1], piece[2], one[1]) != 0 or side(piece[1], piece[2], one[2]) != 0:
        refine b_cons (s_if (b1 := true) (EW.t (w_or (b1 := true) (b2 := true) (t_ne (d1 := .str "ring") (d2 := .str "stretch") (z := false) hr (e_ix (d := (Pc.ring c u).D) (d' := .str "ring") (e_var 2 rfl) e_int rfl) e_str .d .d (by decide +kernel) (by decide +kernel) (by decide +kernel)) (fun hb => nomatch hb))) (fun h1 => ?_) (fun h1 => nomatch h1))
        exact b_cons (s_ret e_bl hR)
    · obtain ⟨rfl, hy, u2, u3, rfl⟩ := w
      rw [List.length_map, List.length_map, List.take_length] at hy
      rw [List.all_eq_true.mpr hy, Bool.true_and] at hR
      obtain ⟨j2, m2⟩ := last_it hne
      have hh : itD (.list (zs.map Pc.D)) 0 = some (zs.headD (.dot PtZ)).D ∧ zs.headD (.dot PtZ) ∈ zs := by
        cases zs with
        | nil => exact absurd rfl hne
        | cons z zs => exact ⟨head_it, List.mem_cons_self⟩
      -- if not on(pieces[0], piece[1]) or not on(pieces[-1], piece[2]):
      refine b_cons (s_if (EW.t (w_or (t_not (t_val (e_call (ok_on T) (hr.mono (by decide)) T.g_on T.F_on.kp T.b_on tk (ea_cons (e_ix (d := .list (zs.map Pc.D)) (e_var 0 rfl) e_int hh.1) (ea_cons (e_ix (d := (Pc.st p q).D) (d' := pt p) (e_var 1 rfl) e_int rfl) ea_nil)) ⟨zs.headD (.dot PtZ), p, 300, 300, 300, rfl, hz _ hh.2, hp, by decide, rfl, rfl⟩))) (fun hb => (w_or1 (t_not (t_val (e_call (ok_on T) (hr.mono (by decide)) T.g_on T.F_on.kp T.b_on tk (ea_cons (e_ix (d := .list (zs.map Pc.D)) (e_var 0 rfl) (e_neg e_int) j2) (ea_cons (e_ix (d := (Pc.st p q).D) (d' := pt q) (e_var 1 rfl) e_int rfl) ea_nil)) ⟨zs.getLastD (.dot PtZ), q, 300, 300, 300, rfl, hz _ m2, hq, by decide, rfl, rfl⟩))))))) (fun h1 => ?_) (fun h1 => b_nil ?_))
      · have : ((zs.headD (.dot PtZ)).on p && (zs.getLastD (.dot PtZ)).on q) = false := by
          cases ha : (zs.headD (.dot PtZ)).on p with
          | false => rfl
          | true => cases hb : (zs.getLastD (.dot PtZ)).on q with
            | false => rfl
            | true => rw [ha, hb] at h1; cases h1
        rw [this, Bool.false_and] at hR
        -- return False
        exact b_cons (s_ret e_bl hR)
      have : ((zs.headD (.dot PtZ)).on p && (zs.getLastD (.dot PtZ)).on q) = true := by
        cases ha : (zs.headD (.dot PtZ)).on p with
        | false => rw [ha] at h1; cases h1
        | true => cases hb : (zs.getLastD (.dot PtZ)).on q with
          | false => rw [ha, hb] at h1; cases h1
          | true => rfl
      rw [this, Bool.true_and] at hR
      have hzip : ((zs.dropLast.map Pc.D).zip ((zs.drop 1).map Pc.D)).map (fun a => PyData.tuple [a.1, a.2]) = (zs.zip (zs.drop 1)).map fun a => PyData.tuple [a.1.D, a.2.D] := by
        rw [← zip_less, List.zip_map, List.map_map]
        rfl
      -- for one, other in zip(pieces[:-1], pieces[1:]):
      refine b_cons (s_for (passes_of rfl) rfl (i_zipL rfl T.n_zip (ea_cons (e_is (e_slice (l := none) (h := some (-1)) (e_var 0 rfl) o_none (o_some (e_neg e_int))) (congrArg (fun z => S.d (.list z)) (cut_lastP zs))) (ea_cons (e_is (e_slice (l := some 1) (e_var 0 rfl) (o_some e_int) o_none) (congrArg (fun z => S.d (.list z)) (cut_oneP (zs := zs)))) ea_nil))) (fun i γ' M' => M' = M2 ∧ (∀ a ∈ (zs.zip (zs.drop 1)).take i, a.2.on a.1.two = true) ∧ ∃ u2 u3, γ' = [.d (.list (zs.map Pc.D)), .d (Pc.st p q).D, u2, u3]) ⟨rfl, (fun y hy => by rw [List.take_zero] at hy; cases hy), _, _, rfl⟩ (fun _ _ _ _ => trivial) (fun i x γ2 M3 hx w => ?_) (fun γ2 M3 w => ?_))
      · obtain ⟨rfl, ha, u2, u3, rfl⟩ := w
        obtain ⟨a, hai, rfl⟩ : ∃ a, (zs.zip (zs.drop 1))[i]? = some a ∧ x = .d (.tuple [a.1.D, a.2.D]) := by
          have hx : (((zs.dropLast.map Pc.D).zip ((zs.drop 1).map Pc.D)).map fun a => S.d (PyData.tuple [a.1, a.2]))[i]? = some x := hx
          have e : ((zs.dropLast.map Pc.D).zip ((zs.drop 1).map Pc.D)).map (fun a => S.d (PyData.tuple [a.1, a.2])) = (((zs.dropLast.map Pc.D).zip ((zs.drop 1).map Pc.D)).map (fun a => PyData.tuple [a.1, a.2])).map S.d := by rw [List.map_map]; rfl
          rw [e, hzip, List.getElem?_map, List.getElem?_map] at hx
          cases e : (zs.zip (zs.drop 1))[i]? with
          | none => rw [e] at hx; cases hx
          | some a => rw [e] at hx; exact ⟨a, rfl, (Option.some.inj hx).symm⟩
        have ham := List.mem_of_getElem? hai
        obtain ⟨a1, a2⟩ := a
        have k1 := (List.of_mem_zip ham).1
        have k2 := List.mem_of_mem_drop (List.of_mem_zip ham).2
        have hs1 : stOne p q a1 = true := hy a1 k1
        have hst : a1.isSt = true := by
          unfold stOne at hs1
          rw [Bool.and_eq_true] at hs1
          exact hs1.1
        have hsh := st_shape hst
        have h1p := hz a1 k1
        rw [hsh] at h1p
        refine ⟨_, g_tup (ds := [a1.D, a2.D]) rfl (g_cons (g_name 2 sc_straight_chain.nd) (g_cons (g_name 3 sc_straight_chain.nd) g_nil)), ?_⟩
        -- if not on(other, one[2]):
        refine b_cons (s_if (t_not (t_val (e_call (ok_on T) (hr.mono (by decide)) T.g_on T.F_on.kp T.b_on tk (ea_cons (e_var 3 rfl) (ea_cons (e_ix (d := a1.D) (d' := pt a1.two) (e_var 2 rfl) e_int (by rw [hsh]; rfl)) ea_nil)) ⟨a2, a1.two, 300, 300, 300, rfl, hz _ k2, h1p.2, by decide, rfl, rfl⟩))) (fun h2 => ?_) (fun h2 => b_nil ?_))
        · rw [Bool.not_eq_true'] at h2
          rw [all_take hai (f := fun a => a.2.on a.1.two) h2] at hR
          -- return False
          exact b_cons (s_ret e_bl hR)
        · rw [Bool.not_eq_false'] at h2
          refine b_nil ⟨rfl, fun z hz' => ?_, _, _, rfl⟩
          rw [take_snoc hai] at hz'
          rcases List.mem_append.mp hz' with hz' | hz'
          · exact ha z hz'
          · rw [List.mem_singleton.mp hz']; exact h2
      · obtain ⟨rfl, ha, u2, u3, rfl⟩ := w
        have hall : ((zs.zip (zs.drop 1)).all fun a => a.2.on a.1.two) = true := List.all_eq_true.mpr fun a hm => by
          refine ha a ?_
          have hlen : (zipS (zs.dropLast.map Pc.D) ((zs.drop 1).map Pc.D)).length = (zs.zip (zs.drop 1)).length := by
            unfold zipS
            rw [List.length_map, List.length_zip, List.length_zip, List.length_map, List.length_map, List.length_dropLast, List.length_drop]
            omega
          rw [hlen, List.take_length]
          exact hm
        rw [hall] at hR
        -- return True
        exact b_cons (s_ret e_bl hR)

def c_same_circle : Con := fun ss M R _ => ∃ (y z : Pc), ss = [.d y.D, .d z.D] ∧ y.pc 300 300 ∧ z.pc 300 300 ∧ z.rd = true ∧ R (.d (.bool (sameCir z y))) M
theorem rd_cen2 {z : Pc} (h : z.pc 300 300) (hr : z.rd = true) : itD z.D 1 = some (pt z.cen) ∧ itD z.D 2 = some (pt z.two) ∧ Pb 300 z.cen ∧ Pb 300 z.two := by
  cases z with
  | arc c p q => exact ⟨rfl, rfl, h.1, h.2.1⟩
  | ring c p => exact ⟨rfl, rfl, h.1, h.2⟩
  | dot p => cases hr
  | st p q => cases hr
theorem ok_same_circle (T : Tx K mg) : FnOk P w K mg base (L2.CX P w) 6 T.a_same_circle T.fd_same_circle ["one", "piece"] (spD K c_same_circle) := by
  refine Fun.okD T.F_same_circle sc_same_circle (fun ss M R Rx h => ?_) (fun cdv A outer s H E ss M R Rx h hr tk => ?_)
  · obtain ⟨y, z, rfl, _⟩ := h
    rfl
  · obtain ⟨y, z, rfl, hy, hz, hrd, hR⟩ := h
    obtain ⟨i1, i2, h1, h2⟩ := rd_cen2 hz hrd
    have go : ∀ (b : Bool), y.rd = b → sameCir z y = (b && (decide (y.cen = z.cen) && decide (y.cen.far y.two = z.cen.far z.two))) := fun b hb => by
      cases y with
      | arc c p q => cases hb; rfl
      | ring c p => cases hb; rfl
      | dot p => cases hb; rfl
      | st p q => cases hb; rfl
    rw [go _ rfl] at hR
    -- return one[0] in ('arc', 'ring') and one[1] == piece[1] and far(one[1], one[2]) == far(piece[1], piece[2])
    refine b_cons (s_ret (e_and (b1 := y.rd) (b2 := decide (y.cen = z.cen) && decide (y.cen.far y.two = z.cen.far z.two)) (e_inT hr (d := y.word) (ds := [.str "arc", .str "ring"]) (e_ix (d := y.D) (d' := y.word) (e_var 0 rfl) e_int (word_at y)) (e_tup (ds := [_, _]) (ea_cons e_str (ea_cons e_str ea_nil))) .d (word_sh y) .d (by decide +kernel) (word_rd y)) (fun hb => ?_)) ?_)
    · obtain ⟨j1, j2, k1, k2⟩ := rd_cen2 hy hb
      exact (e_and (e_eq (d1 := pt y.cen) (d2 := pt z.cen) hr (e_ix (d := y.D) (d' := pt y.cen) (e_var 0 rfl) e_int j1) (e_ix (d := z.D) (d' := pt z.cen) (e_var 1 rfl) e_int i1) .d .d rfl rfl (pt_eqv _ _)) (fun hb0 => (e_one (e_eq (d1 := fr (y.cen.far y.two)) (d2 := fr (z.cen.far z.two)) hr (e_call (ok_far T) (hr.mono (by decide)) T.g_far T.F_far.kp T.b_far tk (ea_cons (e_ix (d := y.D) (d' := pt y.cen) (e_var 0 rfl) e_int j1) (ea_cons (e_ix (d := y.D) (d' := pt y.two) (e_var 0 rfl) e_int j2) ea_nil)) ⟨y.cen, y.two, 300, 300, rfl, k1, k2, by decide, rfl, rfl⟩) (e_call (ok_far T) (hr.mono (by decide)) T.g_far T.F_far.kp T.b_far tk (ea_cons (e_ix (d := z.D) (d' := pt z.cen) (e_var 1 rfl) e_int i1) (ea_cons (e_ix (d := z.D) (d' := pt z.two) (e_var 1 rfl) e_int i2) ea_nil)) ⟨z.cen, z.two, 300, 300, rfl, h1, h2, by decide, rfl, rfl⟩) .d .d rfl rfl (eqv_fr _ _)))))
    · exact hR

def c_chain_shown : Con := fun ss M R _ => ∃ (zs : List Pc) (z : Pc), ss = [.d (.list (zs.map Pc.D)), .d z.D] ∧ zs ≠ [] ∧ zs.length ≤ 100 ∧ (∀ y ∈ zs, y.pc 300 300) ∧ z.pc 300 300 ∧ R (.d (.bool (chB zs z))) M
theorem word_ring89 (z : Pc) : PyData.eqv z.word (.str "ring") = isRing z := (word_ring z).trans (by cases z <;> rfl)
theorem ne_nilP {zs : List Pc} (h : zs ≠ []) : PyData.eqv (.list (zs.map Pc.D)) (.list []) = false := by
  cases zs with
  | nil => exact absurd rfl h
  | cons z zs => rfl
theorem vl_bools89 {α : Type} {M : MM} (l : List α) (f : α → Bool) : VL M (.d (.list (l.map fun y => PyData.bool (f y)))) ((l.map f).map fun b => S.d (.bool b)) := by
  have h := VL.d (M := M) (xs := l.map fun y => PyData.bool (f y))
  rw [List.map_map] at h ⊢
  exact h
theorem all_id89 {α : Type} (l : List α) (f : α → Bool) : (l.map f).all id = l.all f := by rw [List.all_map]; rfl
theorem ok_chain_shown (T : Tx K mg) : FnOk P w K mg base (L2.CX P w) 10 T.a_chain_shown T.fd_chain_shown ["pieces", "piece"] (spD K c_chain_shown) := by
  refine Fun.okD T.F_chain_shown sc_chain_shown (fun ss M R Rx h => ?_) (fun cdv A outer s H E ss M R Rx h hr tk => ?_)
  · obtain ⟨zs, z, rfl, _⟩ := h
    rfl
  · obtain ⟨zs, z, rfl, hne, hl, hz, hzp, hR⟩ := h
    have hsh : SeqAt.shaped (.list (zs.map Pc.D)) = true := Lay.sh (lay_list (lay_map lay_pc))
    have hh : itD (.list (zs.map Pc.D)) 0 = some (zs.headD (.dot PtZ)).D ∧ zs.headD (.dot PtZ) ∈ zs := by
      cases zs with
      | nil => exact absurd rfl hne
      | cons z zs => exact ⟨head_it, List.mem_cons_self⟩
    have hln : lenD (.list (zs.map Pc.D)) = some zs.length := by show some (zs.map Pc.D).length = _; rw [List.length_map]
    have e1 : decide ((zs.length : Int) = 1) = decide (zs.length = 1) := decide_eq_decide.mpr (by omega)
    -- if pieces == []:
    refine b_cons (s_if (b1 := false) (t_eq (d1 := .list (zs.map Pc.D)) (d2 := .list []) (z := false) hr (e_var 0 rfl) (e_lst (ds := []) ea_nil) .d .d hsh (by decide +kernel) (ne_nilP hne)) (fun h => nomatch h) (fun _ => b_nil ?_))
    cases z with
    | dot p =>
      have hR : R (.d (.bool (decide (zs.length = 1) && (zs.headD (.dot PtZ)).on p))) M := hR
      -- if piece[0] == 'dot':
      refine b_cons (s_if (b1 := true) (t_eq (d1 := .str "dot") (z := true) hr (e_ix (d := (Pc.dot p).D) (d' := .str "dot") (e_var 1 rfl) e_int rfl) e_str .d .d (by decide +kernel) (by decide +kernel) (by decide +kernel)) (fun _ => ?_) (fun h => nomatch h))
      -- return len(pieces) == 1 and on(pieces[0], piece[1])
      refine b_cons (s_ret (e_is (e_and (e_eqI hr (e_len (d := .list (zs.map Pc.D)) (n := zs.length) rfl T.n_len (ea_cons (e_var 0 rfl) ea_nil) .d hln) e_int) (fun hb0 => (e_one (e_call (ok_on T) (hr.mono (by decide)) T.g_on T.F_on.kp T.b_on tk (ea_cons (e_ix (d := .list (zs.map Pc.D)) (e_var 0 rfl) e_int hh.1) (ea_cons (e_ix (d := (Pc.dot p).D) (d' := pt p) (e_var 1 rfl) e_int rfl) ea_nil)) ⟨zs.headD (.dot PtZ), p, 300, 300, 300, rfl, hz _ hh.2, hzp, by decide, rfl, rfl⟩)))) (show S.d (.bool (decide ((zs.length : Int) = 1) && _)) = _ by rw [e1])) ?_)
      exact hR
    | st p q =>
      -- if piece[0] == 'dot':
      refine b_cons (s_if (b1 := false) (t_eq (d1 := .str "stretch") (z := false) hr (e_ix (d := (Pc.st p q).D) (d' := .str "stretch") (e_var 1 rfl) e_int rfl) e_str .d .d (by decide +kernel) (by decide +kernel) (by decide +kernel)) (fun h => nomatch h) (fun _ => b_nil ?_))
      -- if piece[0] == 'stretch':
      refine b_cons (s_if (b1 := true) (t_eq (d1 := .str "stretch") (z := true) hr (e_ix (d := (Pc.st p q).D) (d' := .str "stretch") (e_var 1 rfl) e_int rfl) e_str .d .d (by decide +kernel) (by decide +kernel) (by decide +kernel)) (fun _ => ?_) (fun h => nomatch h))
      -- return straight_chain(pieces, piece)
      exact b_cons (s_ret (e_call (ok_straight_chain T) (hr.mono (by decide)) T.g_straight_chain T.F_straight_chain.kp T.b_straight_chain tk (ea_cons (e_var 0 rfl) (ea_cons (e_var 1 rfl) ea_nil)) ⟨zs, p, q, rfl, hne, hl, hz, hzp.1, hzp.2, rfl, rfl⟩) hR)
    | arc c p q =>
      have hR : R (.d (.bool (if zs.all (sameCir (.arc c p q)) = true then (if (decide (zs.length = 1) && isRing (zs.headD (.dot PtZ))) = true then true else bentGo q zs p) else false))) M := hR
      -- if piece[0] == 'dot':
      refine b_cons (s_if (b1 := false) (t_eq (d1 := .str "arc") (z := false) hr (e_ix (d := (Pc.arc c p q).D) (d' := .str "arc") (e_var 1 rfl) e_int rfl) e_str .d .d (by decide +kernel) (by decide +kernel) (by decide +kernel)) (fun h => nomatch h) (fun _ => b_nil ?_))
      -- if piece[0] == 'stretch':
      refine b_cons (s_if (b1 := false) (t_eq (d1 := .str "arc") (z := false) hr (e_ix (d := (Pc.arc c p q).D) (d' := .str "arc") (e_var 1 rfl) e_int rfl) e_str .d .d (by decide +kernel) (by decide +kernel) (by decide +kernel)) (fun h => nomatch h) (fun _ => b_nil ?_))
      -- if not all([same_circle(one, piece) for one in pieces]):
      refine b_cons (s_if (b1 := !(zs.all (sameCir (.arc c p q)))) (t_not (t_val (e_is (e_all (bs := zs.map (sameCir (.arc c p q))) rfl rfl T.n_all (ea_cons (e_frz (n_compI 2 zs Pc.D (fun y => PyData.bool (sameCir (.arc c p q) y)) rfl sc_chain_shown.nd (i_list (e_var 0 rfl)) (blkOk_by rfl) (show 2 < 3 by decide) (Nat.ble_eq_true_of_le (by omega)) (fun y hy M' s H C cl fp => e_call (ok_same_circle T) (hr.mono (by decide)) T.g_same_circle T.F_same_circle.kp T.b_same_circle tkF (ea_cons (e_var 2 rfl) (ea_cons (e_var 1 rfl) ea_nil)) ⟨y, .arc c p q, rfl, hz y hy, hzp, rfl, rfl, rfl⟩) (hg := fun _ _ _ _ _ => pg_name sc_chain_shown.nd rfl (Or.inl rfl)))) ea_nil) (vl_bools89 _ _)) (congrArg (fun z => S.d (.bool z)) (all_id89 _ _))))) (fun h1 => ?_) (fun h1 => b_nil ?_))
      · rw [Bool.not_eq_true'] at h1
        rw [if_neg (by rw [h1]; decide)] at hR
        exact b_cons (s_ret e_bl hR)
      rw [Bool.not_eq_false'] at h1
      rw [if_pos h1] at hR
      -- if len(pieces) == 1 and pieces[0][0] == 'ring':
      refine b_cons (s_if (b1 := decide (zs.length = 1) && isRing (zs.headD (.dot PtZ))) (EW.t (w_and (t_is (t_eqI hr (e_len (d := .list (zs.map Pc.D)) (n := zs.length) rfl T.n_len (ea_cons (e_var 0 rfl) ea_nil) .d hln) e_int) e1) (fun hb => (w_and1 (t_eq (d1 := (zs.headD (.dot PtZ)).word) (d2 := .str "ring") hr (e_ix (d := (zs.headD (.dot PtZ)).D) (d' := (zs.headD (.dot PtZ)).word) (e_ix (d := .list (zs.map Pc.D)) (e_var 0 rfl) e_int hh.1) e_int (word_at _)) e_str .d .d (word_sh _) (by decide +kernel) (word_ring89 _)))))) (fun h2 => ?_) (fun h2 => b_nil ?_))
      · rw [if_pos h2] at hR
        exact b_cons (s_ret e_bl hR)
      rw [if_neg (by rw [h2]; decide)] at hR
      -- return bent_chain(pieces, piece)
      exact b_cons (s_ret (e_call (ok_bent_chain T) (hr.mono (by decide)) T.g_bent_chain T.F_bent_chain.kp T.b_bent_chain tk (ea_cons (e_var 0 rfl) (ea_cons (e_var 1 rfl) ea_nil)) ⟨zs, .arc c p q, rfl, hl, hz, hzp, rfl, rfl, rfl⟩) hR)
    | ring c p =>
      have hR : R (.d (.bool (if zs.all (sameCir (.ring c p)) = true then (if (decide (zs.length = 1) && isRing (zs.headD (.dot PtZ))) = true then true else bentGo p zs p) else false))) M := hR
      -- if piece[0] == 'dot':
      refine b_cons (s_if (b1 := false) (t_eq (d1 := .str "ring") (z := false) hr (e_ix (d := (Pc.ring c p).D) (d' := .str "ring") (e_var 1 rfl) e_int rfl) e_str .d .d (by decide +kernel) (by decide +kernel) (by decide +kernel)) (fun h => nomatch h) (fun _ => b_nil ?_))
      -- if piece[0] == 'stretch':
      refine b_cons (s_if (b1 := false) (t_eq (d1 := .str "ring") (z := false) hr (e_ix (d := (Pc.ring c p).D) (d' := .str "ring") (e_var 1 rfl) e_int rfl) e_str .d .d (by decide +kernel) (by decide +kernel) (by decide +kernel)) (fun h => nomatch h) (fun _ => b_nil ?_))
      -- if not all([same_circle(one, piece) for one in pieces]):
      refine b_cons (s_if (b1 := !(zs.all (sameCir (.ring c p)))) (t_not (t_val (e_is (e_all (bs := zs.map (sameCir (.ring c p))) rfl rfl T.n_all (ea_cons (e_frz (n_compI 2 zs Pc.D (fun y => PyData.bool (sameCir (.ring c p) y)) rfl sc_chain_shown.nd (i_list (e_var 0 rfl)) (blkOk_by rfl) (show 2 < 3 by decide) (Nat.ble_eq_true_of_le (by omega)) (fun y hy M' s H C cl fp => e_call (ok_same_circle T) (hr.mono (by decide)) T.g_same_circle T.F_same_circle.kp T.b_same_circle tkF (ea_cons (e_var 2 rfl) (ea_cons (e_var 1 rfl) ea_nil)) ⟨y, .ring c p, rfl, hz y hy, hzp, rfl, rfl, rfl⟩) (hg := fun _ _ _ _ _ => pg_name sc_chain_shown.nd rfl (Or.inl rfl)))) ea_nil) (vl_bools89 _ _)) (congrArg (fun z => S.d (.bool z)) (all_id89 _ _))))) (fun h1 => ?_) (fun h1 => b_nil ?_))
      · rw [Bool.not_eq_true'] at h1
        rw [if_neg (by rw [h1]; decide)] at hR
        exact b_cons (s_ret e_bl hR)
      rw [Bool.not_eq_false'] at h1
      rw [if_pos h1] at hR
      -- if len(pieces) == 1 and pieces[0][0] == 'ring':
      refine b_cons (s_if (b1 := decide (zs.length = 1) && isRing (zs.headD (.dot PtZ))) (EW.t (w_and (t_is (t_eqI hr (e_len (d := .list (zs.map Pc.D)) (n := zs.length) rfl T.n_len (ea_cons (e_var 0 rfl) ea_nil) .d hln) e_int) e1) (fun hb => (w_and1 (t_eq (d1 := (zs.headD (.dot PtZ)).word) (d2 := .str "ring") hr (e_ix (d := (zs.headD (.dot PtZ)).D) (d' := (zs.headD (.dot PtZ)).word) (e_ix (d := .list (zs.map Pc.D)) (e_var 0 rfl) e_int hh.1) e_int (word_at _)) e_str .d .d (word_sh _) (by decide +kernel) (word_ring89 _)))))) (fun h2 => ?_) (fun h2 => b_nil ?_))
      · rw [if_pos h2] at hR
        exact b_cons (s_ret e_bl hR)
      rw [if_neg (by rw [h2]; decide)] at hR
      -- return bent_chain(pieces, piece)
      exact b_cons (s_ret (e_call (ok_bent_chain T) (hr.mono (by decide)) T.g_bent_chain T.F_bent_chain.kp T.b_bent_chain tk (ea_cons (e_var 0 rfl) (ea_cons (e_var 1 rfl) ea_nil)) ⟨zs, .ring c p, rfl, hl, hz, hzp, rfl, rfl, rfl⟩) hR)

def c_grown : Con := fun ss M R _ => ∃ (p : Pt) (x : Rat) (n m : Nat), ss = [.d (pt p), .d (fr x)] ∧ Pb n p ∧ Fb m x ∧ n + m ≤ 9000 ∧ R (.d (pt (p.smul x))) M
theorem ok_grown (T : Tx K mg) : FnOk P w K mg base (L2.CX P w) 4 T.a_grown T.fd_grown ["p", "number"] (spD K c_grown) := by
  refine Fun.okD T.F_grown sc_grown (fun ss M R Rx h => ?_) (fun cdv A outer s H E ss M R Rx h hr tk => ?_)
  · obtain ⟨p, x, n, m, rfl, _⟩ := h
    rfl
  · obtain ⟨p, x, n, m, rfl, h0, h1, h2, hR⟩ := h
    -- return (times(p[0], number), times(p[1], number))
    refine b_cons (s_ret (e_tup (ds := [_, _]) (ea_cons (e_call (ok_times T) (hr.mono (by decide)) T.g_times T.F_times.kp T.b_times tk (ea_cons (e_ix (e_var 0 rfl) e_int rfl) (ea_cons (e_var 1 rfl) ea_nil)) ⟨_, _, _, _, rfl, by walk_at "fb", by walk_at "fb", by first | omega | decide, rfl, rfl⟩) (ea_cons (e_call (ok_times T) (hr.mono (by decide)) T.g_times T.F_times.kp T.b_times tk (ea_cons (e_ix (e_var 0 rfl) e_int rfl) (ea_cons (e_var 1 rfl) ea_nil)) ⟨_, _, _, _, rfl, by walk_at "fb", by walk_at "fb", by first | omega | decide, rfl, rfl⟩) ea_nil))) ?_)
    exact hR

def c_turned : Con := fun ss M R _ => ∃ (p : Pt) (k : Int), ss = [.d (pt p), .d (.int k)] ∧ R (.d (pt (p.turn (k % 4).toNat))) M
theorem ok_turned (T : Tx K mg) : FnOk P w K mg base (L2.CX P w) 1 T.a_turned T.fd_turned ["p", "quarters"] (spD K c_turned) := by
  refine Fun.okD T.F_turned sc_turned (fun ss M R Rx h => ?_) (fun cdv A outer s H E ss M R Rx h hr tk => ?_)
  · obtain ⟨p, k, rfl, _⟩ := h
    rfl
  · obtain ⟨p, k, rfl, hR⟩ := h
    -- x, y = p
    refine b_cons (s_asg (e_var 0 rfl) (g_tup (ds := [fr p.x, fr p.y]) rfl (g_cons (g_name 3 sc_turned.nd) (g_cons (g_name 4 sc_turned.nd) g_nil))) ?_)
    have hk4 : (0 : Int) ≤ k % 4 ∧ k % 4 < 4 := by omega
    -- for turn in range(quarters % 4):
    refine b_cons (s_for (passes_of rfl) rfl (i_range1 rfl T.n_range (ea_cons (e_mod (e_var 1 rfl) e_int (by decide)) ea_nil) (by omega)) (fun i γ' M' => M' = M ∧ ∃ z, γ' = [.d (pt p), .d (.int k), z, .d (fr (p.turn i).x), .d (fr (p.turn i).y)]) ⟨rfl, _, rfl⟩ (fun _ _ _ _ => trivial) (fun i x γ2 M2 hx w => ?_) (fun γ2 M2 w => ?_))
    · obtain ⟨rfl, z, rfl⟩ := w
      refine ⟨_, g_name 2 sc_turned.nd, ?_⟩
      -- x, y = ((0 - y[0], y[1]), x)
      refine b_cons (s_par 3 4 rfl sc_turned.nd (ea_cons (e_tup (ds := [_, _]) (ea_cons (e_sub e_int (e_ix (d := fr (p.turn i).y) (e_var 4 rfl) e_int rfl)) (ea_cons (e_ix (d := fr (p.turn i).y) (e_var 4 rfl) e_int rfl) ea_nil))) (ea_cons (e_var 3 rfl) ea_nil)) ?_)
      rw [neg_tup]
      exact b_nil ⟨rfl, _, rfl⟩
    · obtain ⟨rfl, z, rfl⟩ := w
      rw [List.length_map, List.length_range]
      -- return (x, y)
      refine b_cons (s_ret (e_tup (ds := [_, _]) (ea_cons (e_var 3 rfl) (ea_cons (e_var 4 rfl) ea_nil))) ?_)
      exact hR

def c_led : Con := fun ss M R _ => ∃ (f : Fr) (p : Pt) (n k : Nat), ss = [.d (frD f), .d (pt p)] ∧ f.ok ∧ Frb n f ∧ Pb k p ∧ k + n + n ≤ 8900 ∧ R (.d (pt (f.led p))) M
theorem ok_led (T : Tx K mg) : FnOk P w K mg base (L2.CX P w) 5 T.a_led T.fd_led ["frame", "p"] (spD K c_led) := by
  refine Fun.okD T.F_led sc_led (fun ss M R Rx h => ?_) (fun cdv A outer s H E ss M R Rx h hr tk => ?_)
  · obtain ⟨f, p, n, k, rfl, _⟩ := h
    rfl
  · obtain ⟨f, p, n, k, rfl, hf, hn, hp, hnk, hR⟩ := h
    have hh := pb_turn (pb_handed hf hp) (f.turns % 4).toNat
    -- place, turns, hand, size = frame
    refine b_cons (s_asg (e_var 0 rfl) (g_tup (ds := [pt f.place, .int f.turns, .int f.hand, fr f.size]) rfl (g_cons (g_name 2 sc_led.nd) (g_cons (g_name 3 sc_led.nd) (g_cons (g_name 4 sc_led.nd) (g_cons (g_name 5 sc_led.nd) g_nil))))) ?_)
    -- x, y = p
    refine b_cons (s_asg (e_var 1 rfl) (g_tup (ds := [fr p.x, fr p.y]) rfl (g_cons (g_name 6 sc_led.nd) (g_cons (g_name 7 sc_led.nd) g_nil))) ?_)
    have hm : CMulW f.hand p.y.num := wide_mul (a := 2) (by rcases hf.hd with h | h <;> rw [h] <;> decide) hp.2.1 (by decide) hp.2.pos (by omega)
    -- return together(grown(turned((x, (hand * y[0], y[1])), turns), size), place)
    refine b_cons (s_ret (e_call (ok_together T) (hr.mono (by decide)) T.g_together T.F_together.kp T.b_together tk (ea_cons (e_call (ok_grown T) (hr.mono (by decide)) T.g_grown T.F_grown.kp T.b_grown tk (ea_cons (e_call (ok_turned T) (hr.mono (by decide)) T.g_turned T.F_turned.kp T.b_turned tk (ea_cons (e_tup (ds := [_, _]) (ea_cons (e_var 6 rfl) (ea_cons (e_is (e_tup (ds := [_, _]) (ea_cons (e_mul (e_var 4 rfl) (e_ix (d := fr p.y) (e_var 7 rfl) e_int rfl) hm) (ea_cons (e_ix (d := fr p.y) (e_var 7 rfl) e_int rfl) ea_nil))) (congrArg S.d (hand_fr hf.hd p.y))) ea_nil))) (ea_cons (e_var 3 rfl) ea_nil)) ⟨⟨p.x, (f.hand : Rat) * p.y⟩, f.turns, rfl, rfl, rfl⟩) (ea_cons (e_var 5 rfl) ea_nil)) ⟨_, f.size, _, _, rfl, hh, hn.sz, by first | omega | decide, rfl, rfl⟩) (ea_cons (e_var 2 rfl) ea_nil)) ⟨_, f.place, _, _, rfl, pb_smul hh hn.sz, hn.pl, by first | omega | decide, rfl, rfl⟩) ?_)
    exact hR

def c_led_piece : Con := fun ss M R _ => ∃ (f : Fr) (z : Pc) (n k : Nat), ss = [.d (frD f), .d z.D] ∧ f.ok ∧ Frb n f ∧ z.pb k ∧ 2 * k + 4 * n ≤ 8900 ∧ R (.d (z.led f).D) M
theorem stretchP_D (p q : Pt) : stretchD p q = (stretchP p q).D := by
  unfold stretchD stretchP
  split
  · rfl
  · split <;> rfl
theorem ok_led_piece (T : Tx K mg) : FnOk P w K mg base (L2.CX P w) 6 T.a_led_piece T.fd_led_piece ["frame", "piece"] (spD K c_led_piece) := by
  refine Fun.okD T.F_led_piece sc_led_piece (fun ss M R Rx h => ?_) (fun cdv A outer s H E ss M R Rx h hr tk => ?_)
  · obtain ⟨f, z, n, k, rfl, _⟩ := h
    rfl
  · obtain ⟨f, z, n, k, rfl, hf, hn, hz, hnk, hR⟩ := h
    cases z with
    | dot p =>
      -- points = [led(frame, p) for p in piece[1:]]
      refine b_cons (s_compI 2 3 [p] pt (fun p => pt (f.led p)) rfl sc_led_piece.nd (i_tup (ds := [pt p]) (e_is (e_sliceA (ds := [.str "dot", pt p]) (l := some 1) (h := none) (e_var 1 rfl) (o_some e_int) o_none) rfl)) (blkOk_by rfl) (show 3 < 4 by decide) rfl (fun x hx M' s H C cl fp => (e_call (ok_led T) (hr.mono (by decide)) T.g_led T.F_led.kp T.b_led tkF (ea_cons (e_var 0 rfl) (ea_cons (e_var 3 rfl) ea_nil)) ⟨f, x, n, k, rfl, hf, hn, by rw [List.mem_singleton.mp hx]; exact hz, by omega, rfl, rfl⟩)) (fun L => ?_) (hg := fun _ _ _ _ _ => pg_name sc_led_piece.nd rfl (Or.inl rfl)))
      refine b_frz (ds := [pt (f.led p)]) 2 rfl ?_
      -- if piece[0] == 'stretch':
      refine b_cons (s_if (b1 := false) (t_eq (z := false) hr (e_ix (d := (Pc.dot p).D) (d' := .str "dot") (e_var 1 rfl) e_int rfl) e_str .d .d (by decide +kernel) (by decide +kernel) (by decide +kernel)) (fun h1 => nomatch h1) (fun _ => b_nil ?_))
      -- if piece[0] == 'arc' and frame[2] < 0:
      refine b_cons (s_if (b1 := false) (EW.t (w_and (b1 := false) (b2 := false) (t_eq (z := false) hr (e_ix (d := (Pc.dot p).D) (d' := .str "dot") (e_var 1 rfl) e_int rfl) e_str .d .d (by decide +kernel) (by decide +kernel) (by decide +kernel)) (fun hb => nomatch hb))) (fun h1 => nomatch h1) (fun _ => b_nil ?_))
      -- return (piece[0],) + tuple(points)
      refine b_cons (s_ret (e_catT (xs := [.str "dot"]) (ys := [pt (f.led p)]) (e_tup (ds := [_]) (ea_cons (e_ix (d := (Pc.dot p).D) (d' := .str "dot") (e_var 1 rfl) e_int rfl) ea_nil)) (e_tupleL (ds := [pt (f.led p)]) rfl T.n_tuple (ea_cons (e_var 2 rfl) ea_nil) .d) (show 2 ≤ 100000 by decide)) ?_)
      exact hR
    | st p q =>
      obtain ⟨hp, hq⟩ := hz
      -- points = [led(frame, p) for p in piece[1:]]
      refine b_cons (s_compI 2 3 [p, q] pt (fun p => pt (f.led p)) rfl sc_led_piece.nd (i_tup (ds := [pt p, pt q]) (e_is (e_sliceA (ds := [.str "stretch", pt p, pt q]) (l := some 1) (h := none) (e_var 1 rfl) (o_some e_int) o_none) rfl)) (blkOk_by rfl) (show 3 < 4 by decide) rfl (fun x hx M' s H C cl fp => (e_call (ok_led T) (hr.mono (by decide)) T.g_led T.F_led.kp T.b_led tkF (ea_cons (e_var 0 rfl) (ea_cons (e_var 3 rfl) ea_nil)) ⟨f, x, n, k, rfl, hf, hn, by rcases List.mem_cons.mp hx with rfl | hx; exact hp; rw [List.mem_singleton.mp hx]; exact hq, by omega, rfl, rfl⟩)) (fun L => ?_) (hg := fun _ _ _ _ _ => pg_name sc_led_piece.nd rfl (Or.inl rfl)))
      refine b_frz (ds := [pt (f.led p), pt (f.led q)]) 2 rfl ?_
      -- if piece[0] == 'stretch':
      refine b_cons (s_if (b1 := true) (t_eq (z := true) hr (e_ix (d := (Pc.st p q).D) (d' := .str "stretch") (e_var 1 rfl) e_int rfl) e_str .d .d (by decide +kernel) (by decide +kernel) (by decide +kernel)) (fun _ => ?_) (fun h1 => nomatch h1))
      -- return stretch(points[0], points[1])
      refine b_cons (s_ret (e_call (ok_stretch T) (hr.mono (by decide)) T.g_stretch T.F_stretch.kp T.b_stretch tk (ea_cons (e_ix (d := .list [pt (f.led p), pt (f.led q)]) (d' := pt (f.led p)) (e_var 2 rfl) e_int rfl) (ea_cons (e_ix (d := .list [pt (f.led p), pt (f.led q)]) (d' := pt (f.led q)) (e_var 2 rfl) e_int rfl) ea_nil)) ⟨f.led p, f.led q, _, _, rfl, pb_led hf hn hp, pb_led hf hn hq, by omega, rfl, rfl⟩) ?_)
      rw [stretchP_D]
      exact hR
    | arc c p q =>
      obtain ⟨hc, hp, hq⟩ := hz
      unfold Pc.led at hR
      -- points = [led(frame, p) for p in piece[1:]]
      refine b_cons (s_compI 2 3 [c, p, q] pt (fun p => pt (f.led p)) rfl sc_led_piece.nd (i_tup (ds := [pt c, pt p, pt q]) (e_is (e_sliceA (ds := [.str "arc", pt c, pt p, pt q]) (l := some 1) (h := none) (e_var 1 rfl) (o_some e_int) o_none) rfl)) (blkOk_by rfl) (show 3 < 4 by decide) rfl (fun x hx M' s H C cl fp => (e_call (ok_led T) (hr.mono (by decide)) T.g_led T.F_led.kp T.b_led tkF (ea_cons (e_var 0 rfl) (ea_cons (e_var 3 rfl) ea_nil)) ⟨f, x, n, k, rfl, hf, hn, by rcases List.mem_cons.mp hx with rfl | hx; exact hc; rcases List.mem_cons.mp hx with rfl | hx; exact hp; rw [List.mem_singleton.mp hx]; exact hq, by omega, rfl, rfl⟩)) (fun L => ?_) (hg := fun _ _ _ _ _ => pg_name sc_led_piece.nd rfl (Or.inl rfl)))
      refine b_frz (ds := [pt (f.led c), pt (f.led p), pt (f.led q)]) 2 rfl ?_
      -- if piece[0] == 'stretch':
      refine b_cons (s_if (b1 := false) (t_eq (z := false) hr (e_ix (d := (Pc.arc c p q).D) (d' := .str "arc") (e_var 1 rfl) e_int rfl) e_str .d .d (by decide +kernel) (by decide +kernel) (by decide +kernel)) (fun h1 => nomatch h1) (fun _ => b_nil ?_))
      -- if piece[0] == 'arc' and frame[2] < 0:
      refine b_cons (s_if (b1 := decide (f.hand < 0)) (t_is (EW.t (w_and (b1 := true) (b2 := decide (f.hand < 0)) (t_eq (z := true) hr (e_ix (d := (Pc.arc c p q).D) (d' := .str "arc") (e_var 1 rfl) e_int rfl) e_str .d .d (by decide +kernel) (by decide +kernel) (by decide +kernel)) (fun hb => (w_and1 (t_lt (e_ix (d := frD f) (d' := .int f.hand) (e_var 0 rfl) e_int rfl) e_int))))) (Bool.true_and _)) (fun h1 => ?_) (fun h1 => b_nil ?_))
      · -- return ('arc', points[0], points[2], points[1])
        refine b_cons (s_ret (e_tup (ds := [_, _, _, _]) (ea_cons e_str (ea_cons (e_ix (d := .list [pt (f.led c), pt (f.led p), pt (f.led q)]) (d' := pt (f.led c)) (e_var 2 rfl) e_int rfl) (ea_cons (e_ix (d := .list [pt (f.led c), pt (f.led p), pt (f.led q)]) (d' := pt (f.led q)) (e_var 2 rfl) e_int rfl) (ea_cons (e_ix (d := .list [pt (f.led c), pt (f.led p), pt (f.led q)]) (d' := pt (f.led p)) (e_var 2 rfl) e_int rfl) ea_nil))))) ?_)
        simp only [if_pos (of_decide_eq_true h1)] at hR
        exact hR
      -- return (piece[0],) + tuple(points)
      refine b_cons (s_ret (e_catT (xs := [.str "arc"]) (ys := [pt (f.led c), pt (f.led p), pt (f.led q)]) (e_tup (ds := [_]) (ea_cons (e_ix (d := (Pc.arc c p q).D) (d' := .str "arc") (e_var 1 rfl) e_int rfl) ea_nil)) (e_tupleL (ds := [pt (f.led c), pt (f.led p), pt (f.led q)]) rfl T.n_tuple (ea_cons (e_var 2 rfl) ea_nil) .d) (show 4 ≤ 100000 by decide)) ?_)
      simp only [if_neg (of_decide_eq_false h1)] at hR
      exact hR
    | ring c p =>
      obtain ⟨hc, hp⟩ := hz
      -- points = [led(frame, p) for p in piece[1:]]
      refine b_cons (s_compI 2 3 [c, p] pt (fun p => pt (f.led p)) rfl sc_led_piece.nd (i_tup (ds := [pt c, pt p]) (e_is (e_sliceA (ds := [.str "ring", pt c, pt p]) (l := some 1) (h := none) (e_var 1 rfl) (o_some e_int) o_none) rfl)) (blkOk_by rfl) (show 3 < 4 by decide) rfl (fun x hx M' s H C cl fp => (e_call (ok_led T) (hr.mono (by decide)) T.g_led T.F_led.kp T.b_led tkF (ea_cons (e_var 0 rfl) (ea_cons (e_var 3 rfl) ea_nil)) ⟨f, x, n, k, rfl, hf, hn, by rcases List.mem_cons.mp hx with rfl | hx; exact hc; rw [List.mem_singleton.mp hx]; exact hp, by omega, rfl, rfl⟩)) (fun L => ?_) (hg := fun _ _ _ _ _ => pg_name sc_led_piece.nd rfl (Or.inl rfl)))
      refine b_frz (ds := [pt (f.led c), pt (f.led p)]) 2 rfl ?_
      -- if piece[0] == 'stretch':
      refine b_cons (s_if (b1 := false) (t_eq (z := false) hr (e_ix (d := (Pc.ring c p).D) (d' := .str "ring") (e_var 1 rfl) e_int rfl) e_str .d .d (by decide +kernel) (by decide +kernel) (by decide +kernel)) (fun h1 => nomatch h1) (fun _ => b_nil ?_))
      -- if piece[0] == 'arc' and frame[2] < 0:
      refine b_cons (s_if (b1 := false) (EW.t (w_and (b1 := false) (b2 := false) (t_eq (z := false) hr (e_ix (d := (Pc.ring c p).D) (d' := .str "ring") (e_var 1 rfl) e_int rfl) e_str .d .d (by decide +kernel) (by decide +kernel) (by decide +kernel)) (fun hb => nomatch hb))) (fun h1 => nomatch h1) (fun _ => b_nil ?_))
      -- return (piece[0],) + tuple(points)
      refine b_cons (s_ret (e_catT (xs := [.str "ring"]) (ys := [pt (f.led c), pt (f.led p)]) (e_tup (ds := [_]) (ea_cons (e_ix (d := (Pc.ring c p).D) (d' := .str "ring") (e_var 1 rfl) e_int rfl) ea_nil)) (e_tupleL (ds := [pt (f.led c), pt (f.led p)]) rfl T.n_tuple (ea_cons (e_var 2 rfl) ea_nil) .d) (show 3 ≤ 100000 by decide)) ?_)
      exact hR

def c_first : Con := fun ss M R _ => ss = [] ∧ R (.d (frD Fr.one)) M
theorem ok_first (T : Tx K mg) : FnOk P w K mg base (L2.CX P w) 1 T.a_first T.fd_first [] (spD K c_first) := by
  refine Fun.okD T.F_first sc_first (fun ss M R Rx h => ?_) (fun cdv A outer s H E ss M R Rx h hr tk => ?_)
  · obtain ⟨rfl, _⟩ := h
    rfl
  · obtain ⟨rfl, hR⟩ := h
    refine b_cons (s_ret (e_tup (ds := [_, _, _, _]) (ea_cons (e_con T.m_NOUGHT T.r_NOUGHT T.d_NOUGHT) (ea_cons e_int (ea_cons e_int (ea_cons (e_tup (ds := [_, _]) (ea_cons e_int (ea_cons e_int ea_nil))) ea_nil))))) ?_)
    exact hR

def c_behind : Con := fun ss M R _ => ∃ (f g : Fr) (n m : Nat), ss = [.d (frD f), .d (frD g)] ∧ f.ok ∧ g.ok ∧ Frb n f ∧ Frb m g ∧ m + n + n ≤ 8900 ∧ R (.d (frD (f.behind g))) M
theorem ok_behind (T : Tx K mg) : FnOk P w K mg base (L2.CX P w) 6 T.a_behind T.fd_behind ["one", "other"] (spD K c_behind) := by
  refine Fun.okD T.F_behind sc_behind (fun ss M R Rx h => ?_) (fun cdv A outer s H E ss M R Rx h hr tk => ?_)
  · obtain ⟨f, g, n, m, rfl, _⟩ := h
    rfl
  · obtain ⟨f, g, n, m, rfl, hf, hg, hn, hm, hnm, hR⟩ := h
    have hk : ∀ z : Int, z.natAbs < 2 ^ 4 → CMulW f.hand z := fun z hz => wide_mul (a := 2) (b := 4) (by rcases hf.hd with h | h <;> rw [h] <;> decide) hz (by decide) (by decide) (by decide)
    have h0 := hn.sz.pos
    have h1 := hm.sz.pos
    -- turns = (one[1] + one[2] * other[1]) % 4
    refine b_cons (s_set 2 sc_behind.nd (e_mod (e_add (e_ix (d := frD f) (d' := .int f.turns) (e_var 0 rfl) e_int rfl) (e_mul (e_ix (d := frD f) (d' := .int f.hand) (e_var 0 rfl) e_int rfl) (e_ix (d := frD g) (d' := .int g.turns) (e_var 1 rfl) e_int rfl) (hk _ (by have := hg.t0; have := hg.t1; omega)))) e_int (by decide)) ?_)
    -- return (led(one, other[0]), turns, one[2] * other[2], times(one[3], other[3]))
    refine b_cons (s_ret (e_tup (ds := [_, _, _, _]) (ea_cons (e_call (ok_led T) (hr.mono (by decide)) T.g_led T.F_led.kp T.b_led tk (ea_cons (e_var 0 rfl) (ea_cons (e_ix (d := frD g) (d' := pt g.place) (e_var 1 rfl) e_int rfl) ea_nil)) ⟨f, g.place, _, _, rfl, hf, hn, hm.pl, by first | omega | decide, rfl, rfl⟩) (ea_cons (e_var 2 rfl) (ea_cons (e_mul (e_ix (d := frD f) (d' := .int f.hand) (e_var 0 rfl) e_int rfl) (e_ix (d := frD g) (d' := .int g.hand) (e_var 1 rfl) e_int rfl) (hk _ (by rcases hg.hd with h | h <;> rw [h] <;> decide))) (ea_cons (e_call (ok_times T) (hr.mono (by decide)) T.g_times T.F_times.kp T.b_times tk (ea_cons (e_ix (d := frD f) (d' := fr f.size) (e_var 0 rfl) e_int rfl) (ea_cons (e_ix (d := frD g) (d' := fr g.size) (e_var 1 rfl) e_int rfl) ea_nil)) ⟨f.size, g.size, _, _, rfl, hn.sz, hm.sz, by first | omega | decide, rfl, rfl⟩) ea_nil))))) ?_)
    exact hR

def c_power : Con := fun ss M R _ => ∃ (f : Fr) (n B : Nat), ss = [.d (frD f), .d (.int n)] ∧ f.ok ∧ (∀ k, k ≤ 2 * n + 1 → Frb B (pw f k)) ∧ B ≤ 2900 ∧ R (.d (frD (pw f n))) M
theorem ok_power (T : Tx K mg) : FnOk P w K mg base (L2.CX P w) 7 T.a_power T.fd_power ["frame", "n"] (spD K c_power) := by
  refine Fun.okD T.F_power sc_power (fun ss M R Rx h => ?_) (fun cdv A outer s H E ss M R Rx h hr tk => ?_)
  · obtain ⟨f, n, B, rfl, _⟩ := h
    rfl
  · obtain ⟨f, n, B, rfl, hf, hb, hB, hR⟩ := h
    -- found = first()
    refine b_cons (s_set 2 sc_power.nd (e_call0 (ok_first T) (hr.mono (by decide)) T.g_first T.F_first.kp T.b_first tk ⟨rfl, rfl, rfl⟩) ?_)
    -- base = frame
    refine b_cons (s_set 3 sc_power.nd (e_var 0 rfl) ?_)
    -- while n > 0:
    refine b_cons (s_while (passes_of rfl) (fun m γ' M' => ∃ a b : Nat, γ' = [.d (frD f), .d (.int (m : Nat)), .d (frD (pw f a)), .d (frD (pw f b))] ∧ M' = M ∧ a + b * m = n ∧ b ≤ 2 * n + 1) n ⟨0, 1, by rw [pw_one hf] <;> rfl, rfl, by omega, by omega⟩ fun m γ2 M2 w => ?_)
    obtain ⟨a, b, rfl, rfl, hab, hbn⟩ := w
    refine ⟨_, _, (t_gt (e_var 1 rfl) e_int), fun h1 => ?_, fun h1 => ?_⟩
    · rw [decide_eq_true_eq] at h1
      have hm : 0 < m := by omega
      have hbm : b ≤ b * m := Nat.le_mul_of_pos_right _ hm
      have b2 : b + b ≤ 2 * n + 1 := by omega
      have e2 : ((m : Nat) : Int).fdiv 2 = ((m / 2 : Nat) : Int) := by rw [Int.fdiv_eq_ediv_of_nonneg _ (by decide)]; omega
      -- if n % 2 == 1:
      refine b_cut (fun γ' M' => ∃ a2, γ' = [.d (frD f), .d (.int (m : Nat)), .d (frD (pw f a2)), .d (frD (pw f b))] ∧ M' = M2 ∧ a2 + b * (2 * (m / 2)) = n) (s_if (t_eqI hr (e_mod (e_var 1 rfl) e_int (by decide)) e_int) (fun h2 => ?_) (fun h2 => b_nil ⟨a, rfl, rfl, ?_⟩)) ?_
      · rw [decide_eq_true_eq] at h2
        -- found = behind(found, base)
        refine b_cons (s_set 2 sc_power.nd (e_call (ok_behind T) (hr.mono (by decide)) T.g_behind T.F_behind.kp T.b_behind tk (ea_cons (e_var 2 rfl) (ea_cons (e_var 3 rfl) ea_nil)) ⟨pw f a, pw f b, B, B, rfl, pw_ok hf a, pw_ok hf b, hb a (by omega), hb b hbn, by omega, rfl, rfl⟩) ?_)
        rw [pw_add hf]
        refine b_nil ⟨a + b, rfl, rfl, ?_⟩
        have : m = 2 * (m / 2) + 1 := by omega
        rw [this, Nat.mul_add] at hab
        omega
      · rw [decide_eq_false_iff_not] at h2
        have : m = 2 * (m / 2) := by omega
        rw [← this]
        exact hab
      rintro _ _ ⟨a2, rfl, rfl, ha2⟩
      -- base = behind(base, base)
      refine b_cons (s_set 3 sc_power.nd (e_call (ok_behind T) (hr.mono (by decide)) T.g_behind T.F_behind.kp T.b_behind tk (ea_cons (e_var 3 rfl) (ea_cons (e_var 3 rfl) ea_nil)) ⟨pw f b, pw f b, B, B, rfl, pw_ok hf b, pw_ok hf b, hb b hbn, hb b hbn, by omega, rfl, rfl⟩) ?_)
      rw [pw_add hf]
      -- n = n // 2
      refine b_cons (s_set 1 sc_power.nd (e_fdiv (e_var 1 rfl) e_int (by walk_at "ob")) ?_)
      rw [e2]
      refine b_nil ⟨m / 2, by omega, a2, b + b, rfl, rfl, ?_, b2⟩
      rw [← ha2, ← Nat.mul_assoc, Nat.mul_comm b 2, Nat.two_mul]
    · rw [decide_eq_false_iff_not] at h1
      have hm : m = 0 := by omega
      subst hm
      -- return found
      refine b_cons (s_ret (e_var 2 rfl) ?_)
      have : a = n := by omega
      rw [this]
      exact hR

/-! not met -/

def gvF (zs : List Pc) : List (Str × S) := [("wanted", .d (.tuple [.str "none"])), ("still", .d (.list (zs.map Pc.D))), ("flow", .d (.list []))]
def c_Given_piece (K : PySem.W.Frag) : Con := fun ss M R _ => ∃ (a C : Addr) (zs : List Pc) (k i : Nat) (z : Pc), ss = [.ob a, .d (.int (i : Nat)), .d (.int 0)] ∧ M[k]? = some (a, .ins C (gvF zs)) ∧ Cls K C ∧ (NoAttr K C "wanted" ∧ NoAttr K C "still" ∧ NoAttr K C "flow") ∧ zs[i]? = some z ∧ R (.d z.D) M
theorem len_pcs (zs : List Pc) : lenD (.list (zs.map Pc.D)) = some zs.length := by show some (zs.map Pc.D).length = _; rw [List.length_map]
theorem it_pcs {zs : List Pc} {i : Nat} {z : Pc} (h : zs[i]? = some z) : itD (.list (zs.map Pc.D)) (i : Int) = some z.D := by
  refine Pl.atI_nat ?_
  rw [List.getElem?_map, h]
  rfl
theorem ok_Given_piece (T : Tx K mg) : FnOk P w K mg base (L2.CX P w) 8 T.a_Given_piece T.fd_Given_piece ["self", "number", "n"] (spD K (c_Given_piece K)) := by
  refine Fun.okD T.F_Given_piece sc_Given_piece (fun ss M R Rx h => ?_) (fun cdv A outer s H E ss M R Rx h hr tk => ?_)
  · obtain ⟨a, C, zs, k, i, z, rfl, _⟩ := h
    rfl
  · obtain ⟨a, C, zs, k, i, z, rfl, hk, hC, ⟨n1, n2, n3⟩, hz, hR⟩ := h
    have hil := (List.getElem?_eq_some_iff.mp hz).1
    -- if number < len(self.still):
    refine b_cons (s_if (b1 := true) (t_is (t_lt (e_var 1 rfl) (e_len (d := .list (zs.map Pc.D)) (n := zs.length) rfl T.n_len (ea_cons (e_fld (e_var 0 rfl) hk hC n2 rfl) ea_nil) .d (len_pcs zs))) (decide_eq_true (show (i : Int) < (zs.length : Int) by omega))) (fun _ => ?_) (fun h => nomatch h))
    -- return self.still[number]
    refine b_cons (s_ret (e_ix (d := .list (zs.map Pc.D)) (d' := z.D) (e_fld (e_var 0 rfl) hk hC n2 rfl) (e_var 1 rfl) (it_pcs hz)) ?_)
    exact hR

def c_is_number : Con := fun ss M R _ => ∃ k : Nat, ss = [.d (.int (k : Nat))] ∧ R (.d (.bool true)) M
theorem ok_is_number (T : Tx K mg) : FnOk P w K mg base (L2.CX P w) 1 T.a_is_number T.fd_is_number ["thing"] (spD K c_is_number) := by
  refine Fun.okD T.F_is_number sc_is_number (fun ss M R Rx h => ?_) (fun cdv A outer s H E ss M R Rx h hr tk => ?_)
  · obtain ⟨k, rfl, _⟩ := h
    rfl
  · obtain ⟨k, rfl, hR⟩ := h
    -- return isinstance(thing, int) and (not isinstance(thing, bool)) and (thing >= 0)
    refine b_cons (s_ret (e_is (e_and (b1 := true) (b2 := true) (e_isi (d := .int (k : Nat)) rfl T.n_isinstance (ea_cons (e_var 0 rfl) (ea_cons (e_ty (n := "int") rfl T.n_int (by decide +kernel)) ea_nil)) .d k_int_int) (fun hb0 => (e_and (b1 := true) (b2 := true) (e_is (e_not (b1 := false) (e_isi (d := .int (k : Nat)) rfl T.n_isinstance (ea_cons (e_var 0 rfl) (ea_cons (e_ty (n := "bool") rfl T.n_bool (by decide +kernel)) ea_nil)) .d k_int_bool)) rfl) (fun hb1 => (e_one (e_is (e_ge (e_var 0 rfl) e_int) (show _ = S.d (.bool true) by rw [decide_eq_true (show (0 : Int) ≤ (k : Int) by omega)]))))))) rfl) ?_)
    exact hR

def c_Given_is_one (K : PySem.W.Frag) : Con := fun ss M R _ => ∃ (a C : Addr) (zs : List Pc) (k i : Nat), ss = [.ob a, .d (.tuple [.int (i : Nat), .int 0])] ∧ M[k]? = some (a, .ins C (gvF zs)) ∧ Cls K C ∧ (NoAttr K C "wanted" ∧ NoAttr K C "still" ∧ NoAttr K C "flow") ∧ i < zs.length ∧ R (.d (.bool true)) M
theorem ok_Given_is_one (T : Tx K mg) : FnOk P w K mg base (L2.CX P w) 2 T.a_Given_is_one T.fd_Given_is_one ["self", "thing"] (spD K (c_Given_is_one K)) := by
  refine Fun.okD T.F_Given_is_one sc_Given_is_one (fun ss M R Rx h => ?_) (fun cdv A outer s H E ss M R Rx h hr tk => ?_)
  · obtain ⟨a, C, zs, k, i, rfl, _⟩ := h
    rfl
  · obtain ⟨a, C, zs, k, i, rfl, hk, hC, ⟨n1, n2, n3⟩, hil, hR⟩ := h
    -- if not isinstance(thing, tuple) or len(thing) != 2 or (not is_number(thing[0])) or (not is_number(thing[1])):
    refine b_cons (s_if (b1 := false) (EW.t (w_or (b1 := false) (b2 := false) (t_not (b1 := true) (t_val (e_isi (d := .tuple [.int (i : Nat), .int 0]) rfl T.n_isinstance (ea_cons (e_var 1 rfl) (ea_cons (e_ty (n := "tuple") rfl T.n_tuple (by decide +kernel)) ea_nil)) .d k_tuple_tuple))) (fun hb => (w_or (b1 := false) (b2 := false) (t_is (t_neI hr (e_len (d := .tuple [.int (i : Nat), .int 0]) (n := 2) rfl T.n_len (ea_cons (e_var 1 rfl) ea_nil) .d rfl) e_int) rfl) (fun hb => (w_or (b1 := false) (b2 := false) (t_not (b1 := true) (t_val (e_call (ok_is_number T) (hr.mono (by decide)) T.g_is_number T.F_is_number.kp T.b_is_number tk (ea_cons (e_ix (d := .tuple [.int (i : Nat), .int 0]) (d' := .int (i : Nat)) (e_var 1 rfl) e_int rfl) ea_nil) ⟨i, rfl, rfl, rfl⟩))) (fun hb => (w_or1 (t_not (b1 := true) (t_val (e_call (ok_is_number T) (hr.mono (by decide)) T.g_is_number T.F_is_number.kp T.b_is_number tk (ea_cons (e_ix (d := .tuple [.int (i : Nat), .int 0]) (d' := .int (0 : Nat)) (e_var 1 rfl) e_int rfl) ea_nil) ⟨0, rfl, rfl, rfl⟩))))))))))) (fun h => nomatch h) (fun _ => b_nil ?_))
    -- if thing[0] >= len(self.still) + len(self.flow) or (thing[0] < len(self.still) and thing[1] > 0):
    refine b_cons (s_if (b1 := false) (EW.t (w_or (b1 := false) (b2 := false) (t_is (t_ge (e_ix (d := .tuple [.int (i : Nat), .int 0]) (d' := .int (i : Nat)) (e_var 1 rfl) e_int rfl) (e_add (e_len (d := .list (zs.map Pc.D)) (n := zs.length) rfl T.n_len (ea_cons (e_fld (e_var 0 rfl) hk hC n2 rfl) ea_nil) .d (len_pcs zs)) (e_len (d := .list []) (n := 0) rfl T.n_len (ea_cons (e_fld (e_var 0 rfl) hk hC n3 rfl) ea_nil) .d rfl))) (decide_eq_false (show ¬ ((zs.length : Int) + ((0 : Nat) : Int)) ≤ (i : Int) by omega))) (fun hb => (w_or1 (EW.t (w_and (b1 := true) (b2 := false) (t_is (t_lt (e_ix (d := .tuple [.int (i : Nat), .int 0]) (d' := .int (i : Nat)) (e_var 1 rfl) e_int rfl) (e_len (d := .list (zs.map Pc.D)) (n := zs.length) rfl T.n_len (ea_cons (e_fld (e_var 0 rfl) hk hC n2 rfl) ea_nil) .d (len_pcs zs))) (decide_eq_true (show (i : Int) < (zs.length : Int) by omega))) (fun hb => (w_and1 (t_is (t_gt (e_ix (d := .tuple [.int (i : Nat), .int 0]) (d' := .int 0) (e_var 1 rfl) e_int rfl) e_int) rfl))))))))) (fun h => nomatch h) (fun _ => b_nil ?_))
    -- return self.wanted[0] != 'smaller' or thing[1] <= MOST_TOLD
    refine b_cons (s_ret (e_is (e_or (b1 := true) (b2 := true) (e_ne (d1 := .str "none") (d2 := .str "smaller") (z := false) hr (e_ix (d := .tuple [.str "none"]) (d' := .str "none") (e_fld (e_var 0 rfl) hk hC n1 rfl) e_int rfl) e_str .d .d (by decide +kernel) (by decide +kernel) (by decide +kernel)) (fun hb0 => nomatch hb0)) rfl) ?_)
    exact hR

theorem n_compM {Y : Ct} {γ : List S} {M M1 : MM} {elt it : Expr} {scope : Scope} {p : Pos} {α : Type} (j : Nat) {n : Str} {cpos : Pos} (l : List α) (f g : α → PyData) (hc : Y.X.calm = true) (hN : Y.X.N.Nodup) (hI : EI Y (.Name n p) it γ M ((l.map f).map S.d) (fun _ => True) M1) (ok : BlkOk Y.X.N Y.X.env.scope scope [(n, j)]) (hj : j < γ.length) (hn : l.length ≤ 99999)
    (turn : ∀ a ∈ l, ∀ (x : Addr × MO) s H C cl fp, EV (Y.blk scope s H C cl fp) elt (compG γ j (.d (f a))) (M1 ++ [x]) (.d (g a)) (M1 ++ [x]))
    (hg : ∀ (s : Shared) (H : Hp) (C : Addr) (cl : List (Str × Addr)) (fp : List Addr), PG (Y.X.blk s H scope (compEnvC scope cl C Y.X.env) fp) (.Name n p) (gName j) := by exact fun _ _ _ _ _ => pg_name (by assumption) rfl (Or.inl rfl))
    (hs : ∀ x, foldedSetIterable it Y.X.env x = pure x := by intro _; rfl) : EN Y (.ListComp elt [⟨.Name n p, it, [], 0⟩] scope cpos) γ M (.lst ((l.map g).map S.d)) M1 := by
  have h := q_comp (Q := fun s M' => ∃ q, s = .ob q ∧ M' = M1 ++ [(q, .lst ((l.map g).map S.d))]) (elt := elt) (cpos := cpos) (ifs := []) j hc hN hI ok hj (fun i M' acc => M' = M1 ∧ acc = ((l.take i).map g).map S.d ∧ i ≤ l.length) ⟨rfl, rfl, Nat.zero_le _⟩
    (fun i M' acc ⟨_, h2, h3⟩ => ⟨by rw [h2, List.length_map, List.length_map, List.length_take]; omega, fun _ => trivial⟩)
    (fun i x M' acc D hx ⟨h1, h2, h3⟩ => by
      rw [List.getElem?_map, List.getElem?_map] at hx
      cases e : l[i]? with
      | none => rw [e] at hx; cases hx
      | some a =>
        rw [e] at hx
        cases hx
        obtain ⟨hlt, _⟩ := List.getElem?_eq_some_iff.mp e
        subst h1
        refine ⟨true, M', ptsB, fun _ s H C cl fp => (turn a (List.mem_of_getElem? e) _ s H C cl fp).q ⟨M', rfl, rfl, ?_, hlt⟩, fun z => nomatch z⟩
        rw [h2, List.take_add_one, e, List.map_append, List.map_append]
        rfl)
    (fun D M' acc ⟨h1, h2, _⟩ => ⟨D, rfl, by rw [List.length_map, List.length_map, List.take_length] at h2; rw [h1, h2]⟩) hg hs
  exact ⟨PE.imp h.pe fun σ H Q ⟨F, r, q, ex⟩ => ⟨F, r, fun F' v s M' H' e1 r1 sv ⟨a, h1, h2⟩ => by
    subst h1 h2
    cases sv
    exact q F' a H' e1 r1, ex⟩⟩
theorem n_compTM {Y : Ct} {γ : List S} {M M1 : MM} {elt it : Expr} {scope : Scope} {α : Type} (i j : Nat) {n1 n2 : Str} {p1 p2 tp cpos : Pos} {kt : Nat} (l : List α) (f1 f2 : α → PyData) (h : α → PyData) (hij : i ≠ j) (hc : Y.X.calm = true) (hN : Y.X.N.Nodup) (hI : EI Y (.Tuple [.Name n1 p1, .Name n2 p2] kt tp) it γ M ((l.map fun a => .tuple [f1 a, f2 a]).map S.d) (fun _ => True) M1) (ok : BlkOk Y.X.N Y.X.env.scope scope [(n1, i), (n2, j)]) (hn : Nat.ble l.length 99999 = true)
    (turn : ∀ a ∈ l, ∀ (x : Addr × MO) s H C cl fp, EV (Y.blk scope s H C cl fp) elt (compG2 γ i j (.d (f1 a)) (.d (f2 a))) (M1 ++ [x]) (.d (h a)) (M1 ++ [x]))
    (hg : ∀ (s : Shared) (H : Hp) (C : Addr) (cl : List (Str × Addr)) (fp : List Addr), PG (Y.X.blk s H scope (compEnvC scope cl C Y.X.env) fp) (.Tuple [.Name n1 p1, .Name n2 p2] kt tp) (gTup Y.X.K 2 (gCons (gName i) (gCons (gName j) gNil))) := by exact fun _ _ _ _ _ => pg_tup rfl (pgs_cons (pg_name (by assumption) rfl (Or.inl rfl)) (pgs_cons (pg_name (by assumption) rfl (Or.inl rfl)) pgs_nil)))
    (hs : ∀ x, foldedSetIterable it Y.X.env x = pure x := by intro _; rfl) : EN Y (.ListComp elt [⟨.Tuple [.Name n1 p1, .Name n2 p2] kt tp, it, [], 0⟩] scope cpos) γ M (.lst ((l.map h).map S.d)) M1 := by
  have hz : ∀ (k : Nat) x, ((l.map fun a => PyData.tuple [f1 a, f2 a]).map S.d)[k]? = some x → ∃ a, l[k]? = some a ∧ x = S.d (.tuple [f1 a, f2 a]) := fun k x hx => by
    rw [List.getElem?_map, List.getElem?_map] at hx
    cases e : l[k]? with
    | none => rw [e] at hx; cases hx
    | some a => rw [e] at hx; cases hx; exact ⟨a, rfl, rfl⟩
  have hq := q_compG (Q := fun s M' => ∃ q, s = .ob q ∧ M' = M1 ++ [(q, .lst ((l.map h).map S.d))]) (elt := elt) (cpos := cpos) (ifs := []) (own := [(n1, i), (n2, j)]) (G := fun k _ => match l[k]? with | some a => compG2 γ i j (.d (f1 a)) (.d (f2 a)) | none => γ) hc hN hI ok hg
    (fun k x hx => by
      obtain ⟨a, ha, rfl⟩ := hz k x hx
      rw [ha]
      exact tg_pair i j hij)
    (fun k M' acc => M' = M1 ∧ acc = ((l.take k).map h).map S.d ∧ k ≤ l.length) ⟨rfl, rfl, Nat.zero_le _⟩
    (fun k M' acc ⟨_, h2, h3⟩ => ⟨by rw [h2, List.length_map, List.length_map, List.length_take]; have := Nat.le_of_ble_eq_true hn; omega, fun _ => trivial⟩)
    (fun k x M' acc D hx ⟨h1, h2, h3⟩ => by
      obtain ⟨a, ha, rfl⟩ := hz k x hx
      obtain ⟨hlt, _⟩ := List.getElem?_eq_some_iff.mp ha
      subst h1
      refine ⟨true, M', ptsB, fun _ s H C cl fp => ?_, fun z => nomatch z⟩
      rw [ha]
      refine (turn a (List.mem_of_getElem? ha) _ s H C cl fp).q ⟨M', rfl, rfl, ?_, hlt⟩
      rw [h2, List.take_add_one, ha, List.map_append, List.map_append]
      rfl)
    (fun D M' acc ⟨h1, h2, _⟩ => ⟨D, rfl, by rw [List.length_map, List.length_map, List.take_length] at h2; rw [h1, h2]⟩) hs
  exact ⟨PE.imp hq.pe fun σ H Q ⟨F, r, q, ex⟩ => ⟨F, r, fun F' v s M' H' e1 r1 sv ⟨a, h1, h2⟩ => by
    subst h1 h2
    cases sv
    exact q F' a H' e1 r1, ex⟩⟩
theorem getD_at {zs : List Pc} {i : Nat} (h : i < zs.length) : zs[i]? = some (zs.getD i (.dot PtZ)) := by
  rw [List.getD_eq_getElem?_getD, List.getElem?_eq_getElem h]
  rfl
theorem lnk_it {ls : List Nat} {i : Nat} (h : i < ls.length) : itD (lnkD ls) (i : Int) = some (PyData.tuple [.int (ls[i] : Nat), .int 0]) := by
  refine Pl.atI_nat ?_
  rw [List.getElem?_map, List.getElem?_eq_getElem h]
  rfl
theorem cut_toN {α : Type} (xs : List α) (i : Nat) : cutL xs none (some (i : Int)) = xs.take i := by
  unfold cutL
  have e : HT.sIx xs.length xs.length (some (i : Int)) = min i xs.length := by
    unfold HT.sIx
    show (if (i : Int) < 0 then ((i : Int) + (xs.length : Int)).toNat else min (i : Int).toNat xs.length) = _
    rw [if_neg (by omega)]
    rfl
  rw [e, show HT.sIx xs.length 0 none = 0 from rfl, List.drop_zero, Nat.sub_zero]
  by_cases h : i ≤ xs.length
  · rw [Nat.min_eq_left h]
  · rw [Nat.min_eq_right (by omega), List.take_length, List.take_of_length_le (by omega)]
theorem lnk_not {ls : List Nat} (hn : ls.Nodup) {i : Nat} (h : i < ls.length) : ((ls.take i).map fun i => PyData.tuple [.int (i : Nat), .int 0]).any (fun z => PyData.eqv z (.tuple [.int (ls[i] : Nat), .int 0])) = false := by
  rw [List.any_map, List.any_eq_false]
  intro x hx
  have e2 : PyData.eqv (.tuple [.int (x : Nat), .int 0]) (.tuple [.int (ls[i] : Nat), .int 0]) = (PyData.eqv (.int (x : Nat)) (.int (ls[i] : Nat)) && true) := rfl
  show ¬ PyData.eqv (.tuple [.int (x : Nat), .int 0]) (.tuple [.int (ls[i] : Nat), .int 0]) = true
  rw [e2, Bool.and_true, eqv_int, decide_eq_true_eq]
  intro e
  have e3 : x = ls[i] := by omega
  obtain ⟨j, hj, hx⟩ := List.mem_iff_getElem.mp hx
  rw [List.getElem_take] at hx
  rw [List.length_take] at hj
  have := (List.nodup_iff_pairwise_ne.mp hn)
  have := List.pairwise_iff_getElem.mp this j i (by omega) h (by omega)
  exact this (hx.trans e3)
def lkOk (zs : List Pc) (z : Pc) (ls : List Nat) : Prop := ls ≠ [] ∧ ls.length ≤ 3 ∧ (∀ i ∈ ls, i < zs.length) ∧ (z.isSt = true → ls.Nodup)
theorem word_st89 (z : Pc) : PyData.eqv z.word (.str "stretch") = z.isSt := by cases z <;> rfl
def c_Given_covers (K : PySem.W.Frag) (C : Addr) : Con := fun ss M R _ => ∃ (a : Addr) (zs : List Pc) (k : Nat) (ls : List Nat) (z : Pc), ss = [.ob a, .d (lnkD ls), .d z.D] ∧ M[k]? = some (a, .ins C (gvF zs)) ∧ lkOk zs z ls ∧ (∀ y ∈ zs, y.pc 300 300) ∧ z.pc 300 300 ∧ R (.d (.bool (chB (ls.map fun i => zs.getD i (.dot PtZ)) z))) M
theorem ok_Given_covers (T : Tx K mg) : FnOk P w K mg base (L2.CX P w) 11 T.a_Given_covers T.fd_Given_covers ["self", "paper", "piece"] (spD K (c_Given_covers K T.C_Given)) := by
  refine Fun.okD T.F_Given_covers sc_Given_covers (fun ss M R Rx h => ?_) (fun cdv A outer s H E ss M R Rx h hr tk => ?_)
  · obtain ⟨a, zs, k, ls, z, rfl, _⟩ := h
    rfl
  · obtain ⟨a, zs, k, ls, z, rfl, hk, ⟨hne, hl3, hin, hnd⟩, hz, hzp, hR⟩ := h
    have hkx : ∀ x, (M ++ [x])[k]? = some (a, .ins T.C_Given (gvF zs)) := fun x => by
      rw [List.getElem?_append_left (List.getElem?_eq_some_iff.mp hk).1]
      exact hk
    have hall : (ls.map fun _ => true).all id = true := by rw [List.all_map]; exact List.all_eq_true.mpr fun _ _ => rfl
    have hany : (ls.map fun _ => false).any id = false := by rw [List.any_map, List.any_eq_false]; intro _ _ z; cases z
    have hanyR : ((List.range ls.length).map fun _ => false).any id = false := by rw [List.any_map, List.any_eq_false]; intro _ _ z; cases z
    -- if not isinstance(paper, list) or not all([self.is_one(thing) for thing in paper]):
    refine b_cons (s_if (b1 := false) (EW.t (w_or (b1 := false) (b2 := false) (t_not (b1 := true) (t_val (e_isi (d := lnkD ls) rfl T.n_isinstance (ea_cons (e_var 1 rfl) (ea_cons (e_ty (n := "list") rfl T.n_list (by decide +kernel)) ea_nil)) .d k_list_list))) (fun hb => (w_or1 (t_not (b1 := true) (t_val (e_is (e_all (bs := ls.map fun _ => true) rfl rfl T.n_all (ea_cons (e_frz (n_compM 6 ls (fun i => PyData.tuple [.int (i : Nat), .int 0]) (fun _ => PyData.bool true) rfl sc_Given_covers.nd (i_list (e_var 1 rfl)) (blkOk_by rfl) (by exact (show 6 < 7 by decide)) (by omega) (fun i hi x s H C' cl fp => EV.ofQ (q_meth (ok_Given_is_one T) (hr.mono (by decide)) T.cl_Given T.me_Given_is_one T.b_Given_is_one tkF (EV.q (e_var 0 rfl) ⟨a, k, gvF zs, rfl, hkx x, rfl, EA.q (ea_cons (e_var 6 rfl) ea_nil) ⟨a, T.C_Given, zs, k, i, rfl, hkx x, T.cl_Given, ⟨T.na_Given_wanted, T.na_Given_still, T.na_Given_flow⟩, hin i hi, rfl, List.Sublist.refl _⟩⟩))) (hg := fun _ _ _ _ _ => pg_name sc_Given_covers.nd rfl (Or.inl rfl)))) ea_nil) (vl_bools89 ls (fun _ => true))) (congrArg (fun z => S.d (.bool z)) hall)))))))) (fun h => nomatch h) (fun _ => b_nil ?_))
    -- if piece[0] == 'stretch' and any([paper[k] in paper[:k] for k in range(len(paper))]):
    refine b_cons (s_if (b1 := z.isSt && false) (EW.t (w_and (b2 := false) (t_eq (d1 := z.word) (d2 := .str "stretch") hr (e_ix (d := z.D) (d' := z.word) (e_var 2 rfl) e_int (word_at _)) e_str .d .d (word_sh _) (by decide +kernel) (word_st89 _)) (fun hb => (w_and1 (t_val (e_is (e_any (bs := (List.range ls.length).map fun _ => false) rfl rfl T.n_any (ea_cons (e_frz (n_compI 3 (List.range ls.length) (fun j => PyData.int (0 + (j : Int))) (fun _ => PyData.bool false) rfl sc_Given_covers.nd (by rw [List.map_map]; exact i_range1 (hi := (ls.length : Int)) rfl T.n_range (ea_cons (e_len (d := lnkD ls) (n := ls.length) rfl T.n_len (ea_cons (e_var 1 rfl) ea_nil) .d (lnk_len ls)) ea_nil) (by omega)) (blkOk_by rfl) (by exact (show 3 < 7 by decide)) (Nat.ble_eq_true_of_le (by rw [List.length_range]; omega)) (fun j hj M' s' H' C' cl fp => (e_inD (d := .tuple [.int (ls[j]'(List.mem_range.mp hj) : Nat), .int 0]) (ds := (ls.take j).map fun i => PyData.tuple [.int (i : Nat), .int 0]) (z := false) (k := 0) (hr.mono (Nat.zero_le _)) (e_ix (d := lnkD ls) (e_var 1 rfl) (e_var 3 rfl) (by rw [Int.zero_add]; exact lnk_it (List.mem_range.mp hj))) (e_is (e_slice (l := none) (h := some (0 + (j : Int))) (xs := ls.map fun i => PyData.tuple [.int (i : Nat), .int 0]) (e_var 1 rfl) o_none (o_some (e_var 3 rfl))) (by rw [Int.zero_add, cut_toN, List.map_take])) .d (Lay.sh (lay_tup (lay_cons (lay_int _) (lay_cons (lay_int _) lay_nil)))) .d (lnk_sh _) (lnk_not (hnd hb) (List.mem_range.mp hj)))) (hg := fun _ _ _ _ _ => pg_name sc_Given_covers.nd rfl (Or.inl rfl)))) ea_nil) (vl_bools89 (List.range ls.length) (fun _ => false))) (congrArg (fun z => S.d (.bool z)) hanyR))))))) (fun h => (by rw [Bool.and_false] at h; cases h)) (fun _ => b_nil ?_))
    -- return chain_shown([self.piece(number, n) for number, n in paper], piece)
    refine b_cons (s_ret (e_call (ok_chain_shown T) (hr.mono (by decide)) T.g_chain_shown T.F_chain_shown.kp T.b_chain_shown tk (ea_cons (e_frz (n_compTM 4 5 ls (fun i => PyData.int (i : Nat)) (fun _ => PyData.int 0) (fun i => (zs.getD i (.dot PtZ)).D) (by decide) rfl sc_Given_covers.nd (i_list (e_var 1 rfl)) (blkOk_by rfl) (Nat.ble_eq_true_of_le (by omega)) (fun i hi x s H C' cl fp => EV.ofQ (q_meth (ok_Given_piece T) (hr.mono (by decide)) T.cl_Given T.me_Given_piece T.b_Given_piece tkF (EV.q (e_var 0 rfl) ⟨a, k, gvF zs, rfl, hkx x, rfl, EA.q (ea_cons (e_var 4 rfl) (ea_cons (e_var 5 rfl) ea_nil)) ⟨a, T.C_Given, zs, k, i, zs.getD i (.dot PtZ), rfl, hkx x, T.cl_Given, ⟨T.na_Given_wanted, T.na_Given_still, T.na_Given_flow⟩, getD_at (hin i hi), rfl, List.Sublist.refl _⟩⟩))) (hg := fun _ _ _ _ _ => pg_tup rfl (pgs_cons (pg_name sc_Given_covers.nd rfl (Or.inl rfl)) (pgs_cons (pg_name sc_Given_covers.nd rfl (Or.inl rfl)) pgs_nil)))) ) (ea_cons (e_var 2 rfl) ea_nil)) ⟨ls.map fun i => zs.getD i (.dot PtZ), z, (by rw [List.map_map]; rfl), (fun e => hne (List.map_eq_nil_iff.mp e)), (by rw [List.length_map]; omega), (fun y hy => by obtain ⟨i, hi, rfl⟩ := List.mem_map.mp hy; exact hz _ (List.mem_of_getElem? (getD_at (hin i hi)))), hzp, rfl, rfl⟩) ?_)
    exact hR

/-! not met -/

theorem zip_pl (ys : List (Pc × List Nat)) : zipS ((ys.map (·.1)).map Pc.D) (ys.map fun y => lnkD y.2) = ys.map fun y => S.d (.tuple [y.1.D, lnkD y.2]) := by
  unfold zipS
  rw [List.map_map, List.zip_map', List.map_map]
  rfl
def shB (zs : List Pc) (y : Pc × List Nat) : Bool := chB (y.2.map fun i => zs.getD i (.dot PtZ)) y.1
def c_papers_shown (K : PySem.W.Frag) (C : Addr) : Con := fun ss M R _ => ∃ (a : Addr) (zs : List Pc) (k : Nat) (ys : List (Pc × List Nat)), ss = [.ob a, .d (.tuple [.list ((ys.map (·.1)).map Pc.D), .list []]), .d (.list (ys.map fun y => lnkD y.2))] ∧ M[k]? = some (a, .ins C (gvF zs)) ∧ ys.length ≤ 10 ∧ (∀ y ∈ ys, lkOk zs y.1 y.2 ∧ y.1.pc 300 300) ∧ (∀ y ∈ zs, y.pc 300 300) ∧ R (.d (.bool (ys.all (shB zs)))) M
theorem ok_papers_shown (T : Tx K mg) : FnOk P w K mg base (L2.CX P w) 13 T.a_papers_shown T.fd_papers_shown ["given", "one", "papers"] (spD K (c_papers_shown K T.C_Given)) := by
  refine Fun.okD T.F_papers_shown sc_papers_shown (fun ss M R Rx h => ?_) (fun cdv A outer s H E ss M R Rx h hr tk => ?_)
  · obtain ⟨a, zs, k, ys, rfl, _⟩ := h
    rfl
  · obtain ⟨a, zs, k, ys, rfl, hk, hl, hy, hz, hR⟩ := h
    obtain ⟨one, hone⟩ : ∃ one : PyData, PyData.tuple [.list ((ys.map (·.1)).map Pc.D), .list []] = one := ⟨_, rfl⟩
    rw [hone]
    have i0 : itD one 0 = some (.list ((ys.map (·.1)).map Pc.D)) := by rw [← hone]; rfl
    have i1 : itD one 1 = some (.list []) := by rw [← hone]; rfl
    have ln0 : lenD (.list ((ys.map (·.1)).map Pc.D)) = some ys.length := by show some ((ys.map (·.1)).map Pc.D).length = _; rw [List.length_map, List.length_map]
    have ln2 : lenD (.list (ys.map fun y => lnkD y.2)) = some ys.length := by show some (ys.map fun y => lnkD y.2).length = _; rw [List.length_map]
    have e1 : (!decide ((ys.length : Int) = (ys.length : Int) + ((0 : Nat) : Int))) = false := by rw [decide_eq_true (by omega)]; rfl
    -- if not isinstance(papers, list) or len(papers) != len(one[0]) + len(one[1]):
    refine b_cons (s_if (b1 := false) (EW.t (w_or (b1 := false) (b2 := false) (t_not (b1 := true) (t_val (e_isi (d := .list (ys.map fun y => lnkD y.2)) rfl T.n_isinstance (ea_cons (e_var 2 rfl) (ea_cons (e_ty (n := "list") rfl T.n_list (by decide +kernel)) ea_nil)) .d k_list_list))) (fun hb => (w_or1 (t_is (t_neI hr (e_len (d := .list (ys.map fun y => lnkD y.2)) (n := ys.length) rfl T.n_len (ea_cons (e_var 2 rfl) ea_nil) .d ln2) (e_add (e_len (d := .list ((ys.map (·.1)).map Pc.D)) (n := ys.length) rfl T.n_len (ea_cons (e_ix (d := one) (e_var 1 rfl) e_int i0) ea_nil) .d ln0) (e_len (d := .list []) (n := 0) rfl T.n_len (ea_cons (e_ix (d := one) (e_var 1 rfl) e_int i1) ea_nil) .d rfl))) e1))))) (fun h => nomatch h) (fun _ => b_nil ?_))
    -- for piece, paper in zip(one[0], papers):
    refine b_cons (s_for (passes_of rfl) rfl (i_zipL rfl T.n_zip (ea_cons (e_ix (d := one) (e_var 1 rfl) e_int i0) (ea_cons (e_var 2 rfl) ea_nil))) (fun i γ' M' => M' = M ∧ (∀ y ∈ ys.take i, shB zs y = true) ∧ ∃ u1 u2, γ' = [.ob a, .d one, .d (.list (ys.map fun y => lnkD y.2)), u1, u2]) ⟨rfl, (fun y hy => by rw [List.take_zero] at hy; cases hy), _, _, rfl⟩ (fun _ _ _ _ => trivial) (fun i x γ2 M2 hx w => ?_) (fun γ2 M2 w => ?_))
    · obtain ⟨rfl, ha, u1, u2, rfl⟩ := w
      obtain ⟨y, hyi, rfl⟩ : ∃ y, ys[i]? = some y ∧ x = .d (.tuple [y.1.D, lnkD y.2]) := by
        rw [zip_pl, List.getElem?_map] at hx
        cases e : ys[i]? with
        | none => rw [e] at hx; cases hx
        | some y => rw [e] at hx; exact ⟨y, rfl, (Option.some.inj hx).symm⟩
      have hym := hy y (List.mem_of_getElem? hyi)
      refine ⟨_, g_tup (ds := [y.1.D, lnkD y.2]) rfl (g_cons (g_name 3 sc_papers_shown.nd) (g_cons (g_name 4 sc_papers_shown.nd) g_nil)), ?_⟩
      -- if not given.covers(paper, piece):
      refine b_cons (s_if (b1 := !(shB zs y)) (t_not (t_val (EV.ofQ (q_meth (ok_Given_covers T) (hr.mono (by decide)) T.cl_Given T.me_Given_covers T.b_Given_covers tk (EV.q (e_var 0 rfl) ⟨a, k, gvF zs, rfl, hk, rfl, EA.q (ea_cons (e_var 4 rfl) (ea_cons (e_var 3 rfl) ea_nil)) ⟨a, zs, k, y.2, y.1, rfl, hk, hym.1, hz, hym.2, rfl, List.Sublist.refl _⟩⟩))))) (fun h2 => ?_) (fun h2 => b_nil ?_))
      · rw [Bool.not_eq_true'] at h2
        rw [all_take hyi (f := shB zs) h2] at hR
        -- return False
        exact b_cons (s_ret e_bl hR)
      · rw [Bool.not_eq_false'] at h2
        refine b_nil ⟨rfl, fun z hz' => ?_, _, _, rfl⟩
        rw [take_snoc hyi] at hz'
        rcases List.mem_append.mp hz' with hz' | hz'
        · exact ha z hz'
        · rw [List.mem_singleton.mp hz']; exact h2
    · obtain ⟨rfl, ha, u1, u2, rfl⟩ := w
      have hall : ys.all (shB zs) = true := List.all_eq_true.mpr fun y hm => by
        refine ha y ?_
        rw [zip_pl, List.length_map, List.take_length]
        exact hm
      rw [hall] at hR
      -- for piece, paper in zip(one[1], papers[len(one[0]):]):
      refine b_cons (s_for (passes_of rfl) rfl (i_zipL (ds := []) rfl T.n_zip (ea_cons (e_ix (d := one) (e_var 1 rfl) e_int i1) (ea_cons (e_slice (l := some (ys.length : Int)) (h := none) (e_var 2 rfl) (o_some (e_len (d := .list ((ys.map (·.1)).map Pc.D)) (n := ys.length) rfl T.n_len (ea_cons (e_ix (d := one) (e_var 1 rfl) e_int i0) ea_nil) .d ln0)) o_none) ea_nil))) (fun i γ' M' => M' = M2 ∧ ∃ u1 u2, γ' = [.ob a, .d one, .d (.list (ys.map fun y => lnkD y.2)), u1, u2]) ⟨rfl, _, _, rfl⟩ (fun _ _ _ _ => trivial) (fun i x γ2 M3 hx w => ?_) (fun γ2 M3 w => ?_))
      · unfold zipS at hx
        rw [List.zip_nil_left, List.map_nil] at hx
        cases hx
      · obtain ⟨rfl, u1, u2, rfl⟩ := w
        -- return True
        exact b_cons (s_ret e_bl hR)

def c_Given_init (K : PySem.W.Frag) : Con := fun ss M R _ => ∃ (a C : Addr) (zs : List Pc) (M0 : MM), ss = [.ob a, .d (.tuple [.str "none"]), .d (.list (zs.map Pc.D)), .d (.list [])] ∧ M = M0 ++ [(a, .ins C [])] ∧ Cls K C ∧ (NoAttr K C "wanted" ∧ NoAttr K C "still" ∧ NoAttr K C "flow") ∧
  R (.d .none) (M0 ++ [(a, .ins C (gvF zs))])
theorem ok_Given_init (T : Tx K mg) : FnOk P w K mg base (L2.CX P w) 1 T.a_Given_init T.fd_Given_init ["self", "wanted", "still", "flow"] (spD K (c_Given_init K)) := by
  refine Fun.okD T.F_Given_init sc_Given_init (fun ss M R Rx h => ?_) (fun cdv A outer s H E ss M R Rx h hr tk => ?_)
  · obtain ⟨a, C, zs, M0, rfl, _⟩ := h
    rfl
  · obtain ⟨a, C, zs, M0, rfl, rfl, hC, ⟨n1, n2, n3⟩, hR⟩ := h
    -- self.wanted = wanted
    refine b_cons (s_fld (n := M0.length) (e_var 1 rfl) (e_var 0 rfl) at_end hC n1 ?_ (hl := by show 0 < 1000; decide))
    rw [set_end, put_nil]
    -- self.still = still
    refine b_cons (s_fld (n := M0.length) (e_var 2 rfl) (e_var 0 rfl) at_end hC n2 ?_ (hl := by show 1 < 1000; decide))
    rw [set_end, put_ne (by decide), put_nil]
    -- self.flow = flow
    refine b_cons (s_fld (n := M0.length) (e_var 3 rfl) (e_var 0 rfl) at_end hC n3 ?_ (hl := by show 2 < 1000; decide))
    rw [set_end, put_ne (by decide), put_ne (by decide), put_nil]
    exact b_nil hR

def picD (zs : List Pc) : PyData := .tuple [.list (zs.map Pc.D), .list []]
def papD (ys : List (Pc × List Nat)) : PyData := .list (ys.map fun y => lnkD y.2)
def c_alike_shown : Con := fun ss M R _ => ∃ ys1 ys2 : List (Pc × List Nat), ss = [.d (.tuple [.tuple [.str "none"], picD (ys1.map (·.1)), picD (ys2.map (·.1))]), .d (.tuple [papD ys1, papD ys2])] ∧ (ys1.length ≤ 10 ∧ ys2.length ≤ 10) ∧ (∀ y ∈ ys1, lkOk (ys2.map (·.1)) y.1 y.2 ∧ y.1.pc 300 300) ∧ (∀ y ∈ ys2, lkOk (ys1.map (·.1)) y.1 y.2 ∧ y.1.pc 300 300) ∧
  ∀ M', M.Sublist M' → R (.d (.bool (ys1.all (shB (ys2.map (·.1))) && ys2.all (shB (ys1.map (·.1)))))) M'
theorem ok_alike_shown (T : Tx K mg) : FnOk P w K mg base (L2.CX P w) 14 T.a_alike_shown T.fd_alike_shown ["even", "papers"] (spD K c_alike_shown) := by
  refine Fun.okD T.F_alike_shown sc_alike_shown (fun ss M R Rx h => ?_) (fun cdv A outer s H E ss M R Rx h hr tk => ?_)
  · obtain ⟨ys1, ys2, rfl, _⟩ := h
    rfl
  · obtain ⟨ys1, ys2, rfl, ⟨l1, l2⟩, h1, h2, hR⟩ := h
    have p1 : ∀ y ∈ ys1.map (·.1), y.pc 300 300 := fun y hy => by obtain ⟨x, hx, rfl⟩ := List.mem_map.mp hy; exact (h1 x hx).2
    have p2 : ∀ y ∈ ys2.map (·.1), y.pc 300 300 := fun y hy => by obtain ⟨x, hx, rfl⟩ := List.mem_map.mp hy; exact (h2 x hx).2
    obtain ⟨ev, hev⟩ : ∃ ev : PyData, PyData.tuple [.tuple [.str "none"], picD (ys1.map (·.1)), picD (ys2.map (·.1))] = ev := ⟨_, rfl⟩
    rw [hev]
    have i0 : itD ev 0 = some (.tuple [.str "none"]) := by rw [← hev]; rfl
    have i1 : itD ev 1 = some (picD (ys1.map (·.1))) := by rw [← hev]; rfl
    have i2 : itD ev 2 = some (picD (ys2.map (·.1))) := by rw [← hev]; rfl
    obtain ⟨pp, hpp⟩ : ∃ pp : PyData, PyData.tuple [papD ys1, papD ys2] = pp := ⟨_, rfl⟩
    rw [hpp]
    have tpp : tyD pp = "tuple" := by rw [← hpp]; rfl
    have lpp : lenD pp = some 2 := by rw [← hpp]; rfl
    have j0 : itD pp 0 = some (papD ys1) := by rw [← hpp]; rfl
    have j1 : itD pp 1 = some (papD ys2) := by rw [← hpp]; rfl
    have q0 : ∀ zs, itD (picD zs) 0 = some (.list (zs.map Pc.D)) := fun _ => rfl
    have q1 : ∀ zs, itD (picD zs) 1 = some (.list []) := fun _ => rfl
    -- if not isinstance(papers, tuple) or len(papers) != 2:
    refine b_cons (s_if (b1 := false) (EW.t (w_or (b1 := false) (b2 := false) (t_not (b1 := true) (t_val (e_isi (d := pp) rfl T.n_isinstance (ea_cons (e_var 1 rfl) (ea_cons (e_ty (n := "tuple") rfl T.n_tuple (by decide +kernel)) ea_nil)) .d (by rw [tpp]; exact k_tuple_tuple)))) (fun hb => (w_or1 (t_is (t_neI hr (e_len (d := pp) (n := 2) rfl T.n_len (ea_cons (e_var 1 rfl) ea_nil) .d lpp) e_int) rfl))))) (fun h => nomatch h) (fun _ => b_nil ?_))
    -- one = Given(even[0], even[1][0], even[1][1])
    refine b_cons (s_setQ 2 sc_alike_shown.nd (q_make T.mk_Given (ok_Given_init T) (hr.mono (by decide)) T.g_Given T.b_Given_init tk (EA.q (ea_cons (e_ix (d := ev) (e_var 0 rfl) e_int i0) (ea_cons (e_ix (d := picD (ys1.map (·.1))) (e_ix (d := ev) (e_var 0 rfl) e_int i1) e_int (q0 _)) (ea_cons (e_ix (d := picD (ys1.map (·.1))) (e_ix (d := ev) (e_var 0 rfl) e_int i1) e_int (q1 _)) ea_nil))) fun a => ⟨a, T.C_Given, ys1.map (·.1), M, rfl, rfl, T.cl_Given, ⟨T.na_Given_wanted, T.na_Given_still, T.na_Given_flow⟩, rfl, ?_⟩)))
    -- other = Given(even[0], even[2][0], even[2][1])
    refine b_cons (s_setQ 3 sc_alike_shown.nd (q_make T.mk_Given (ok_Given_init T) (hr.mono (by decide)) T.g_Given T.b_Given_init tk (EA.q (ea_cons (e_ix (d := ev) (e_var 0 rfl) e_int i0) (ea_cons (e_ix (d := picD (ys2.map (·.1))) (e_ix (d := ev) (e_var 0 rfl) e_int i2) e_int (q0 _)) (ea_cons (e_ix (d := picD (ys2.map (·.1))) (e_ix (d := ev) (e_var 0 rfl) e_int i2) e_int (q1 _)) ea_nil))) fun b => ⟨b, T.C_Given, ys2.map (·.1), M ++ [(a, .ins T.C_Given (gvF (ys1.map (·.1))))], rfl, rfl, T.cl_Given, ⟨T.na_Given_wanted, T.na_Given_still, T.na_Given_flow⟩, rfl, ?_⟩)))
    have k1 : (M ++ [(a, MO.ins T.C_Given (gvF (ys1.map (·.1))))] ++ [(b, MO.ins T.C_Given (gvF (ys2.map (·.1))))])[M.length]? = some (a, .ins T.C_Given (gvF (ys1.map (·.1)))) := by
      rw [List.append_assoc, List.getElem?_append_right (Nat.le_refl _), Nat.sub_self]
      rfl
    have k2 : (M ++ [(a, MO.ins T.C_Given (gvF (ys1.map (·.1))))] ++ [(b, MO.ins T.C_Given (gvF (ys2.map (·.1))))])[M.length + 1]? = some (b, .ins T.C_Given (gvF (ys2.map (·.1)))) := by
      rw [List.append_assoc, List.getElem?_append_right (by omega), Nat.add_sub_cancel_left]
      rfl
    -- return papers_shown(other, even[1], papers[0]) and papers_shown(one, even[2], papers[1])
    refine b_cons (s_ret (e_and (e_call (ok_papers_shown T) (hr.mono (by decide)) T.g_papers_shown T.F_papers_shown.kp T.b_papers_shown tk (ea_cons (e_var 3 rfl) (ea_cons (e_ix (d := ev) (e_var 0 rfl) e_int i1) (ea_cons (e_ix (d := pp) (e_var 1 rfl) e_int j0) ea_nil))) ⟨b, ys2.map (·.1), M.length + 1, ys1, rfl, k2, l1, h1, p2, rfl, rfl⟩) (fun hb0 => (e_one (e_call (ok_papers_shown T) (hr.mono (by decide)) T.g_papers_shown T.F_papers_shown.kp T.b_papers_shown tk (ea_cons (e_var 2 rfl) (ea_cons (e_ix (d := ev) (e_var 0 rfl) e_int i2) (ea_cons (e_ix (d := pp) (e_var 1 rfl) e_int j1) ea_nil))) ⟨a, ys1.map (·.1), M.length, ys2, rfl, k1, l2, h2, p1, rfl, rfl⟩)))) ?_)
    exact hR _ (by rw [List.append_assoc]; exact List.sublist_append_left ..)

def ownY (zs : List Pc) : List (Pc × List Nat) := (List.range zs.length).map fun k => (zs.getD k (.dot PtZ), [k])
theorem ownY_fst (zs : List Pc) : (ownY zs).map (·.1) = zs := by
  unfold ownY
  rw [List.map_map]
  apply List.ext_getElem
  · rw [List.length_map, List.length_range]
  · intro i h1 h2
    rw [List.getElem_map, List.getElem_range]
    show zs.getD i (.dot PtZ) = _
    rw [List.getD_eq_getElem?_getD, List.getElem?_eq_getElem h2]
    rfl
theorem ownY_snd (zs : List Pc) : (ownY zs).map (fun y => lnkD y.2) = (List.range zs.length).map fun k => lnkD [k] := by
  unfold ownY
  rw [List.map_map]
  rfl
theorem ownY_len (zs : List Pc) : (ownY zs).length = zs.length := by unfold ownY; rw [List.length_map, List.length_range]
theorem ownY_mem {zs : List Pc} {y : Pc × List Nat} (h : y ∈ ownY zs) : ∃ k, k < zs.length ∧ y = (zs.getD k (.dot PtZ), [k]) := by
  unfold ownY at h
  obtain ⟨k, hk, rfl⟩ := List.mem_map.mp h
  exact ⟨k, List.mem_range.mp hk, rfl⟩
theorem own_app (zs : List Pc) (z : Pc) (ls : List Nat) : (ownY zs ++ [(z, ls)]).map (·.1) = zs ++ [z] := by rw [List.map_append, ownY_fst]; rfl
theorem pap_app (zs : List Pc) (z : Pc) (ls : List Nat) : papD (ownY zs ++ [(z, ls)]) = .list (((List.range zs.length).map fun k => lnkD [k]) ++ [lnkD ls]) := by
  unfold papD
  rw [List.map_append, ownY_snd]
  rfl
section
variable {zs : List Pc} {z : Pc} {ls0 ls : List Nat} {due0 due : Bool}
theorem getD_app {k : Nat} (h : k < zs.length) : (zs ++ [z]).getD k (.dot PtZ) = zs.getD k (.dot PtZ) := by
  rw [List.getD_eq_getElem?_getD, List.getD_eq_getElem?_getD, List.getElem?_append_left h]
theorem bt_lk1 (o : Bt zs z ls0 due0) (hl : LnkO ls0 due0 ls due) : ∀ y ∈ ownY zs ++ [(z, ls)], lkOk ((ownY zs).map (·.1)) y.1 y.2 ∧ y.1.pc 300 300 := fun y hy => by
  rw [ownY_fst]
  rcases List.mem_append.mp hy with hy | hy
  · obtain ⟨k, hk, rfl⟩ := ownY_mem hy
    exact ⟨⟨(nomatch ·), by show 1 ≤ 3; decide, fun i hi => by rw [List.mem_singleton.mp hi]; exact hk, fun _ => List.nodup_cons.mpr ⟨List.not_mem_nil, List.nodup_nil⟩⟩, o.ok _ (List.mem_of_getElem? (getD_at hk))⟩
  · rw [List.mem_singleton.mp hy]
    obtain ⟨h1, h2, h3, h4, _⟩ := o.lk ls due hl
    exact ⟨⟨h1, h2, h3, h4⟩, o.zp⟩
theorem bt_lk2 (o : Bt zs z ls0 due0) : ∀ y ∈ ownY zs, lkOk ((ownY zs ++ [(z, ls)]).map (·.1)) y.1 y.2 ∧ y.1.pc 300 300 := fun y hy => by
  rw [own_app]
  obtain ⟨k, hk, rfl⟩ := ownY_mem hy
  exact ⟨⟨(nomatch ·), by show 1 ≤ 3; decide, fun i hi => by rw [List.mem_singleton.mp hi, List.length_append]; exact Nat.lt_of_lt_of_le hk (Nat.le_add_right _ _), fun _ => List.nodup_cons.mpr ⟨List.not_mem_nil, List.nodup_nil⟩⟩, o.ok _ (List.mem_of_getElem? (getD_at hk))⟩
theorem bt_all1 (o : Bt zs z ls0 due0) (hl : LnkO ls0 due0 ls due) : (ownY zs ++ [(z, ls)]).all (shB ((ownY zs).map (·.1))) = due := by
  rw [ownY_fst, List.all_append]
  have h1 : (ownY zs).all (shB zs) = true := List.all_eq_true.mpr fun y hy => by
    obtain ⟨k, hk, rfl⟩ := ownY_mem hy
    exact o.own _ (List.mem_of_getElem? (getD_at hk))
  rw [h1, Bool.true_and]
  show (shB zs (z, ls) && true) = due
  rw [Bool.and_true]
  exact (o.lk ls due hl).2.2.2.2
theorem bt_all2 (o : Bt zs z ls0 due0) : (ownY zs).all (shB ((ownY zs ++ [(z, ls)]).map (·.1))) = true := by
  rw [own_app]
  refine List.all_eq_true.mpr fun y hy => ?_
  obtain ⟨k, hk, rfl⟩ := ownY_mem hy
  show chB [(zs ++ [z]).getD k (.dot PtZ)] _ = true
  rw [getD_app hk]
  exact o.own _ (List.mem_of_getElem? (getD_at hk))
end
theorem ok_law (T : Tx K mg) : FnOk P w K mg base (L2.CX P w) 15 T.a_law T.fd_law ["_law_script"] (spD K lawC) := by
  refine Fun.okD T.F_law sc_law (fun ss M R Rx h => ?_) (fun cdv A outer s H E ss M R Rx h hr tk => ?_)
  · obtain ⟨ns, rfl, _⟩ := h
    rfl
  · obtain ⟨ns, rfl, hl, hb, hR⟩ := h
    -- for cell in [cell_at(script, 0)] + script[1:12]:
    refine b_cons (s_for (passes_of rfl) rfl (i_list (e_cat (e_lst (ds := [_]) (ea_cons (e_call (ok_law_cell_at T) (hr.mono (by decide)) T.g_law_cell_at T.F_law_cell_at.kp T.b_law_cell_at tk (ea_cons (e_var 0 rfl) (ea_cons e_int ea_nil)) ⟨_, _, rfl, by decide, rfl, rfl⟩) ea_nil)) (e_slice (l := some 1) (h := some 12) (e_var 0 rfl) (o_some e_int) (o_some e_int)) (by have := cut_len (ns.map PyData.int) (some 1) (some 12); rw [List.length_map] at this; show 1 + _ ≤ 100000; omega))) (fun i γ' M' => ∃ u1 u2 u3 u4 u5 u6 u7 u8 u9 u10 u11, γ' = [.d (.list (ns.map PyData.int)), u1, u2, u3, u4, u5, u6, u7, u8, u9, u10, u11]) ⟨_, _, _, _, _, _, _, _, _, _, _, rfl⟩ (fun _ _ _ _ => trivial) (fun i x γ2 M2 hx w => ?_) (fun γ2 M2 w => ?_))
    · obtain ⟨u1, u2, u3, u4, u5, u6, u7, u8, u9, u10, u11, rfl⟩ := w
      obtain ⟨c0, rfl⟩ := cell_of hx
      refine ⟨_, g_name 1 sc_law.nd, ?_⟩
      refine b_gc (List.nil_sublist _) ?_
      -- feed_here = feed(cell)
      refine b_cons (s_setQ 2 sc_law.nd (q_call (ok_law_feed T) (hr.mono (by decide)) T.g_law_feed T.F_law_feed.kp T.b_law_feed tk (ea_cons (e_var 1 rfl) ea_nil) ⟨_, rfl, fun fa F hk => ?_⟩))
      have hi : 0 < [(fa, fdM F)].length := Nat.succ_pos _
      rw [show ([] ++ [(fa, fdM F)] : MM) = [(fa, fdM F)].set 0 (fa, fdM F) from rfl]
      have hk1 : Fk 1 (F.nx 2) := hk.nx 2
      -- if draw(feed_here, 2) == 0:
      refine b_cut (fun γ' M' => ∃ (zs : List Pc) (z : Pc) (ls0 : List Nat) (due0 : Bool) (F2 : Fd), M' = [(fa, fdM F)].set 0 (fa, fdM F2) ∧ Fk 11 F2 ∧ Bt zs z ls0 due0 ∧ γ' = [.d (.list (ns.map PyData.int)), .d (.int c0), .ob fa, u3, u4, u5, .d (lnkD ls0), .d (.bool due0), .d (.list (zs.map Pc.D)), .d z.D, u10, u11]) (s_if (t_eqI hr (e_call (ok_law_draw T) (hr.mono (by decide)) T.g_law_draw T.F_law_draw.kp T.b_law_draw tk (ea_cons (e_var 2 rfl) (ea_cons e_int ea_nil)) (dr_ok hi hk (h1 := by walk_at "ob"))) e_int) (fun h1 => ?_) (fun h1 => ?_)) ?_
      · -- others, extra, links_here, due = straight_ones(feed_here)
        refine b_cons (s_asgQ (q_call (ok_law_straight_ones T) (hr.mono (by decide)) T.g_law_straight_ones T.F_law_straight_ones.kp T.b_law_straight_ones tk (ea_cons (e_var 2 rfl) ea_nil) ⟨fa, F.nx 2, 0, 1, [(fa, fdM F)], rfl, rfl, hi, ⟨hk1, rfl⟩, fun p w' h a B due F2 ho hk2 => ⟨_, g_lst (xs := [S.d (.list [(Pc.st p (p.add ⟨w', h⟩)).D, B.D]), S.d (Pc.st p (p.add ⟨4, a⟩)).D, S.d (lnkD [0, 1]), S.d (.bool due)]) rfl (.d (xs := [.list [(Pc.st p (p.add ⟨w', h⟩)).D, B.D], (Pc.st p (p.add ⟨4, a⟩)).D, lnkD [0, 1], .bool due])) (g_cons (g_name 8 sc_law.nd) (g_cons (g_name 9 sc_law.nd) (g_cons (g_name 6 sc_law.nd) (g_cons (g_name 7 sc_law.nd) g_nil)))), ?_⟩⟩))
        exact b_nil ⟨[.st p (p.add ⟨w', h⟩), B], _, [0, 1], due, F2, rfl, hk2, bt_st ho, rfl⟩
      · -- others, extra, links_here, due = round_ones(feed_here)
        refine b_cons (s_asgQ (q_call (ok_law_round_ones T) (hr.mono (by decide)) T.g_law_round_ones T.F_law_round_ones.kp T.b_law_round_ones tk (ea_cons (e_var 2 rfl) ea_nil) ⟨fa, F.nx 2, 0, 1, [(fa, fdM F)], rfl, rfl, hi, ⟨hk1, rfl⟩, fun zs z ls due F2 ho hk2 => ⟨_, g_lst (xs := [S.d (.list (zs.map Pc.D)), S.d z.D, S.d (lnkD ls), S.d (.bool due)]) rfl (.d (xs := [.list (zs.map Pc.D), z.D, lnkD ls, .bool due])) (g_cons (g_name 8 sc_law.nd) (g_cons (g_name 9 sc_law.nd) (g_cons (g_name 6 sc_law.nd) (g_cons (g_name 7 sc_law.nd) g_nil)))), ?_⟩⟩))
        exact b_nil ⟨zs, z, ls, due, F2, rfl, hk2, ho, rfl⟩
      rintro _ _ ⟨zs, z, ls0, due0, F2, rfl, hk2, o, rfl⟩
      -- links_here, due = links(feed_here, links_here, due)
      refine b_cons (s_asgQ (q_call (ok_law_links T) (hr.mono (by decide)) T.g_law_links T.F_law_links.kp T.b_law_links tk (ea_cons (e_var 2 rfl) (ea_cons (e_var 6 rfl) (ea_cons (e_var 7 rfl) ea_nil))) ⟨fa, F2, 0, 11, [(fa, fdM F)], ls0, due0, rfl, rfl, hi, ⟨hk2, rfl⟩, fun ls due F3 hL => ⟨_, g_lst (xs := [S.d (lnkD ls), S.d (.bool due)]) rfl (.d (xs := [lnkD ls, .bool due])) (g_cons (g_name 6 sc_law.nd) (g_cons (g_name 7 sc_law.nd) g_nil)), ?_⟩⟩))
      refine b_gc (List.nil_sublist _) ?_
      have hz2 := o.few.2
      have hown : PyData.list ((List.range zs.length).map fun k => lnkD [k]) = papD (ownY zs) := by unfold papD; rw [ownY_snd]
      -- own = [[(k, 0)] for k in range(len(others))]
      refine b_cons (s_compI 3 10 (List.range zs.length) (fun j => PyData.int (0 + (j : Int))) (fun k => lnkD [k]) rfl sc_law.nd (by rw [List.map_map]; exact i_range1 (hi := (zs.length : Int)) rfl T.n_range (ea_cons (e_len (d := .list (zs.map Pc.D)) (n := zs.length) rfl T.n_len (ea_cons (e_var 8 rfl) ea_nil) .d (len_pcs zs)) ea_nil) (by omega)) (blkOk_by rfl) (by exact (show 10 < 12 by decide)) (Nat.ble_eq_true_of_le (by rw [List.length_range]; omega)) (fun x hx M' s' H' C cl fp => e_is (e_lst (ds := [_]) (ea_cons (e_tup (ds := [_, _]) (ea_cons (e_var 10 rfl) (ea_cons e_int ea_nil))) ea_nil)) (show S.d (.list [.tuple [.int (0 + (x : Int)), .int 0]]) = S.d (lnkD [x]) by rw [Int.zero_add]; rfl)) (fun D => ?_) (hg := fun _ _ _ _ _ => pg_name sc_law.nd rfl (Or.inl rfl)))
      refine b_frz 3 (ds := (List.range zs.length).map fun k => lnkD [k]) rfl ?_
      rw [hown]
      have hpic : PyData.list (zs.map Pc.D ++ [z.D]) = .list ((zs ++ [z]).map Pc.D) := by rw [List.map_append]; rfl
      -- even = (('none',), (others + [extra], []), (others, []))
      refine b_cons (s_set 4 sc_law.nd (e_tup (ds := [.tuple [.str "none"], picD (zs ++ [z]), picD zs]) (ea_cons (e_tup (ds := [_]) (ea_cons e_str ea_nil)) (ea_cons (e_tup (ds := [.list ((zs ++ [z]).map Pc.D), .list []]) (ea_cons (e_is (e_cat (xs := zs.map Pc.D) (e_var 8 rfl) (e_lst (ds := [_]) (ea_cons (e_var 9 rfl) ea_nil)) (by rw [List.length_map]; show _ + 1 ≤ _; omega)) (congrArg S.d hpic)) (ea_cons (e_lst (ds := []) ea_nil) ea_nil))) (ea_cons (e_tup (ds := [.list (zs.map Pc.D), .list []]) (ea_cons (e_var 8 rfl) (ea_cons (e_lst (ds := []) ea_nil) ea_nil))) ea_nil)))) ?_)
      have hp1 : PyData.list (((List.range zs.length).map fun k => lnkD [k]) ++ [lnkD ls]) = papD (ownY zs ++ [(z, ls)]) := (pap_app zs z ls).symm
      have hc1 : ((List.range zs.length).map fun k => lnkD [k]).length + 1 ≤ 100000 := by rw [List.length_map, List.length_range]; omega
      have hln : (ownY zs ++ [(z, ls)]).length ≤ 10 ∧ (ownY zs).length ≤ 10 := by rw [List.length_append, ownY_len]; exact ⟨by show _ + 1 ≤ _; omega, by omega⟩
      have hv1 : ((ownY zs ++ [(z, ls)]).all (shB ((ownY zs).map (·.1))) && (ownY zs).all (shB ((ownY zs ++ [(z, ls)]).map (·.1)))) = due := by rw [bt_all1 o hL, bt_all2 o, Bool.and_true]
      have hv2 : ((ownY zs).all (shB ((ownY zs ++ [(z, ls)]).map (·.1))) && (ownY zs ++ [(z, ls)]).all (shB ((ownY zs).map (·.1)))) = due := by rw [bt_all1 o hL, bt_all2 o, Bool.true_and]
      have ev0 : itD (PyData.tuple [.tuple [.str "none"], picD (zs ++ [z]), picD zs]) 0 = some (.tuple [.str "none"]) := rfl
      have ev1 : itD (PyData.tuple [.tuple [.str "none"], picD (zs ++ [z]), picD zs]) 1 = some (picD (zs ++ [z])) := rfl
      have ev2 : itD (PyData.tuple [.tuple [.str "none"], picD (zs ++ [z]), picD zs]) 2 = some (picD zs) := rfl
      -- found = [alike_shown(even, (own + [links_here], own))]
      refine b_cons (s_setM 5 sc_law.nd (n_lst (ss := [S.d (.bool due)]) (ea_cons (EV.ofQ (q_call (ok_alike_shown T) (hr.mono (by decide)) T.g_alike_shown T.F_alike_shown.kp T.b_alike_shown tk (ea_cons (e_var 4 rfl) (ea_cons (e_tup (ds := [papD (ownY zs ++ [(z, ls)]), papD (ownY zs)]) (ea_cons (e_is (e_cat (xs := (List.range zs.length).map fun k => lnkD [k]) (e_is (e_var 3 rfl) (congrArg S.d hown.symm)) (e_lst (ds := [_]) (ea_cons (e_var 6 rfl) ea_nil)) hc1) (congrArg S.d hp1)) (ea_cons (e_var 3 rfl) ea_nil))) ea_nil)) ⟨ownY zs ++ [(z, ls)], ownY zs, (by rw [own_app, ownY_fst]), hln, bt_lk1 o hL, bt_lk2 o, fun M' hs => ⟨congrArg (fun b => S.d (.bool b)) hv1, hs⟩⟩)) ea_nil)) fun q => ?_)
      -- found.append(alike_shown((even[0], even[2], even[1]), (own, own + [links_here])))
      refine b_cons (s_expr (e_append (s := S.d (.bool due)) (q := q) (k := 0) (xs := [S.d (.bool due)]) (e_var 5 rfl) (ea_cons (EV.ofQ (q_call (ok_alike_shown T) (hr.mono (by decide)) T.g_alike_shown T.F_alike_shown.kp T.b_alike_shown tk (ea_cons (e_tup (ds := [.tuple [.str "none"], picD zs, picD (zs ++ [z])]) (ea_cons (e_ix (e_var 4 rfl) e_int ev0) (ea_cons (e_ix (e_var 4 rfl) e_int ev2) (ea_cons (e_ix (e_var 4 rfl) e_int ev1) ea_nil)))) (ea_cons (e_tup (ds := [papD (ownY zs), papD (ownY zs ++ [(z, ls)])]) (ea_cons (e_var 3 rfl) (ea_cons (e_is (e_cat (xs := (List.range zs.length).map fun k => lnkD [k]) (e_is (e_var 3 rfl) (congrArg S.d hown.symm)) (e_lst (ds := [_]) (ea_cons (e_var 6 rfl) ea_nil)) hc1) (congrArg S.d hp1)) ea_nil))) ea_nil)) ⟨ownY zs, ownY zs ++ [(z, ls)], (by rw [own_app, ownY_fst]), hln.symm, bt_lk2 o, bt_lk1 o hL, fun M' hs => ⟨congrArg (fun b => S.d (.bool b)) hv2, hs⟩⟩)) ea_nil) rfl (by show 1 < 100000; decide) ⟨0, _, rfl⟩) ?_)
      refine b_frz (M := []) 5 (ds := [.bool due, .bool due]) rfl ?_
      have heq : PyData.eqv (.list [.bool due, .bool due]) (.list [.bool due, .bool due]) = true := by cases due <;> rfl
      have hsh : SeqAt.shaped (PyData.list [.bool due, .bool due]) = true := by cases due <;> rfl
      -- if found != [due, due] or False in [isinstance(one, bool) for one in found]:
      refine b_cons (s_if (b1 := false) (EW.t (w_or (b1 := false) (b2 := false) (t_ne (d1 := .list [.bool due, .bool due]) (d2 := .list [.bool due, .bool due]) (z := true) hr (e_var 5 rfl) (e_lst (ds := [_, _]) (ea_cons (e_var 7 rfl) (ea_cons (e_var 7 rfl) ea_nil))) .d .d hsh hsh heq) (fun hb => (w_or1 (t_inD (ds := [.bool true, .bool true]) (z := false) hr e_bl (e_frz (n_compI 11 [due, due] PyData.bool (fun _ => PyData.bool true) rfl sc_law.nd (i_list (e_var 5 rfl)) (blkOk_by rfl) (by exact (show 11 < 12 by decide)) (by rfl) (fun b hb M' s H C cl fp => e_isi (d := .bool b) rfl T.n_isinstance (ea_cons (e_var 11 rfl) (ea_cons (e_ty (n := "bool") rfl T.n_bool (by decide +kernel)) ea_nil)) .d k_bool_bool) (hg := fun _ _ _ _ _ => pg_name sc_law.nd rfl (Or.inl rfl)))) .d .d (by decide +kernel) (by decide +kernel) rfl))))) (fun h1 => nomatch h1) (fun _ => b_nil ?_))
      exact b_nil ⟨_, _, _, _, _, _, _, _, _, _, _, rfl⟩
    · obtain ⟨u1, u2, u3, u4, u5, u6, u7, u8, u9, u10, u11, rfl⟩ := w
      -- return True
      refine b_cons (s_ret e_bl ?_)
      exact hR _

end
theorem all_mk {l : PySem.W.OpenLaw} {w : World} {K : PySem.W.Frag} {h : Heap} {mg : Str → Option Value} {fa f1 f2 f3 f4 f5 f6 f7 f8 f9 f10 f11 f12 f13 f14 f15 f16 f17 f18 f19 f20 f21 f22 f23 f24 f25 f26 f27 f28 f29 f30 f31 f32 f33 f34 f35 f36 f37 f38 f39 f40 f41 f42 f43 f44 f45 f46 f47 f48 f49 C_NoNumber C_Given : Addr} (X : K.In h) (G : h.Ns mainGlobals mg) (hfa : mg "law" = some (.ref fa))
    {od1 an1 od2 an2 od3 an3 od4 an4 od5 an5 od6 an6 od7 an7 od8 an8 od9 an9 od10 an10 od11 an11 od12 an12 od13 an13 od14 an14 od15 an15 od16 an16 od17 an17 od18 an18 od19 an19 od20 an20 od21 an21 od22 an22 od23 an23 od24 an24 od25 an25 od26 an26 od27 an27 od28 an28 od29 an29 od30 an30 od31 an31 od32 an32 od33 an33 od34 an34 od35 an35 od36 an36 od37 an37 od38 an38 od39 an39 od40 an40 od41 an41 od42 an42 od43 an43 od44 an44 od45 an45 od46 an46 od47 an47 od48 an48 od49 an49 : Option Addr} {sl1 sl2 sl3 sl4 sl5 sl6 sl7 sl8 sl9 sl10 sl11 sl12 sl13 sl14 sl15 sl16 sl17 sl18 sl19 sl20 sl21 sl22 sl23 sl24 sl25 sl26 sl27 sl28 sl29 sl30 sl31 sl32 sl33 sl34 sl35 sl36 sl37 sl38 sl39 sl40 sl41 sl42 sl43 sl44 sl45 sl46 sl47 sl48 sl49 : Array (Option Value)} {oc1 kV1 dc1 pm1 cd1 ct1 oc2 kV2 dc2 pm2 cd2 ct2 oc3 kV3 dc3 pm3 cd3 ct3 oc4 kV4 dc4 pm4 cd4 ct4 oc5 kV5 dc5 pm5 cd5 ct5 oc6 kV6 dc6 pm6 cd6 ct6 oc7 kV7 dc7 pm7 cd7 ct7 oc8 kV8 dc8 pm8 cd8 ct8 oc9 kV9 dc9 pm9 cd9 ct9 oc10 kV10 dc10 pm10 cd10 ct10 oc11 kV11 dc11 pm11 cd11 ct11 oc12 kV12 dc12 pm12 cd12 ct12 oc13 kV13 dc13 pm13 cd13 ct13 oc14 kV14 dc14 pm14 cd14 ct14 oc15 kV15 dc15 pm15 cd15 ct15 oc16 kV16 dc16 pm16 cd16 ct16 oc17 kV17 dc17 pm17 cd17 ct17 oc18 kV18 dc18 pm18 cd18 ct18 oc19 kV19 dc19 pm19 cd19 ct19 oc20 kV20 dc20 pm20 cd20 ct20 oc21 kV21 dc21 pm21 cd21 ct21 oc22 kV22 dc22 pm22 cd22 ct22 oc23 kV23 dc23 pm23 cd23 ct23 oc24 kV24 dc24 pm24 cd24 ct24 oc25 kV25 dc25 pm25 cd25 ct25 oc26 kV26 dc26 pm26 cd26 ct26 oc27 kV27 dc27 pm27 cd27 ct27 oc28 kV28 dc28 pm28 cd28 ct28 oc29 kV29 dc29 pm29 cd29 ct29 oc30 kV30 dc30 pm30 cd30 ct30 oc31 kV31 dc31 pm31 cd31 ct31 oc32 kV32 dc32 pm32 cd32 ct32 oc33 kV33 dc33 pm33 cd33 ct33 oc34 kV34 dc34 pm34 cd34 ct34 oc35 kV35 dc35 pm35 cd35 ct35 oc36 kV36 dc36 pm36 cd36 ct36 oc37 kV37 dc37 pm37 cd37 ct37 oc38 kV38 dc38 pm38 cd38 ct38 oc39 kV39 dc39 pm39 cd39 ct39 oc40 kV40 dc40 pm40 cd40 ct40 oc41 kV41 dc41 pm41 cd41 ct41 oc42 kV42 dc42 pm42 cd42 ct42 oc43 kV43 dc43 pm43 cd43 ct43 oc44 kV44 dc44 pm44 cd44 ct44 oc45 kV45 dc45 pm45 cd45 ct45 oc46 kV46 dc46 pm46 cd46 ct46 oc47 kV47 dc47 pm47 cd47 ct47 oc48 kV48 dc48 pm48 cd48 ct48 oc49 kV49 dc49 pm49 cd49 ct49 : Value}
    {tk_MOST_TOLD tk_NOUGHT_0_0 tk_NOUGHT_0_1 tk_NOUGHT_1_0 tk_NOUGHT_1_1 tk_ONE_0 tk_ONE_1 : Tok} {ad_NOUGHT_0 ad_NOUGHT_1 ad_NOUGHT ad_ONE : Addr} {od_NOUGHT_0 od_NOUGHT_1 od_NOUGHT od_ONE : Option Addr} {nn_NOUGHT_0 nn_NOUGHT_1 nn_NOUGHT nn_ONE : Nat} {sl_NOUGHT_0 sl_NOUGHT_1 sl_NOUGHT sl_ONE : Array (Option Value)}
    (a1 : PySem.W.nsIn K mainGlobals "_law_feed" = some (some (.ref f1)))
    (l1 : K.lookup f1 = some ⟨oc1, od1, .func (PySem.W.fnOf "_law_feed" "_law_feed" (defArgs s_law_feed) (defBody s_law_feed) (defScope s_law_feed) .none kV1 dc1 pm1 an1 cd1 ct1), sl1⟩)
    (c1 : PySem.W.codeIn K cd1 "_law_feed" = true)
    (k1 : PySem.W.keepIn K (.ref f1) = true)
    (a2 : PySem.W.nsIn K mainGlobals "_law_draw" = some (some (.ref f2)))
    (l2 : K.lookup f2 = some ⟨oc2, od2, .func (PySem.W.fnOf "_law_draw" "_law_draw" (defArgs s_law_draw) (defBody s_law_draw) (defScope s_law_draw) .none kV2 dc2 pm2 an2 cd2 ct2), sl2⟩)
    (c2 : PySem.W.codeIn K cd2 "_law_draw" = true)
    (k2 : PySem.W.keepIn K (.ref f2) = true)
    (a3 : PySem.W.nsIn K mainGlobals "_law_links" = some (some (.ref f3)))
    (l3 : K.lookup f3 = some ⟨oc3, od3, .func (PySem.W.fnOf "_law_links" "_law_links" (defArgs s_law_links) (defBody s_law_links) (defScope s_law_links) .none kV3 dc3 pm3 an3 cd3 ct3), sl3⟩)
    (c3 : PySem.W.codeIn K cd3 "_law_links" = true)
    (k3 : PySem.W.keepIn K (.ref f3) = true)
    (a4 : PySem.W.nsIn K mainGlobals "_law_cell_at" = some (some (.ref f4)))
    (l4 : K.lookup f4 = some ⟨oc4, od4, .func (PySem.W.fnOf "_law_cell_at" "_law_cell_at" (defArgs s_law_cell_at) (defBody s_law_cell_at) (defScope s_law_cell_at) .none kV4 dc4 pm4 an4 cd4 ct4), sl4⟩)
    (c4 : PySem.W.codeIn K cd4 "_law_cell_at" = true)
    (k4 : PySem.W.keepIn K (.ref f4) = true)
    (a5 : PySem.W.nsIn K mainGlobals "_law_point" = some (some (.ref f5)))
    (l5 : K.lookup f5 = some ⟨oc5, od5, .func (PySem.W.fnOf "_law_point" "_law_point" (defArgs s_law_point) (defBody s_law_point) (defScope s_law_point) .none kV5 dc5 pm5 an5 cd5 ct5), sl5⟩)
    (c5 : PySem.W.codeIn K cd5 "_law_point" = true)
    (k5 : PySem.W.keepIn K (.ref f5) = true)
    (a6 : PySem.W.nsIn K mainGlobals "divisor" = some (some (.ref f6)))
    (l6 : K.lookup f6 = some ⟨oc6, od6, .func (PySem.W.fnOf "divisor" "divisor" (defArgs s_divisor) (defBody s_divisor) (defScope s_divisor) .none kV6 dc6 pm6 an6 cd6 ct6), sl6⟩)
    (c6 : PySem.W.codeIn K cd6 "divisor" = true)
    (k6 : PySem.W.keepIn K (.ref f6) = true)
    (a7 : PySem.W.nsIn K mainGlobals "ratio" = some (some (.ref f7)))
    (l7 : K.lookup f7 = some ⟨oc7, od7, .func (PySem.W.fnOf "ratio" "ratio" (defArgs s_ratio) (defBody s_ratio) (defScope s_ratio) .none kV7 dc7 pm7 an7 cd7 ct7), sl7⟩)
    (c7 : PySem.W.codeIn K cd7 "ratio" = true)
    (k7 : PySem.W.keepIn K (.ref f7) = true)
    (a8 : PySem.W.nsIn K mainGlobals "plus" = some (some (.ref f8)))
    (l8 : K.lookup f8 = some ⟨oc8, od8, .func (PySem.W.fnOf "plus" "plus" (defArgs s_plus) (defBody s_plus) (defScope s_plus) .none kV8 dc8 pm8 an8 cd8 ct8), sl8⟩)
    (c8 : PySem.W.codeIn K cd8 "plus" = true)
    (k8 : PySem.W.keepIn K (.ref f8) = true)
    (a9 : PySem.W.nsIn K mainGlobals "together" = some (some (.ref f9)))
    (l9 : K.lookup f9 = some ⟨oc9, od9, .func (PySem.W.fnOf "together" "together" (defArgs s_together) (defBody s_together) (defScope s_together) .none kV9 dc9 pm9 an9 cd9 ct9), sl9⟩)
    (c9 : PySem.W.codeIn K cd9 "together" = true)
    (k9 : PySem.W.keepIn K (.ref f9) = true)
    (a10 : PySem.W.nsIn K mainGlobals "below" = some (some (.ref f10)))
    (l10 : K.lookup f10 = some ⟨oc10, od10, .func (PySem.W.fnOf "below" "below" (defArgs s_below) (defBody s_below) (defScope s_below) .none kV10 dc10 pm10 an10 cd10 ct10), sl10⟩)
    (c10 : PySem.W.codeIn K cd10 "below" = true)
    (k10 : PySem.W.keepIn K (.ref f10) = true)
    (a11 : PySem.W.nsIn K mainGlobals "before" = some (some (.ref f11)))
    (l11 : K.lookup f11 = some ⟨oc11, od11, .func (PySem.W.fnOf "before" "before" (defArgs s_before) (defBody s_before) (defScope s_before) .none kV11 dc11 pm11 an11 cd11 ct11), sl11⟩)
    (c11 : PySem.W.codeIn K cd11 "before" = true)
    (k11 : PySem.W.keepIn K (.ref f11) = true)
    (a12 : PySem.W.nsIn K mainGlobals "stretch" = some (some (.ref f12)))
    (l12 : K.lookup f12 = some ⟨oc12, od12, .func (PySem.W.fnOf "stretch" "stretch" (defArgs s_stretch) (defBody s_stretch) (defScope s_stretch) .none kV12 dc12 pm12 an12 cd12 ct12), sl12⟩)
    (c12 : PySem.W.codeIn K cd12 "stretch" = true)
    (k12 : PySem.W.keepIn K (.ref f12) = true)
    (a13 : PySem.W.nsIn K mainGlobals "_law_straight_ones" = some (some (.ref f13)))
    (l13 : K.lookup f13 = some ⟨oc13, od13, .func (PySem.W.fnOf "_law_straight_ones" "_law_straight_ones" (defArgs s_law_straight_ones) (defBody s_law_straight_ones) (defScope s_law_straight_ones) .none kV13 dc13 pm13 an13 cd13 ct13), sl13⟩)
    (c13 : PySem.W.codeIn K cd13 "_law_straight_ones" = true)
    (k13 : PySem.W.keepIn K (.ref f13) = true)
    (a14 : PySem.W.nsIn K mainGlobals "_law_left" = some (some (.ref f14)))
    (l14 : K.lookup f14 = some ⟨oc14, od14, .func (PySem.W.fnOf "_law_left" "_law_left" (defArgs s_law_left) (defBody s_law_left) (defScope s_law_left) .none kV14 dc14 pm14 an14 cd14 ct14), sl14⟩)
    (c14 : PySem.W.codeIn K cd14 "_law_left" = true)
    (k14 : PySem.W.keepIn K (.ref f14) = true)
    (a15 : PySem.W.nsIn K mainGlobals "minus" = some (some (.ref f15)))
    (l15 : K.lookup f15 = some ⟨oc15, od15, .func (PySem.W.fnOf "minus" "minus" (defArgs s_minus) (defBody s_minus) (defScope s_minus) .none kV15 dc15 pm15 an15 cd15 ct15), sl15⟩)
    (c15 : PySem.W.codeIn K cd15 "minus" = true)
    (k15 : PySem.W.keepIn K (.ref f15) = true)
    (a16 : PySem.W.nsIn K mainGlobals "off" = some (some (.ref f16)))
    (l16 : K.lookup f16 = some ⟨oc16, od16, .func (PySem.W.fnOf "off" "off" (defArgs s_off) (defBody s_off) (defScope s_off) .none kV16 dc16 pm16 an16 cd16 ct16), sl16⟩)
    (c16 : PySem.W.codeIn K cd16 "off" = true)
    (k16 : PySem.W.keepIn K (.ref f16) = true)
    (a17 : PySem.W.nsIn K mainGlobals "_law_round_ones" = some (some (.ref f17)))
    (l17 : K.lookup f17 = some ⟨oc17, od17, .func (PySem.W.fnOf "_law_round_ones" "_law_round_ones" (defArgs s_law_round_ones) (defBody s_law_round_ones) (defScope s_law_round_ones) .none kV17 dc17 pm17 an17 cd17 ct17), sl17⟩)
    (c17 : PySem.W.codeIn K cd17 "_law_round_ones" = true)
    (k17 : PySem.W.keepIn K (.ref f17) = true)
    (a18 : PySem.W.nsIn K mainGlobals "sign_of" = some (some (.ref f18)))
    (l18 : K.lookup f18 = some ⟨oc18, od18, .func (PySem.W.fnOf "sign_of" "sign_of" (defArgs s_sign_of) (defBody s_sign_of) (defScope s_sign_of) .none kV18 dc18 pm18 an18 cd18 ct18), sl18⟩)
    (c18 : PySem.W.codeIn K cd18 "sign_of" = true)
    (k18 : PySem.W.keepIn K (.ref f18) = true)
    (a19 : PySem.W.nsIn K mainGlobals "times" = some (some (.ref f19)))
    (l19 : K.lookup f19 = some ⟨oc19, od19, .func (PySem.W.fnOf "times" "times" (defArgs s_times) (defBody s_times) (defScope s_times) .none kV19 dc19 pm19 an19 cd19 ct19), sl19⟩)
    (c19 : PySem.W.codeIn K cd19 "times" = true)
    (k19 : PySem.W.keepIn K (.ref f19) = true)
    (a20 : PySem.W.nsIn K mainGlobals "along" = some (some (.ref f20)))
    (l20 : K.lookup f20 = some ⟨oc20, od20, .func (PySem.W.fnOf "along" "along" (defArgs s_along) (defBody s_along) (defScope s_along) .none kV20 dc20 pm20 an20 cd20 ct20), sl20⟩)
    (c20 : PySem.W.codeIn K cd20 "along" = true)
    (k20 : PySem.W.keepIn K (.ref f20) = true)
    (a21 : PySem.W.nsIn K mainGlobals "across" = some (some (.ref f21)))
    (l21 : K.lookup f21 = some ⟨oc21, od21, .func (PySem.W.fnOf "across" "across" (defArgs s_across) (defBody s_across) (defScope s_across) .none kV21 dc21 pm21 an21 cd21 ct21), sl21⟩)
    (c21 : PySem.W.codeIn K cd21 "across" = true)
    (k21 : PySem.W.keepIn K (.ref f21) = true)
    (a22 : PySem.W.nsIn K mainGlobals "quarter_of" = some (some (.ref f22)))
    (l22 : K.lookup f22 = some ⟨oc22, od22, .func (PySem.W.fnOf "quarter_of" "quarter_of" (defArgs s_quarter_of) (defBody s_quarter_of) (defScope s_quarter_of) .none kV22 dc22 pm22 an22 cd22 ct22), sl22⟩)
    (c22 : PySem.W.codeIn K cd22 "quarter_of" = true)
    (k22 : PySem.W.keepIn K (.ref f22) = true)
    (a23 : PySem.W.nsIn K mainGlobals "ahead" = some (some (.ref f23)))
    (l23 : K.lookup f23 = some ⟨oc23, od23, .func (PySem.W.fnOf "ahead" "ahead" (defArgs s_ahead) (defBody s_ahead) (defScope s_ahead) .none kV23 dc23 pm23 an23 cd23 ct23), sl23⟩)
    (c23 : PySem.W.codeIn K cd23 "ahead" = true)
    (k23 : PySem.W.keepIn K (.ref f23) = true)
    (a24 : PySem.W.nsIn K mainGlobals "side" = some (some (.ref f24)))
    (l24 : K.lookup f24 = some ⟨oc24, od24, .func (PySem.W.fnOf "side" "side" (defArgs s_side) (defBody s_side) (defScope s_side) .none kV24 dc24 pm24 an24 cd24 ct24), sl24⟩)
    (c24 : PySem.W.codeIn K cd24 "side" = true)
    (k24 : PySem.W.keepIn K (.ref f24) = true)
    (a25 : PySem.W.nsIn K mainGlobals "lies_on" = some (some (.ref f25)))
    (l25 : K.lookup f25 = some ⟨oc25, od25, .func (PySem.W.fnOf "lies_on" "lies_on" (defArgs s_lies_on) (defBody s_lies_on) (defScope s_lies_on) .none kV25 dc25 pm25 an25 cd25 ct25), sl25⟩)
    (c25 : PySem.W.codeIn K cd25 "lies_on" = true)
    (k25 : PySem.W.keepIn K (.ref f25) = true)
    (a26 : PySem.W.nsIn K mainGlobals "far" = some (some (.ref f26)))
    (l26 : K.lookup f26 = some ⟨oc26, od26, .func (PySem.W.fnOf "far" "far" (defArgs s_far) (defBody s_far) (defScope s_far) .none kV26 dc26 pm26 an26 cd26 ct26), sl26⟩)
    (c26 : PySem.W.codeIn K cd26 "far" = true)
    (k26 : PySem.W.keepIn K (.ref f26) = true)
    (a27 : PySem.W.nsIn K mainGlobals "on" = some (some (.ref f27)))
    (l27 : K.lookup f27 = some ⟨oc27, od27, .func (PySem.W.fnOf "on" "on" (defArgs s_on) (defBody s_on) (defScope s_on) .none kV27 dc27 pm27 an27 cd27 ct27), sl27⟩)
    (c27 : PySem.W.codeIn K cd27 "on" = true)
    (k27 : PySem.W.keepIn K (.ref f27) = true)
    (a28 : PySem.W.nsIn K mainGlobals "comes_to" = some (some (.ref f28)))
    (l28 : K.lookup f28 = some ⟨oc28, od28, .func (PySem.W.fnOf "comes_to" "comes_to" (defArgs s_comes_to) (defBody s_comes_to) (defScope s_comes_to) .none kV28 dc28 pm28 an28 cd28 ct28), sl28⟩)
    (c28 : PySem.W.codeIn K cd28 "comes_to" = true)
    (k28 : PySem.W.keepIn K (.ref f28) = true)
    (a29 : PySem.W.nsIn K mainGlobals "bent_chain" = some (some (.ref f29)))
    (l29 : K.lookup f29 = some ⟨oc29, od29, .func (PySem.W.fnOf "bent_chain" "bent_chain" (defArgs s_bent_chain) (defBody s_bent_chain) (defScope s_bent_chain) .none kV29 dc29 pm29 an29 cd29 ct29), sl29⟩)
    (c29 : PySem.W.codeIn K cd29 "bent_chain" = true)
    (k29 : PySem.W.keepIn K (.ref f29) = true)
    (a30 : PySem.W.nsIn K mainGlobals "straight_chain" = some (some (.ref f30)))
    (l30 : K.lookup f30 = some ⟨oc30, od30, .func (PySem.W.fnOf "straight_chain" "straight_chain" (defArgs s_straight_chain) (defBody s_straight_chain) (defScope s_straight_chain) .none kV30 dc30 pm30 an30 cd30 ct30), sl30⟩)
    (c30 : PySem.W.codeIn K cd30 "straight_chain" = true)
    (k30 : PySem.W.keepIn K (.ref f30) = true)
    (a31 : PySem.W.nsIn K mainGlobals "same_circle" = some (some (.ref f31)))
    (l31 : K.lookup f31 = some ⟨oc31, od31, .func (PySem.W.fnOf "same_circle" "same_circle" (defArgs s_same_circle) (defBody s_same_circle) (defScope s_same_circle) .none kV31 dc31 pm31 an31 cd31 ct31), sl31⟩)
    (c31 : PySem.W.codeIn K cd31 "same_circle" = true)
    (k31 : PySem.W.keepIn K (.ref f31) = true)
    (a32 : PySem.W.nsIn K mainGlobals "chain_shown" = some (some (.ref f32)))
    (l32 : K.lookup f32 = some ⟨oc32, od32, .func (PySem.W.fnOf "chain_shown" "chain_shown" (defArgs s_chain_shown) (defBody s_chain_shown) (defScope s_chain_shown) .none kV32 dc32 pm32 an32 cd32 ct32), sl32⟩)
    (c32 : PySem.W.codeIn K cd32 "chain_shown" = true)
    (k32 : PySem.W.keepIn K (.ref f32) = true)
    (a33 : PySem.W.nsIn K mainGlobals "grown" = some (some (.ref f33)))
    (l33 : K.lookup f33 = some ⟨oc33, od33, .func (PySem.W.fnOf "grown" "grown" (defArgs s_grown) (defBody s_grown) (defScope s_grown) .none kV33 dc33 pm33 an33 cd33 ct33), sl33⟩)
    (c33 : PySem.W.codeIn K cd33 "grown" = true)
    (k33 : PySem.W.keepIn K (.ref f33) = true)
    (a34 : PySem.W.nsIn K mainGlobals "turned" = some (some (.ref f34)))
    (l34 : K.lookup f34 = some ⟨oc34, od34, .func (PySem.W.fnOf "turned" "turned" (defArgs s_turned) (defBody s_turned) (defScope s_turned) .none kV34 dc34 pm34 an34 cd34 ct34), sl34⟩)
    (c34 : PySem.W.codeIn K cd34 "turned" = true)
    (k34 : PySem.W.keepIn K (.ref f34) = true)
    (a35 : PySem.W.nsIn K mainGlobals "led" = some (some (.ref f35)))
    (l35 : K.lookup f35 = some ⟨oc35, od35, .func (PySem.W.fnOf "led" "led" (defArgs s_led) (defBody s_led) (defScope s_led) .none kV35 dc35 pm35 an35 cd35 ct35), sl35⟩)
    (c35 : PySem.W.codeIn K cd35 "led" = true)
    (k35 : PySem.W.keepIn K (.ref f35) = true)
    (a36 : PySem.W.nsIn K mainGlobals "led_piece" = some (some (.ref f36)))
    (l36 : K.lookup f36 = some ⟨oc36, od36, .func (PySem.W.fnOf "led_piece" "led_piece" (defArgs s_led_piece) (defBody s_led_piece) (defScope s_led_piece) .none kV36 dc36 pm36 an36 cd36 ct36), sl36⟩)
    (c36 : PySem.W.codeIn K cd36 "led_piece" = true)
    (k36 : PySem.W.keepIn K (.ref f36) = true)
    (a37 : PySem.W.nsIn K mainGlobals "first" = some (some (.ref f37)))
    (l37 : K.lookup f37 = some ⟨oc37, od37, .func (PySem.W.fnOf "first" "first" (defArgs s_first) (defBody s_first) (defScope s_first) .none kV37 dc37 pm37 an37 cd37 ct37), sl37⟩)
    (c37 : PySem.W.codeIn K cd37 "first" = true)
    (k37 : PySem.W.keepIn K (.ref f37) = true)
    (a38 : PySem.W.nsIn K mainGlobals "behind" = some (some (.ref f38)))
    (l38 : K.lookup f38 = some ⟨oc38, od38, .func (PySem.W.fnOf "behind" "behind" (defArgs s_behind) (defBody s_behind) (defScope s_behind) .none kV38 dc38 pm38 an38 cd38 ct38), sl38⟩)
    (c38 : PySem.W.codeIn K cd38 "behind" = true)
    (k38 : PySem.W.keepIn K (.ref f38) = true)
    (a39 : PySem.W.nsIn K mainGlobals "power" = some (some (.ref f39)))
    (l39 : K.lookup f39 = some ⟨oc39, od39, .func (PySem.W.fnOf "power" "power" (defArgs s_power) (defBody s_power) (defScope s_power) .none kV39 dc39 pm39 an39 cd39 ct39), sl39⟩)
    (c39 : PySem.W.codeIn K cd39 "power" = true)
    (k39 : PySem.W.keepIn K (.ref f39) = true)
    (a40 : PySem.W.nsIn K mainGlobals "frame_of" = some (some (.ref f40)))
    (l40 : K.lookup f40 = some ⟨oc40, od40, .func (PySem.W.fnOf "frame_of" "frame_of" (defArgs s_frame_of) (defBody s_frame_of) (defScope s_frame_of) .none kV40 dc40 pm40 an40 cd40 ct40), sl40⟩)
    (c40 : PySem.W.codeIn K cd40 "frame_of" = true)
    (k40 : PySem.W.keepIn K (.ref f40) = true)
    (a41 : PySem.W.findIn K (.ref C_Given) "piece" = some (some (.ref f41)))
    (i41 : PySem.W.isFn K (.ref f41) = true)
    (l41 : K.lookup f41 = some ⟨oc41, od41, .func (PySem.W.fnOf "piece" "Given.piece" (defArgs s_Given_piece) (defBody s_Given_piece) (defScope s_Given_piece) .none kV41 dc41 pm41 an41 cd41 ct41), sl41⟩)
    (c41 : PySem.W.codeIn K cd41 "Given.piece" = true)
    (k41 : PySem.W.keepIn K (.ref f41) = true)
    (a42 : PySem.W.nsIn K mainGlobals "is_number" = some (some (.ref f42)))
    (l42 : K.lookup f42 = some ⟨oc42, od42, .func (PySem.W.fnOf "is_number" "is_number" (defArgs s_is_number) (defBody s_is_number) (defScope s_is_number) .none kV42 dc42 pm42 an42 cd42 ct42), sl42⟩)
    (c42 : PySem.W.codeIn K cd42 "is_number" = true)
    (k42 : PySem.W.keepIn K (.ref f42) = true)
    (a43 : PySem.W.findIn K (.ref C_Given) "is_one" = some (some (.ref f43)))
    (i43 : PySem.W.isFn K (.ref f43) = true)
    (l43 : K.lookup f43 = some ⟨oc43, od43, .func (PySem.W.fnOf "is_one" "Given.is_one" (defArgs s_Given_is_one) (defBody s_Given_is_one) (defScope s_Given_is_one) .none kV43 dc43 pm43 an43 cd43 ct43), sl43⟩)
    (c43 : PySem.W.codeIn K cd43 "Given.is_one" = true)
    (k43 : PySem.W.keepIn K (.ref f43) = true)
    (a44 : PySem.W.findIn K (.ref C_Given) "covers" = some (some (.ref f44)))
    (i44 : PySem.W.isFn K (.ref f44) = true)
    (l44 : K.lookup f44 = some ⟨oc44, od44, .func (PySem.W.fnOf "covers" "Given.covers" (defArgs s_Given_covers) (defBody s_Given_covers) (defScope s_Given_covers) .none kV44 dc44 pm44 an44 cd44 ct44), sl44⟩)
    (c44 : PySem.W.codeIn K cd44 "Given.covers" = true)
    (k44 : PySem.W.keepIn K (.ref f44) = true)
    (a45 : PySem.W.findIn K (.ref C_Given) "covers_all" = some (some (.ref f45)))
    (i45 : PySem.W.isFn K (.ref f45) = true)
    (l45 : K.lookup f45 = some ⟨oc45, od45, .func (PySem.W.fnOf "covers_all" "Given.covers_all" (defArgs s_Given_covers_all) (defBody s_Given_covers_all) (defScope s_Given_covers_all) .none kV45 dc45 pm45 an45 cd45 ct45), sl45⟩)
    (c45 : PySem.W.codeIn K cd45 "Given.covers_all" = true)
    (k45 : PySem.W.keepIn K (.ref f45) = true)
    (a46 : PySem.W.nsIn K mainGlobals "papers_shown" = some (some (.ref f46)))
    (l46 : K.lookup f46 = some ⟨oc46, od46, .func (PySem.W.fnOf "papers_shown" "papers_shown" (defArgs s_papers_shown) (defBody s_papers_shown) (defScope s_papers_shown) .none kV46 dc46 pm46 an46 cd46 ct46), sl46⟩)
    (c46 : PySem.W.codeIn K cd46 "papers_shown" = true)
    (k46 : PySem.W.keepIn K (.ref f46) = true)
    (a47 : PySem.W.findIn K (.ref C_Given) "__init__" = some (some (.ref f47)))
    (i47 : PySem.W.isFn K (.ref f47) = true)
    (l47 : K.lookup f47 = some ⟨oc47, od47, .func (PySem.W.fnOf "__init__" "Given.__init__" (defArgs s_Given_init) (defBody s_Given_init) (defScope s_Given_init) .none kV47 dc47 pm47 an47 cd47 ct47), sl47⟩)
    (c47 : PySem.W.codeIn K cd47 "Given.__init__" = true)
    (k47 : PySem.W.keepIn K (.ref f47) = true)
    (a48 : PySem.W.nsIn K mainGlobals "alike_shown" = some (some (.ref f48)))
    (l48 : K.lookup f48 = some ⟨oc48, od48, .func (PySem.W.fnOf "alike_shown" "alike_shown" (defArgs s_alike_shown) (defBody s_alike_shown) (defScope s_alike_shown) .none kV48 dc48 pm48 an48 cd48 ct48), sl48⟩)
    (c48 : PySem.W.codeIn K cd48 "alike_shown" = true)
    (k48 : PySem.W.keepIn K (.ref f48) = true)
    (a49 : PySem.W.nsIn K mainGlobals "law" = some (some (.ref f49)))
    (l49 : K.lookup f49 = some ⟨oc49, od49, .func (PySem.W.fnOf "law" "law" (defArgs s_law) (defBody s_law) (defScope s_law) .none kV49 dc49 pm49 an49 cd49 ct49), sl49⟩)
    (c49 : PySem.W.codeIn K cd49 "law" = true)
    (k49 : PySem.W.keepIn K (.ref f49) = true)
    (n_abs : PySem.W.nsIn K mainGlobals "abs" = some none)
    (n_all : PySem.W.nsIn K mainGlobals "all" = some none)
    (n_any : PySem.W.nsIn K mainGlobals "any" = some none)
    (n_bool : PySem.W.nsIn K mainGlobals "bool" = some none)
    (n_enumerate : PySem.W.nsIn K mainGlobals "enumerate" = some none)
    (n_int : PySem.W.nsIn K mainGlobals "int" = some none)
    (n_isinstance : PySem.W.nsIn K mainGlobals "isinstance" = some none)
    (n_len : PySem.W.nsIn K mainGlobals "len" = some none)
    (n_list : PySem.W.nsIn K mainGlobals "list" = some none)
    (n_range : PySem.W.nsIn K mainGlobals "range" = some none)
    (n_tuple : PySem.W.nsIn K mainGlobals "tuple" = some none)
    (n_zip : PySem.W.nsIn K mainGlobals "zip" = some none)
    (m_MOST_TOLD : PySem.W.nsIn K mainGlobals "MOST_TOLD" = some (some (.int (2000 : Int) tk_MOST_TOLD)))
    (m_NOUGHT : PySem.W.nsIn K mainGlobals "NOUGHT" = some (some (.ref ad_NOUGHT)))
    (q_NOUGHT : K.lookup ad_NOUGHT = some ⟨.type "tuple", od_NOUGHT, .seq #[.ref ad_NOUGHT_0, .ref ad_NOUGHT_1] nn_NOUGHT, sl_NOUGHT⟩)
    (q_NOUGHT_1 : K.lookup ad_NOUGHT_1 = some ⟨.type "tuple", od_NOUGHT_1, .seq #[.int (0 : Int) tk_NOUGHT_1_0, .int (1 : Int) tk_NOUGHT_1_1] nn_NOUGHT_1, sl_NOUGHT_1⟩)
    (q_NOUGHT_0 : K.lookup ad_NOUGHT_0 = some ⟨.type "tuple", od_NOUGHT_0, .seq #[.int (0 : Int) tk_NOUGHT_0_0, .int (1 : Int) tk_NOUGHT_0_1] nn_NOUGHT_0, sl_NOUGHT_0⟩)
    (m_ONE : PySem.W.nsIn K mainGlobals "ONE" = some (some (.ref ad_ONE)))
    (q_ONE : K.lookup ad_ONE = some ⟨.type "tuple", od_ONE, .seq #[.int (1 : Int) tk_ONE_0, .int (1 : Int) tk_ONE_1] nn_ONE, sl_ONE⟩)
    (g_Given : PySem.W.nsIn K mainGlobals "Given" = some (some (.ref C_Given)))
    (kp_Given : PySem.W.keepIn K (.ref C_Given) = true)
    (pg_Given : PySem.W.plainGet K C_Given Str.empty = true)
    (hd_Given : PySem.W.hasDictIn K C_Given = true)
    (po_Given : PySem.W.plainOver K C_Given = true)
    (sa_Given : PySem.W.findIn K (.ref C_Given) "__setattr__" = some (some (.builtin "object.__setattr__")))
    (na_Given_flow : PySem.W.findIn K (.ref C_Given) "flow" = some none)
    (na_Given_still : PySem.W.findIn K (.ref C_Given) "still" = some none)
    (na_Given_wanted : PySem.W.findIn K (.ref C_Given) "wanted" = some none)
    (mk_Given : PySem.W.makesIn K C_Given = true)
    (g_NoNumber : PySem.W.nsIn K mainGlobals "NoNumber" = some (some (.ref C_NoNumber)))
    (kp_NoNumber : PySem.W.keepIn K (.ref C_NoNumber) = true)
    (s_NoNumber : PySem.W.subIn K (.ref C_NoNumber) (.type "BaseException") = some true)
    (t_NoNumber : PySem.W.typeIn K (.ref C_NoNumber) = some (.type "type"))
    (x_NoNumber : PySem.W.excIn K C_NoNumber [.type "ValueError", .type "Exception", .type "BaseException", .type "object"] "ValueError.__new__" = true)
    : ∃ fd : FuncData, (∀ (s : Shared) (v : Value), BindsTo s fd ⟨[v], []⟩ [("_law_script", v)]) ∧ ∀ base : Heap, K.In base → base.Ns mainGlobals mg → FnOk l.prog w K mg base (L2.CX l.prog w) 15 fa fd ["_law_script"] (spD K lawC) := by
  have e := hfa.symm.trans (PySem.W.mg_of X G a49)
  cases e
  have F1 := fun_mk (st := s_law_feed) l1 c1 k1
  have b1 := F1.binds (ps := ["_law_cell"]) fun _ _ _ _ _ _ us hl => match us, hl with | [_], _ => rfl
  have F2 := fun_mk (st := s_law_draw) l2 c2 k2
  have b2 := F2.binds (ps := ["_law_feed_here", "_law_many"]) fun _ _ _ _ _ _ us hl => match us, hl with | [_, _], _ => rfl
  have F3 := fun_mk (st := s_law_links) l3 c3 k3
  have b3 := F3.binds (ps := ["_law_feed_here", "_law_links_here", "_law_due"]) fun _ _ _ _ _ _ us hl => match us, hl with | [_, _, _], _ => rfl
  have F4 := fun_mk (st := s_law_cell_at) l4 c4 k4
  have b4 := F4.binds (ps := ["_law_script", "_law_k"]) fun _ _ _ _ _ _ us hl => match us, hl with | [_, _], _ => rfl
  have F5 := fun_mk (st := s_law_point) l5 c5 k5
  have b5 := F5.binds (ps := ["_law_feed_here"]) fun _ _ _ _ _ _ us hl => match us, hl with | [_], _ => rfl
  have F6 := fun_mk (st := s_divisor) l6 c6 k6
  have b6 := F6.binds (ps := ["one", "other"]) fun _ _ _ _ _ _ us hl => match us, hl with | [_, _], _ => rfl
  have F7 := fun_mk (st := s_ratio) l7 c7 k7
  have b7 := F7.binds (ps := ["top", "bottom"]) fun _ _ _ _ _ _ us hl => match us, hl with | [_, _], _ => rfl
  have F8 := fun_mk (st := s_plus) l8 c8 k8
  have b8 := F8.binds (ps := ["one", "other"]) fun _ _ _ _ _ _ us hl => match us, hl with | [_, _], _ => rfl
  have F9 := fun_mk (st := s_together) l9 c9 k9
  have b9 := F9.binds (ps := ["p", "q"]) fun _ _ _ _ _ _ us hl => match us, hl with | [_, _], _ => rfl
  have F10 := fun_mk (st := s_below) l10 c10 k10
  have b10 := F10.binds (ps := ["one", "other"]) fun _ _ _ _ _ _ us hl => match us, hl with | [_, _], _ => rfl
  have F11 := fun_mk (st := s_before) l11 c11 k11
  have b11 := F11.binds (ps := ["p", "q"]) fun _ _ _ _ _ _ us hl => match us, hl with | [_, _], _ => rfl
  have F12 := fun_mk (st := s_stretch) l12 c12 k12
  have b12 := F12.binds (ps := ["p", "q"]) fun _ _ _ _ _ _ us hl => match us, hl with | [_, _], _ => rfl
  have F13 := fun_mk (st := s_law_straight_ones) l13 c13 k13
  have b13 := F13.binds (ps := ["_law_feed_here"]) fun _ _ _ _ _ _ us hl => match us, hl with | [_], _ => rfl
  have F14 := fun_mk (st := s_law_left) l14 c14 k14
  have b14 := F14.binds (ps := ["_law_v"]) fun _ _ _ _ _ _ us hl => match us, hl with | [_], _ => rfl
  have F15 := fun_mk (st := s_minus) l15 c15 k15
  have b15 := F15.binds (ps := ["one", "other"]) fun _ _ _ _ _ _ us hl => match us, hl with | [_, _], _ => rfl
  have F16 := fun_mk (st := s_off) l16 c16 k16
  have b16 := F16.binds (ps := ["p", "q"]) fun _ _ _ _ _ _ us hl => match us, hl with | [_, _], _ => rfl
  have F17 := fun_mk (st := s_law_round_ones) l17 c17 k17
  have b17 := F17.binds (ps := ["_law_feed_here"]) fun _ _ _ _ _ _ us hl => match us, hl with | [_], _ => rfl
  have F18 := fun_mk (st := s_sign_of) l18 c18 k18
  have b18 := F18.binds (ps := ["number"]) fun _ _ _ _ _ _ us hl => match us, hl with | [_], _ => rfl
  have F19 := fun_mk (st := s_times) l19 c19 k19
  have b19 := F19.binds (ps := ["one", "other"]) fun _ _ _ _ _ _ us hl => match us, hl with | [_, _], _ => rfl
  have F20 := fun_mk (st := s_along) l20 c20 k20
  have b20 := F20.binds (ps := ["p", "q"]) fun _ _ _ _ _ _ us hl => match us, hl with | [_, _], _ => rfl
  have F21 := fun_mk (st := s_across) l21 c21 k21
  have b21 := F21.binds (ps := ["p", "q"]) fun _ _ _ _ _ _ us hl => match us, hl with | [_, _], _ => rfl
  have F22 := fun_mk (st := s_quarter_of) l22 c22 k22
  have b22 := F22.binds (ps := ["one", "other"]) fun _ _ _ _ _ _ us hl => match us, hl with | [_, _], _ => rfl
  have F23 := fun_mk (st := s_ahead) l23 c23 k23
  have b23 := F23.binds (ps := ["c", "a", "p", "q"]) fun _ _ _ _ _ _ us hl => match us, hl with | [_, _, _, _], _ => rfl
  have F24 := fun_mk (st := s_side) l24 c24 k24
  have b24 := F24.binds (ps := ["a", "b", "p"]) fun _ _ _ _ _ _ us hl => match us, hl with | [_, _, _], _ => rfl
  have F25 := fun_mk (st := s_lies_on) l25 c25 k25
  have b25 := F25.binds (ps := ["piece", "p"]) fun _ _ _ _ _ _ us hl => match us, hl with | [_, _], _ => rfl
  have F26 := fun_mk (st := s_far) l26 c26 k26
  have b26 := F26.binds (ps := ["p", "q"]) fun _ _ _ _ _ _ us hl => match us, hl with | [_, _], _ => rfl
  have F27 := fun_mk (st := s_on) l27 c27 k27
  have b27 := F27.binds (ps := ["piece", "p"]) fun _ _ _ _ _ _ us hl => match us, hl with | [_, _], _ => rfl
  have F28 := fun_mk (st := s_comes_to) l28 c28 k28
  have b28 := F28.binds (ps := ["one", "here", "goal"]) fun _ _ _ _ _ _ us hl => match us, hl with | [_, _, _], _ => rfl
  have F29 := fun_mk (st := s_bent_chain) l29 c29 k29
  have b29 := F29.binds (ps := ["pieces", "piece"]) fun _ _ _ _ _ _ us hl => match us, hl with | [_, _], _ => rfl
  have F30 := fun_mk (st := s_straight_chain) l30 c30 k30
  have b30 := F30.binds (ps := ["pieces", "piece"]) fun _ _ _ _ _ _ us hl => match us, hl with | [_, _], _ => rfl
  have F31 := fun_mk (st := s_same_circle) l31 c31 k31
  have b31 := F31.binds (ps := ["one", "piece"]) fun _ _ _ _ _ _ us hl => match us, hl with | [_, _], _ => rfl
  have F32 := fun_mk (st := s_chain_shown) l32 c32 k32
  have b32 := F32.binds (ps := ["pieces", "piece"]) fun _ _ _ _ _ _ us hl => match us, hl with | [_, _], _ => rfl
  have F33 := fun_mk (st := s_grown) l33 c33 k33
  have b33 := F33.binds (ps := ["p", "number"]) fun _ _ _ _ _ _ us hl => match us, hl with | [_, _], _ => rfl
  have F34 := fun_mk (st := s_turned) l34 c34 k34
  have b34 := F34.binds (ps := ["p", "quarters"]) fun _ _ _ _ _ _ us hl => match us, hl with | [_, _], _ => rfl
  have F35 := fun_mk (st := s_led) l35 c35 k35
  have b35 := F35.binds (ps := ["frame", "p"]) fun _ _ _ _ _ _ us hl => match us, hl with | [_, _], _ => rfl
  have F36 := fun_mk (st := s_led_piece) l36 c36 k36
  have b36 := F36.binds (ps := ["frame", "piece"]) fun _ _ _ _ _ _ us hl => match us, hl with | [_, _], _ => rfl
  have F37 := fun_mk (st := s_first) l37 c37 k37
  have b37 := F37.binds (ps := []) fun _ _ _ _ _ _ us hl => match us, hl with | [], _ => rfl
  have F38 := fun_mk (st := s_behind) l38 c38 k38
  have b38 := F38.binds (ps := ["one", "other"]) fun _ _ _ _ _ _ us hl => match us, hl with | [_, _], _ => rfl
  have F39 := fun_mk (st := s_power) l39 c39 k39
  have b39 := F39.binds (ps := ["frame", "n"]) fun _ _ _ _ _ _ us hl => match us, hl with | [_, _], _ => rfl
  have F40 := fun_mk (st := s_frame_of) l40 c40 k40
  have b40 := F40.binds (ps := ["wanted"]) fun _ _ _ _ _ _ us hl => match us, hl with | [_], _ => rfl
  have F41 := fun_mk (st := s_Given_piece) l41 c41 k41
  have b41 := F41.binds (ps := ["self", "number", "n"]) fun _ _ _ _ _ _ us hl => match us, hl with | [_, _, _], _ => rfl
  have F42 := fun_mk (st := s_is_number) l42 c42 k42
  have b42 := F42.binds (ps := ["thing"]) fun _ _ _ _ _ _ us hl => match us, hl with | [_], _ => rfl
  have F43 := fun_mk (st := s_Given_is_one) l43 c43 k43
  have b43 := F43.binds (ps := ["self", "thing"]) fun _ _ _ _ _ _ us hl => match us, hl with | [_, _], _ => rfl
  have F44 := fun_mk (st := s_Given_covers) l44 c44 k44
  have b44 := F44.binds (ps := ["self", "paper", "piece"]) fun _ _ _ _ _ _ us hl => match us, hl with | [_, _, _], _ => rfl
  have F45 := fun_mk (st := s_Given_covers_all) l45 c45 k45
  have b45 := F45.binds (ps := ["self", "papers", "piece"]) fun _ _ _ _ _ _ us hl => match us, hl with | [_, _, _], _ => rfl
  have F46 := fun_mk (st := s_papers_shown) l46 c46 k46
  have b46 := F46.binds (ps := ["given", "one", "papers"]) fun _ _ _ _ _ _ us hl => match us, hl with | [_, _, _], _ => rfl
  have F47 := fun_mk (st := s_Given_init) l47 c47 k47
  have b47 := F47.binds (ps := ["self", "wanted", "still", "flow"]) fun _ _ _ _ _ _ us hl => match us, hl with | [_, _, _, _], _ => rfl
  have F48 := fun_mk (st := s_alike_shown) l48 c48 k48
  have b48 := F48.binds (ps := ["even", "papers"]) fun _ _ _ _ _ _ us hl => match us, hl with | [_, _], _ => rfl
  have F49 := fun_mk (st := s_law) l49 c49 k49
  have b49 := F49.binds (ps := ["_law_script"]) fun _ _ _ _ _ _ us hl => match us, hl with | [_], _ => rfl
  let T : Tx K mg := { a_law_feed := _, fd_law_feed := _, F_law_feed := F1, g_law_feed := PySem.W.mg_of X G a1, b_law_feed := b1, a_law_draw := _, fd_law_draw := _, F_law_draw := F2, g_law_draw := PySem.W.mg_of X G a2, b_law_draw := b2, a_law_links := _, fd_law_links := _, F_law_links := F3, g_law_links := PySem.W.mg_of X G a3, b_law_links := b3, a_law_cell_at := _, fd_law_cell_at := _, F_law_cell_at := F4, g_law_cell_at := PySem.W.mg_of X G a4, b_law_cell_at := b4, a_law_point := _, fd_law_point := _, F_law_point := F5, g_law_point := PySem.W.mg_of X G a5, b_law_point := b5, a_divisor := _, fd_divisor := _, F_divisor := F6, g_divisor := PySem.W.mg_of X G a6, b_divisor := b6, a_ratio := _, fd_ratio := _, F_ratio := F7, g_ratio := PySem.W.mg_of X G a7, b_ratio := b7, a_plus := _, fd_plus := _, F_plus := F8, g_plus := PySem.W.mg_of X G a8, b_plus := b8, a_together := _, fd_together := _, F_together := F9, g_together := PySem.W.mg_of X G a9, b_together := b9, a_below := _, fd_below := _, F_below := F10, g_below := PySem.W.mg_of X G a10, b_below := b10, a_before := _, fd_before := _, F_before := F11, g_before := PySem.W.mg_of X G a11, b_before := b11, a_stretch := _, fd_stretch := _, F_stretch := F12, g_stretch := PySem.W.mg_of X G a12, b_stretch := b12, a_law_straight_ones := _, fd_law_straight_ones := _, F_law_straight_ones := F13, g_law_straight_ones := PySem.W.mg_of X G a13, b_law_straight_ones := b13, a_law_left := _, fd_law_left := _, F_law_left := F14, g_law_left := PySem.W.mg_of X G a14, b_law_left := b14, a_minus := _, fd_minus := _, F_minus := F15, g_minus := PySem.W.mg_of X G a15, b_minus := b15, a_off := _, fd_off := _, F_off := F16, g_off := PySem.W.mg_of X G a16, b_off := b16, a_law_round_ones := _, fd_law_round_ones := _, F_law_round_ones := F17, g_law_round_ones := PySem.W.mg_of X G a17, b_law_round_ones := b17, a_sign_of := _, fd_sign_of := _, F_sign_of := F18, g_sign_of := PySem.W.mg_of X G a18, b_sign_of := b18, a_times := _, fd_times := _, F_times := F19, g_times := PySem.W.mg_of X G a19, b_times := b19, a_along := _, fd_along := _, F_along := F20, g_along := PySem.W.mg_of X G a20, b_along := b20, a_across := _, fd_across := _, F_across := F21, g_across := PySem.W.mg_of X G a21, b_across := b21, a_quarter_of := _, fd_quarter_of := _, F_quarter_of := F22, g_quarter_of := PySem.W.mg_of X G a22, b_quarter_of := b22, a_ahead := _, fd_ahead := _, F_ahead := F23, g_ahead := PySem.W.mg_of X G a23, b_ahead := b23, a_side := _, fd_side := _, F_side := F24, g_side := PySem.W.mg_of X G a24, b_side := b24, a_lies_on := _, fd_lies_on := _, F_lies_on := F25, g_lies_on := PySem.W.mg_of X G a25, b_lies_on := b25, a_far := _, fd_far := _, F_far := F26, g_far := PySem.W.mg_of X G a26, b_far := b26, a_on := _, fd_on := _, F_on := F27, g_on := PySem.W.mg_of X G a27, b_on := b27, a_comes_to := _, fd_comes_to := _, F_comes_to := F28, g_comes_to := PySem.W.mg_of X G a28, b_comes_to := b28, a_bent_chain := _, fd_bent_chain := _, F_bent_chain := F29, g_bent_chain := PySem.W.mg_of X G a29, b_bent_chain := b29, a_straight_chain := _, fd_straight_chain := _, F_straight_chain := F30, g_straight_chain := PySem.W.mg_of X G a30, b_straight_chain := b30, a_same_circle := _, fd_same_circle := _, F_same_circle := F31, g_same_circle := PySem.W.mg_of X G a31, b_same_circle := b31, a_chain_shown := _, fd_chain_shown := _, F_chain_shown := F32, g_chain_shown := PySem.W.mg_of X G a32, b_chain_shown := b32, a_grown := _, fd_grown := _, F_grown := F33, g_grown := PySem.W.mg_of X G a33, b_grown := b33, a_turned := _, fd_turned := _, F_turned := F34, g_turned := PySem.W.mg_of X G a34, b_turned := b34, a_led := _, fd_led := _, F_led := F35, g_led := PySem.W.mg_of X G a35, b_led := b35, a_led_piece := _, fd_led_piece := _, F_led_piece := F36, g_led_piece := PySem.W.mg_of X G a36, b_led_piece := b36, a_first := _, fd_first := _, F_first := F37, g_first := PySem.W.mg_of X G a37, b_first := b37, a_behind := _, fd_behind := _, F_behind := F38, g_behind := PySem.W.mg_of X G a38, b_behind := b38, a_power := _, fd_power := _, F_power := F39, g_power := PySem.W.mg_of X G a39, b_power := b39, a_frame_of := _, fd_frame_of := _, F_frame_of := F40, g_frame_of := PySem.W.mg_of X G a40, b_frame_of := b40, a_Given_piece := _, fd_Given_piece := _, F_Given_piece := F41, b_Given_piece := b41, a_is_number := _, fd_is_number := _, F_is_number := F42, g_is_number := PySem.W.mg_of X G a42, b_is_number := b42, a_Given_is_one := _, fd_Given_is_one := _, F_Given_is_one := F43, b_Given_is_one := b43, a_Given_covers := _, fd_Given_covers := _, F_Given_covers := F44, b_Given_covers := b44, a_Given_covers_all := _, fd_Given_covers_all := _, F_Given_covers_all := F45, b_Given_covers_all := b45, a_papers_shown := _, fd_papers_shown := _, F_papers_shown := F46, g_papers_shown := PySem.W.mg_of X G a46, b_papers_shown := b46, a_Given_init := _, fd_Given_init := _, F_Given_init := F47, b_Given_init := b47, a_alike_shown := _, fd_alike_shown := _, F_alike_shown := F48, g_alike_shown := PySem.W.mg_of X G a48, b_alike_shown := b48, a_law := _, fd_law := _, F_law := F49, g_law := PySem.W.mg_of X G a49, b_law := b49, n_abs := PySem.W.mg_none_of X G n_abs, n_all := PySem.W.mg_none_of X G n_all, n_any := PySem.W.mg_none_of X G n_any, n_bool := PySem.W.mg_none_of X G n_bool, n_enumerate := PySem.W.mg_none_of X G n_enumerate, n_int := PySem.W.mg_none_of X G n_int, n_isinstance := PySem.W.mg_none_of X G n_isinstance, n_len := PySem.W.mg_none_of X G n_len, n_list := PySem.W.mg_none_of X G n_list, n_range := PySem.W.mg_none_of X G n_range, n_tuple := PySem.W.mg_none_of X G n_tuple, n_zip := PySem.W.mg_none_of X G n_zip, u_MOST_TOLD := _, v_MOST_TOLD := .int (2000 : Int), m_MOST_TOLD := PySem.W.mg_of X G m_MOST_TOLD, r_MOST_TOLD := (rv_int _ _), d_MOST_TOLD := fun F => .int _, u_NOUGHT := _, v_NOUGHT := .ref ad_NOUGHT, m_NOUGHT := PySem.W.mg_of X G m_NOUGHT, r_NOUGHT := (rv_ref _), d_NOUGHT := fun F => kt_tup q_NOUGHT rfl rfl rfl (kv_cons (rv_ref _) (kv_cons (rv_ref _) kv_nil)) (kt_cons (kt_tup q_NOUGHT_0 rfl rfl rfl (kv_cons (rv_int _ _) (kv_cons (rv_int _ _) kv_nil)) (kt_cons (.int _) (kt_cons (.int _) kt_nil))) (kt_cons (kt_tup q_NOUGHT_1 rfl rfl rfl (kv_cons (rv_int _ _) (kv_cons (rv_int _ _) kv_nil)) (kt_cons (.int _) (kt_cons (.int _) kt_nil))) kt_nil)), u_ONE := _, v_ONE := .ref ad_ONE, m_ONE := PySem.W.mg_of X G m_ONE, r_ONE := (rv_ref _), d_ONE := fun F => kt_tup q_ONE rfl rfl rfl (kv_cons (rv_int _ _) (kv_cons (rv_int _ _) kv_nil)) (kt_cons (.int _) (kt_cons (.int _) kt_nil)), C_Given := C_Given, g_Given := PySem.W.mg_of X G g_Given, kp_Given := kp_Given, cl_Given := ⟨pg_Given, hd_Given, po_Given, sa_Given⟩, na_Given_flow := na_Given_flow, na_Given_still := na_Given_still, na_Given_wanted := na_Given_wanted, me_Given_init := ⟨a47, i47, k47⟩, mk_Given := ⟨mk_Given, a47, i47, kp_Given⟩, me_Given_covers := ⟨a44, i44, k44⟩, me_Given_covers_all := ⟨a45, i45, k45⟩, me_Given_is_one := ⟨a43, i43, k43⟩, me_Given_piece := ⟨a41, i41, k41⟩, C_NoNumber := C_NoNumber, g_NoNumber := PySem.W.mg_of X G g_NoNumber, kp_NoNumber := kp_NoNumber, s_NoNumber := s_NoNumber, t_NoNumber := t_NoNumber, x_NoNumber := x_NoNumber }
  exact ⟨_, fun s v => .of_eq rfl, fun base _ _ => ok_law T⟩
end K89
open PySem PySem.W PyProof.Rows
set_option maxRecDepth 100000 in
set_option maxHeartbeats 0 in
theorem PySem.Challenge.cw_arcmill_k89_papers_nearly_right_holds : PySem.Challenge.rw_arcmill_k89_papers_nearly_right.Holds := by
  w_on; o_law; k_head; (case hw => w_witness2)
  k_fill
  refine Mi.walkD (l := PySem.Challenge.rw_arcmill_k89_papers_nearly_right) (k := 15) (x := "_law_script") rfl rfl ⟨rfl, by decide, by decide⟩ (fun w h Y => PySem.W.kIn_of Y) ?F
  case F =>
    intro w mg fa h KX G hmg
    refine' K89.all_mk KX G hmg ?a1 ?l1 ?c1 ?k1 ?a2 ?l2 ?c2 ?k2 ?a3 ?l3 ?c3 ?k3 ?a4 ?l4 ?c4 ?k4 ?a5 ?l5 ?c5 ?k5 ?a6 ?l6 ?c6 ?k6 ?a7 ?l7 ?c7 ?k7 ?a8 ?l8 ?c8 ?k8 ?a9 ?l9 ?c9 ?k9 ?a10 ?l10 ?c10 ?k10 ?a11 ?l11 ?c11 ?k11 ?a12 ?l12 ?c12 ?k12 ?a13 ?l13 ?c13 ?k13 ?a14 ?l14 ?c14 ?k14 ?a15 ?l15 ?c15 ?k15 ?a16 ?l16 ?c16 ?k16 ?a17 ?l17 ?c17 ?k17 ?a18 ?l18 ?c18 ?k18 ?a19 ?l19 ?c19 ?k19 ?a20 ?l20 ?c20 ?k20 ?a21 ?l21 ?c21 ?k21 ?a22 ?l22 ?c22 ?k22 ?a23 ?l23 ?c23 ?k23 ?a24 ?l24 ?c24 ?k24 ?a25 ?l25 ?c25 ?k25 ?a26 ?l26 ?c26 ?k26 ?a27 ?l27 ?c27 ?k27 ?a28 ?l28 ?c28 ?k28 ?a29 ?l29 ?c29 ?k29 ?a30 ?l30 ?c30 ?k30 ?a31 ?l31 ?c31 ?k31 ?a32 ?l32 ?c32 ?k32 ?a33 ?l33 ?c33 ?k33 ?a34 ?l34 ?c34 ?k34 ?a35 ?l35 ?c35 ?k35 ?a36 ?l36 ?c36 ?k36 ?a37 ?l37 ?c37 ?k37 ?a38 ?l38 ?c38 ?k38 ?a39 ?l39 ?c39 ?k39 ?a40 ?l40 ?c40 ?k40 ?a41 ?i41 ?l41 ?c41 ?k41 ?a42 ?l42 ?c42 ?k42 ?a43 ?i43 ?l43 ?c43 ?k43 ?a44 ?i44 ?l44 ?c44 ?k44 ?a45 ?i45 ?l45 ?c45 ?k45 ?a46 ?l46 ?c46 ?k46 ?a47 ?i47 ?l47 ?c47 ?k47 ?a48 ?l48 ?c48 ?k48 ?a49 ?l49 ?c49 ?k49 ?n_abs ?n_all ?n_any ?n_bool ?n_enumerate ?n_int ?n_isinstance ?n_len ?n_list ?n_range ?n_tuple ?n_zip ?m_MOST_TOLD ?m_NOUGHT ?q_NOUGHT ?q_NOUGHT_1 ?q_NOUGHT_0 ?m_ONE ?q_ONE ?g_Given ?kp_Given ?pg_Given ?hd_Given ?po_Given ?sa_Given ?na_Given_flow ?na_Given_still ?na_Given_wanted ?mk_Given ?g_NoNumber ?kp_NoNumber ?s_NoNumber ?t_NoNumber ?x_NoNumber
    (case g_Given => k_is); (case a1 => k_is); (case l1 => k_is); (case c1 => k_is); (case k1 => k_is); (case a2 => k_is); (case l2 => k_is); (case c2 => k_is); (case k2 => k_is); (case a3 => k_is); (case l3 => k_is); (case c3 => k_is); (case k3 => k_is); (case a4 => k_is); (case l4 => k_is); (case c4 => k_is); (case k4 => k_is); (case a5 => k_is); (case l5 => k_is); (case c5 => k_is); (case k5 => k_is); (case a6 => k_is); (case l6 => k_is); (case c6 => k_is); (case k6 => k_is); (case a7 => k_is); (case l7 => k_is); (case c7 => k_is); (case k7 => k_is); (case a8 => k_is); (case l8 => k_is); (case c8 => k_is); (case k8 => k_is); (case a9 => k_is); (case l9 => k_is); (case c9 => k_is); (case k9 => k_is); (case a10 => k_is); (case l10 => k_is); (case c10 => k_is); (case k10 => k_is); (case a11 => k_is); (case l11 => k_is); (case c11 => k_is); (case k11 => k_is); (case a12 => k_is); (case l12 => k_is); (case c12 => k_is); (case k12 => k_is); (case a13 => k_is); (case l13 => k_is); (case c13 => k_is); (case k13 => k_is); (case a14 => k_is); (case l14 => k_is); (case c14 => k_is); (case k14 => k_is); (case a15 => k_is); (case l15 => k_is); (case c15 => k_is); (case k15 => k_is); (case a16 => k_is); (case l16 => k_is); (case c16 => k_is); (case k16 => k_is); (case a17 => k_is); (case l17 => k_is); (case c17 => k_is); (case k17 => k_is); (case a18 => k_is); (case l18 => k_is); (case c18 => k_is); (case k18 => k_is); (case a19 => k_is); (case l19 => k_is); (case c19 => k_is); (case k19 => k_is); (case a20 => k_is); (case l20 => k_is); (case c20 => k_is); (case k20 => k_is); (case a21 => k_is); (case l21 => k_is); (case c21 => k_is); (case k21 => k_is); (case a22 => k_is); (case l22 => k_is); (case c22 => k_is); (case k22 => k_is); (case a23 => k_is); (case l23 => k_is); (case c23 => k_is); (case k23 => k_is); (case a24 => k_is); (case l24 => k_is); (case c24 => k_is); (case k24 => k_is); (case a25 => k_is); (case l25 => k_is); (case c25 => k_is); (case k25 => k_is); (case a26 => k_is); (case l26 => k_is); (case c26 => k_is); (case k26 => k_is); (case a27 => k_is); (case l27 => k_is); (case c27 => k_is); (case k27 => k_is); (case a28 => k_is); (case l28 => k_is); (case c28 => k_is); (case k28 => k_is); (case a29 => k_is); (case l29 => k_is); (case c29 => k_is); (case k29 => k_is); (case a30 => k_is); (case l30 => k_is); (case c30 => k_is); (case k30 => k_is); (case a31 => k_is); (case l31 => k_is); (case c31 => k_is); (case k31 => k_is); (case a32 => k_is); (case l32 => k_is); (case c32 => k_is); (case k32 => k_is); (case a33 => k_is); (case l33 => k_is); (case c33 => k_is); (case k33 => k_is); (case a34 => k_is); (case l34 => k_is); (case c34 => k_is); (case k34 => k_is); (case a35 => k_is); (case l35 => k_is); (case c35 => k_is); (case k35 => k_is); (case a36 => k_is); (case l36 => k_is); (case c36 => k_is); (case k36 => k_is); (case a37 => k_is); (case l37 => k_is); (case c37 => k_is); (case k37 => k_is); (case a38 => k_is); (case l38 => k_is); (case c38 => k_is); (case k38 => k_is); (case a39 => k_is); (case l39 => k_is); (case c39 => k_is); (case k39 => k_is); (case a40 => k_is); (case l40 => k_is); (case c40 => k_is); (case k40 => k_is); (case a41 => k_is); (case i41 => k_is); (case l41 => k_is); (case c41 => k_is); (case k41 => k_is); (case a42 => k_is); (case l42 => k_is); (case c42 => k_is); (case k42 => k_is); (case a43 => k_is); (case i43 => k_is); (case l43 => k_is); (case c43 => k_is); (case k43 => k_is); (case a44 => k_is); (case i44 => k_is); (case l44 => k_is); (case c44 => k_is); (case k44 => k_is); (case a45 => k_is); (case i45 => k_is); (case l45 => k_is); (case c45 => k_is); (case k45 => k_is); (case a46 => k_is); (case l46 => k_is); (case c46 => k_is); (case k46 => k_is); (case a47 => k_is); (case i47 => k_is); (case l47 => k_is); (case c47 => k_is); (case k47 => k_is); (case a48 => k_is); (case l48 => k_is); (case c48 => k_is); (case k48 => k_is); (case a49 => k_is); (case l49 => k_is); (case c49 => k_is); (case k49 => k_is); (case n_abs => k_is); (case n_all => k_is); (case n_any => k_is); (case n_bool => k_is); (case n_enumerate => k_is); (case n_int => k_is); (case n_isinstance => k_is); (case n_len => k_is); (case n_list => k_is); (case n_range => k_is); (case n_tuple => k_is); (case n_zip => k_is); (case m_MOST_TOLD => k_is); (case m_NOUGHT => k_is); (case q_NOUGHT => k_is); (case q_NOUGHT_1 => k_is); (case q_NOUGHT_0 => k_is); (case m_ONE => k_is); (case q_ONE => k_is); (case kp_Given => k_is); (case pg_Given => k_is); (case hd_Given => k_is); (case po_Given => k_is); (case sa_Given => k_is); (case na_Given_flow => k_is); (case na_Given_still => k_is); (case na_Given_wanted => k_is); (case mk_Given => k_is); (case g_NoNumber => k_is); (case kp_NoNumber => k_is); (case s_NoNumber => k_is); (case t_NoNumber => k_is); (case x_NoNumber => k_exc)

