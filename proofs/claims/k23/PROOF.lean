import PyProof.Rows.All
import Wide.All
import OpenK.AllK
import Wide.FinOn
import HandS.ForMost
import HandS.ForExc
import HandS.Wide
import HandS.IsInst
import HandS.ExcIs
import HandS.TryOnly
import HandS.EndBits
import KE.KeyNested
import HandS.Style
import HandS.Zip
import HandS.TupLe
import HandS.Sort
import HandS.Deep
import HandS.TupAny
import KE.DataCmp
import HandS.CallSlots
import PyProof.P3In
import HandS.More
import HandS.Dict
import HandS.Defaults
import HandS.TupMul
import KE.KDictKeyed
import KE.KDictDisplayH
import KE.SortData
import HandS.TupLen
import HandS.Conv
import HandS.Iter
import KE.DatumOrd
import HandS.SortKw
import KE.KExcIs
import HandS.ExcInit
import HandS.ExcField
import HandS.WordsExc
import HandS.Text
import KE.IntTextLaws
import PyProof.StrOps2
import HandS.RaiseMore
import HandS.HotCalls
import PySem.Challenge.RW_arcmill_k23_sixty_rows
set_option Elab.async false
set_option linter.all false
set_option maxRecDepth 100000
set_option maxHeartbeats 4000000
/-! Mi: judgements about plain data over the hand layer. -/
namespace Mi
open PySem PySem.Spec PyProof.Rows L2

/-- a value as data, or the object at an address, or nothing known -/
inductive S where
  | no
  | d (x : PyData)
  | ob (a : Addr)
  | ty (n : String)
def S.known : S → Bool
  | .no => false
  | _ => true
def SR (K : PySem.W.Frag) (F : Hp) (v : V) : S → Prop
  | .no => True
  | .d x => Dp K F v x
  | .ob a => v = .ref a
  | .ty n => v = .ty n
/-! data as keys of a dict -/
mutual
def keyOf : PyData → NestedKey
  | .bool b => .num (if b then 1 else 0)
  | .int i => .num i
  | .str x => .text x
  | .tuple ds => .tup (keysOf ds)
  | _ => .none
def keysOf : List PyData → List NestedKey
  | [] => []
  | d :: ds => keyOf d :: keysOf ds
end
mutual
def kd : PyData → Bool
  | .int _ => true
  | .str _ => true
  | .tuple ds => kds ds
  | _ => false
def kds : List PyData → Bool
  | [] => true
  | d :: ds => kd d && kds ds
end
def KdT (d : PyData) : Prop := (∃ ds, d = .tuple ds) ∧ kd d = true ∧ (keyOf d).depth ≤ 8
abbrev NV := NestedKey × Addr × V
/-- a dict with nested keys -/
def DKO (w : World) (a : Addr) (xs : List NV) : HO := .ext fun h => xs.length ≤ sizeLine ∧ (a == sysModules) = false ∧ ∃ ys : List (NestedKey × Addr × Value),
  Paired (fun (p : NV) (q : NestedKey × Addr × Value) => p.1 = q.1 ∧ p.2.1 = q.2.1 ∧ RelV p.2.2 q.2.2) xs ys ∧
  ∃ o es ep, h.get? a = some o ∧ o.ExactDict ∧ o.data = .dict es ep ∧ es.toList = ys.map (fun x => (⟨x.1.hash w, .ref x.2.1, x.2.2⟩ : DictEntry)) ∧ (ys.map (·.1)).Nodup
/-- an object that may change -/
inductive MO where
  | lst (xs : List S)
  | ins (C : Addr) (fs : List (Str × S))
  | tup (xs : List S)
  | dct (kvs : List (Key × S))
  | dkt (w : World) (kvs : List (PyData × S))
  | exd (fs : List (Str × S))
abbrev MM := List (Addr × MO)
def MR (K : PySem.W.Frag) (F H : Hp) (a : Addr) : MO → Prop
  | .lst xs => ∃ vs, H a = some (.lst vs) ∧ Paired (SR K F) vs xs
  | .ins C fs => ∃ dx vs, H a = some (.ins C dx vs) ∧ Paired (fun (p : Str × V) (q : Str × S) => p.1 = q.1 ∧ SR K F p.2 q.2) vs fs
  | .tup xs => ∃ vs, H a = some (.tup vs) ∧ Paired (SR K F) vs xs
  | .dct kvs => ∃ vs, H a = some (.dK vs) ∧ Paired (fun (p : Key × V) (q : Key × S) => p.1 = q.1 ∧ SR K F p.2 q.2) vs kvs
  | .dkt w kvs => ∃ xs, H a = some (DKO w a xs) ∧ Paired (fun (p : NV) (q : PyData × S) => p.1 = keyOf q.1 ∧ Dp K F (.ref p.2.1) q.1 ∧ KdT q.1 ∧ SR K F p.2.2 q.2) xs kvs
  | .exd fs => ∃ vs, H a = some (.xd vs) ∧ Paired (fun (p : Str × V) (q : Str × S) => p.1 = q.1 ∧ SR K F p.2 q.2) vs fs
structure HM (K : PySem.W.Frag) (F : Hp) (M : MM) (H : Hp) : Prop where
  fh : Same F H
  mo : ∀ a o, (a, o) ∈ M → F a = none ∧ MR K F H a o
  nd : (M.map (·.1)).Nodup
def OR (K : PySem.W.Frag) (F : Hp) (o : Option V) : S → Prop
  | .no => True
  | s => ∃ v, o = some v ∧ SR K F v s
structure Rl (K : PySem.W.Frag) (γ : List S) (M : MM) (F : Hp) (σ : L2.St) (H : Hp) : Prop where
  hm : HM K F M H
  sl : Paired (OR K F) σ γ

/-! ### what stays -/
theorem same_t {K : PySem.W.Frag} {H H' : Hp} {a : Addr} {xs : List V} (e : Same H H') (h : SqT K H a xs) : SqT K H' a xs := by
  rcases h with (h | ⟨o, h⟩) | h
  · exact .inl (.inl (e _ _ h))
  · exact .inl (.inr ⟨o, e _ _ h⟩)
  · exact .inr h
mutual
theorem dp_mono {K : PySem.W.Frag} {H H' : Hp} (e : Same H H') : ∀ (d : PyData) (v : V), Dp K H v d → Dp K H' v d
  | .none, _, h => by cases h; exact .non
  | .bool b, _, h => by cases h; exact .bl b
  | .int i, _, h => by cases h; exact .int i
  | .str x, _, h => by cases h; exact .str x
  | .list ds, _, h => by
    cases h with
    | lst h1 h2 => exact .lst (e.seq h1) (dps_mono e ds _ h2)
  | .tuple ds, _, h => by
    cases h with
    | tup h1 h2 => exact .tup (same_t e h1) (dps_mono e ds _ h2)
  | .dict _, _, h => by cases h
theorem dps_mono {K : PySem.W.Frag} {H H' : Hp} (e : Same H H') : ∀ (ds : List PyData) (vs : List V), DpAll K H vs ds → DpAll K H' vs ds
  | [], _, h => by cases h; exact .nil
  | d :: ds, _, h => by
    cases h with
    | cons h1 h2 => exact .cons (dp_mono e d _ h1) (dps_mono e ds _ h2)
end
section
variable {K : PySem.W.Frag} {F F' H H' : Hp} {γ : List S} {M M' : MM} {σ : L2.St} {v : V} {s : S}
theorem SR.mono (e : Same F F') (h : SR K F v s) : SR K F' v s := by
  cases s with
  | no => trivial
  | d x => exact dp_mono e x v h
  | ob a => exact h
  | ty n => exact h
theorem OR.mono {o : Option V} (e : Same F F') (h : OR K F o s) : OR K F' o s := by
  cases s with
  | no => trivial
  | d x => obtain ⟨v, e1, h⟩ := h; exact ⟨v, e1, SR.mono e h⟩
  | ob a => obtain ⟨v, e1, h⟩ := h; exact ⟨v, e1, SR.mono e h⟩
  | ty a => obtain ⟨v, e1, h⟩ := h; exact ⟨v, e1, SR.mono e h⟩
theorem sl_mono (e : Same F F') : ∀ {σ : L2.St} {γ : List S}, Paired (OR K F) σ γ → Paired (OR K F') σ γ
  | _, _, .nil => .nil
  | _, _, .cons h t => .cons (h.mono e) (sl_mono e t)
theorem srs_mono (e : Same F F') : ∀ {vs : List V} {ss : List S}, Paired (SR K F) vs ss → Paired (SR K F') vs ss
  | _, _, .nil => .nil
  | _, _, .cons h t => .cons (h.mono e) (srs_mono e t)
theorem Rl.ext (r : Rl K γ M F σ H) (e : Same F F') (h : HM K F' M' H') : Rl K γ M' F' σ H' := ⟨h, sl_mono e r.sl⟩
theorem MR.mono (e : Same F F') {a : Addr} {o : MO} (k : H' a = H a) (h : MR K F H a o) : MR K F' H' a o := by
  cases o with
  | lst xs =>
    obtain ⟨vs, h1, h2⟩ := h
    exact ⟨vs, k.trans h1, srs_mono e h2⟩
  | ins C fs =>
    obtain ⟨dx, vs, h1, h2⟩ := h
    refine ⟨dx, vs, k.trans h1, ?_⟩
    exact L2.Paired.mapP h2 fun p q z => ⟨z.1, z.2.mono e⟩
  | tup xs =>
    obtain ⟨vs, h1, h2⟩ := h
    exact ⟨vs, k.trans h1, srs_mono e h2⟩
  | dct kvs =>
    obtain ⟨vs, h1, h2⟩ := h
    exact ⟨vs, k.trans h1, L2.Paired.mapP h2 fun p q z => ⟨z.1, z.2.mono e⟩⟩
  | dkt w kvs =>
    obtain ⟨vs, h1, h2⟩ := h
    exact ⟨vs, k.trans h1, L2.Paired.mapP h2 fun p q z => ⟨z.1, dp_mono e _ _ z.2.1, z.2.2.1, z.2.2.2.mono e⟩⟩
  | exd fs =>
    obtain ⟨vs, h1, h2⟩ := h
    exact ⟨vs, k.trans h1, L2.Paired.mapP h2 fun p q z => ⟨z.1, z.2.mono e⟩⟩
theorem MR.there {a : Addr} {o : MO} (h : MR K F H a o) : ∃ u, H a = some u := by
  cases o with
  | lst xs => obtain ⟨vs, h1, _⟩ := h; exact ⟨_, h1⟩
  | ins C fs => obtain ⟨dx, vs, h1, _⟩ := h; exact ⟨_, h1⟩
  | tup xs => obtain ⟨vs, h1, _⟩ := h; exact ⟨_, h1⟩
  | dct xs => obtain ⟨vs, h1, _⟩ := h; exact ⟨_, h1⟩
  | dkt w xs => obtain ⟨vs, h1, _⟩ := h; exact ⟨_, h1⟩
  | exd fs => obtain ⟨vs, h1, _⟩ := h; exact ⟨_, h1⟩
/-- a new unchanging object -/
theorem HM.newF (h : HM K F M H) {p : Addr} (hp : H p = none) (o : HO) : Same F (upd F p o) ∧ HM K (upd F p o) M (upd H p o) := by
  have hF : F p = none := h.fh.free hp
  have e : Same F (upd F p o) := fun b u q => by rw [upd_ne (ne_of_none q hF)]; exact q
  refine ⟨e, fun b u q => ?_, fun a o' m => ?_, h.nd⟩
  · by_cases hb : b = p
    · subst hb; rw [upd_same] at q ⊢; exact q
    · rw [upd_ne hb] at q ⊢; exact h.fh b u q
  · obtain ⟨h1, h2⟩ := h.mo a o' m
    obtain ⟨u, hu⟩ := h2.there
    have na : a ≠ p := ne_of_none hu hp
    exact ⟨by rw [upd_ne na]; exact h1, h2.mono e (upd_ne na)⟩
/-- a new changing object -/
theorem HM.newM (h : HM K F M H) {p : Addr} (hp : H p = none) {o : HO} {m : MO} (hm : MR K F (upd H p o) p m) : HM K F (M ++ [(p, m)]) (upd H p o) := by
  have hF : F p = none := h.fh.free hp
  refine ⟨fun b u q => ?_, fun a o' z => ?_, ?_⟩
  · rw [upd_ne (ne_of_none q hF)]; exact h.fh b u q
  · rcases List.mem_append.mp z with z | z
    · obtain ⟨h1, h2⟩ := h.mo a o' z
      obtain ⟨u, hu⟩ := h2.there
      exact ⟨h1, h2.mono (Same.refl F) (upd_ne (ne_of_none hu hp))⟩
    · have z' := List.mem_singleton.mp z
      cases z'
      exact ⟨hF, hm⟩
  · rw [List.map_append]
    refine List.nodup_append.mpr ⟨h.nd, List.pairwise_singleton .., fun a ha b hb => ?_⟩
    have hb' : b = p := List.mem_singleton.mp hb
    subst hb'
    obtain ⟨⟨a', o'⟩, h1, h2⟩ := List.mem_map.mp ha
    obtain ⟨_, h3⟩ := h.mo a' o' h1
    obtain ⟨u, hu⟩ := h3.there
    have na : a' ≠ b := ne_of_none hu hp
    exact fun z => na (h2.trans z)
/-- a changing object changes -/
theorem HM.setM (h : HM K F M H) {k : Nat} {p : Addr} {m0 m : MO} (hk : M[k]? = some (p, m0)) {o : HO} (hm : MR K F (upd H p o) p m) : HM K F (M.set k (p, m)) (upd H p o) := by
  have hp : (p, m0) ∈ M := List.mem_of_getElem? hk
  obtain ⟨hF, _⟩ := h.mo p m0 hp
  refine ⟨fun b u q => ?_, fun a o' z => ?_, ?_⟩
  · rw [upd_ne (ne_of_none q hF)]; exact h.fh b u q
  · obtain ⟨j, hj⟩ := List.getElem?_of_mem z
    rw [List.getElem?_set] at hj
    by_cases hkj : k = j
    · subst hkj
      rw [if_pos rfl] at hj
      have hl : k < M.length := (List.getElem?_eq_some_iff.mp hk).1
      rw [if_pos hl] at hj
      cases hj
      exact ⟨hF, hm⟩
    · rw [if_neg hkj] at hj
      obtain ⟨h1, h2⟩ := h.mo a o' (List.mem_of_getElem? hj)
      have na : a ≠ p := fun e => by
        subst e
        have e1 : (M.map (·.1))[k]? = some a := by rw [List.getElem?_map, hk] <;> rfl
        have e2 : (M.map (·.1))[j]? = some a := by rw [List.getElem?_map, hj] <;> rfl
        obtain ⟨l1, q1⟩ := List.getElem?_eq_some_iff.mp e1
        obtain ⟨l2, q2⟩ := List.getElem?_eq_some_iff.mp e2
        exact hkj ((List.getElem_inj h.nd).mp (q1.trans q2.symm))
      exact ⟨h1, h2.mono (Same.refl F) (upd_ne na)⟩
  · have e : (M.set k (p, m)).map (·.1) = M.map (·.1) := by
      rw [List.map_set]
      have e1 : (M.map (·.1))[k]? = some p := by rw [List.getElem?_map, hk] <;> rfl
      exact List.ext_getElem? fun j => by
        rw [List.getElem?_set]
        by_cases hkj : k = j
        · subst hkj
          rw [if_pos rfl]
          have hl : k < (M.map (·.1)).length := (List.getElem?_eq_some_iff.mp e1).1
          rw [if_pos hl, e1]
        · rw [if_neg hkj]
    rw [e]; exact h.nd
/-- the last changing object is left as it is from here on -/
theorem HM.frz {p : Addr} {xs : List PyData} (h : HM K F (M ++ [(p, .lst (xs.map S.d))]) H) : ∃ vs, H p = some (.lst vs) ∧ DpAll K F vs xs ∧ Same F (upd F p (.lst vs)) ∧ HM K (upd F p (.lst vs)) M H := by
  obtain ⟨hF, vs, h1, h2⟩ := h.mo p _ (List.mem_append_right _ List.mem_cons_self)
  have e : Same F (upd F p (.lst vs)) := fun b u q => by rw [upd_ne (ne_of_none q hF)]; exact q
  have hall : ∀ {vs : List V} {xs : List PyData}, Paired (SR K F) vs (xs.map S.d) → DpAll K F vs xs := by
    intro vs xs
    induction xs generalizing vs with
    | nil => intro q; cases q; exact .nil
    | cons x xs ih => intro q; cases q with | cons a b => exact .cons a (ih b)
  refine ⟨vs, h1, hall h2, e, fun b u q => ?_, fun a o' z => ?_, ?_⟩
  · by_cases hb : b = p
    · subst hb; rw [upd_same] at q; rw [h1]; exact q
    · rw [upd_ne hb] at q; exact h.fh b u q
  · obtain ⟨g1, g2⟩ := h.mo a o' (List.mem_append_left _ z)
    have nd := h.nd
    rw [List.map_append] at nd
    have na : a ≠ p := (List.nodup_append.mp nd).2.2 a (List.mem_map.mpr ⟨_, z, rfl⟩) p List.mem_cons_self
    exact ⟨by rw [upd_ne na]; exact g1, g2.mono e rfl⟩
  · have nd := h.nd
    rw [List.map_append] at nd
    exact (List.nodup_append.mp nd).1
end

/-! ### judgements -/
/-- where one stands: the frame, what is wished of exceptions, by class -/
structure Ct where
  X : Cx
  Er : WX
  Rx : Value → List S → MM → Prop
/-- how an error is told: its class, or, told by (class, its fields' place) as a whole number, the class and the place -/
def xcl : Value → Value × Option Addr
  | .int c d => (.ref c.toNat, some d)
  | v => (v, none)
def ExOk (Y : Ct) (F : Hp) : Prop := ∀ cls γ M F' σ H, Same F F' → Rl Y.X.K γ M F' σ H → Y.Rx cls γ M → Y.Er (xcl cls).1 (xcl cls).2 σ H
theorem ExOk.mono {Y : Ct} {F F' : Hp} (e : Same F F') (h : ExOk Y F) : ExOk Y F' := fun cls γ M F2 σ H e2 => h cls γ M F2 σ H (e.trans e2)
def tE (Y : Ct) (γ : List S) (M : MM) (s : S) (M' : MM) : TE := fun σ H Q => ∃ F, Rl Y.X.K γ M F σ H ∧ (∀ F' v H', Same F F' → Rl Y.X.K γ M' F' σ H' → SR Y.X.K F' v s → Q v H') ∧ ExOk Y F
def tEN (Y : Ct) (γ : List S) (M : MM) (o : MO) (M' : MM) : TE := fun σ H Q => ∃ F, Rl Y.X.K γ M F σ H ∧ (∀ F' p H', Same F F' → Rl Y.X.K γ (M' ++ [(p, o)]) F' σ H' → Q (.ref p) H') ∧ ExOk Y F
def tET (Y : Ct) (γ : List S) (M : MM) (b : Bool) (M' : MM) : TT := fun σ H Q => ∃ F, Rl Y.X.K γ M F σ H ∧ (∀ F' H', Same F F' → Rl Y.X.K γ M' F' σ H' → Q b H') ∧ ExOk Y F
def tEA (Y : Ct) (γ : List S) (M : MM) (ss : List S) (M' : MM) : TA := fun σ H Q => ∃ F, Rl Y.X.K γ M F σ H ∧ (∀ F' vs H', Same F F' → Rl Y.X.K γ M' F' σ H' → Paired (SR Y.X.K F') vs ss → Q vs H') ∧ ExOk Y F
structure EV (Y : Ct) (e : Expr) (γ : List S) (M : MM) (s : S) (M' : MM) : Prop where
  pe : PE Y.X e (tE Y γ M s M')
/-- e makes a new object -/
structure EN (Y : Ct) (e : Expr) (γ : List S) (M : MM) (o : MO) (M' : MM) : Prop where
  pe : PE Y.X e (tEN Y γ M o M')
structure ET (Y : Ct) (e : Expr) (γ : List S) (M : MM) (b : Bool) (M' : MM) : Prop where
  pt : PT Y.X e (tET Y γ M b M')
structure EA (Y : Ct) (es : List Expr) (γ : List S) (M : MM) (ss : List S) (M' : MM) : Prop where
  pa : PA Y.X es (tEA Y γ M ss M')
theorem PE.imp {X : Cx} {e : Expr} {t t' : TE} (h : PE X e t) (i : ∀ σ H Q, t' σ H Q → t σ H Q) : PE X e t' := ⟨fun pins s σ H Q I q => h.run pins s σ H Q I (i _ _ _ q)⟩
theorem PT.imp {X : Cx} {e : Expr} {t t' : TT} (h : PT X e t) (i : ∀ σ H Q, t' σ H Q → t σ H Q) : PT X e t' := ⟨fun pins s σ H Q I q => h.run pins s σ H Q I (i _ _ _ q)⟩
theorem PA.imp {X : Cx} {e : List Expr} {t t' : TA} (h : PA X e t) (i : ∀ σ H Q, t' σ H Q → t σ H Q) : PA X e t' := ⟨fun pos pins s σ H Q I q => h.run pos pins s σ H Q I (i _ _ _ q)⟩
theorem PSs.imp {X : Cx} {e : List Stmt} {t t' : TS} (h : PSs X e t) (i : ∀ D σ H, t' D σ H → t D σ H) : PSs X e t' := ⟨fun pins s σ H D I q => h.run pins s σ H D I (i _ _ _ q)⟩
theorem PS.imp {X : Cx} {e : Stmt} {t t' : TS} (h : PS X e t) (i : ∀ D σ H, t' D σ H → t D σ H) : PS X e t' := ⟨fun pins s σ H D I q => h.run pins s σ H D I (i _ _ _ q)⟩

theorem pair_get {α β : Type} {R : α → β → Prop} : ∀ {xs : List α} {ys : List β} {i : Nat} {y : β}, Paired R xs ys → ys[i]? = some y → ∃ x, xs[i]? = some x ∧ R x y
  | _, _, _, _, .nil, e => by simp at e
  | _, _, 0, _, .cons r _, e => by simp at e; subst e; exact ⟨_, rfl, r⟩
  | _, _, i + 1, y, .cons _ t, e => by
    obtain ⟨x, h1, h2⟩ := pair_get (i := i) (y := y) t (by simpa using e)
    exact ⟨x, by simpa using h1, h2⟩
theorem pair_set {α β : Type} {R : α → β → Prop} {x : α} {y : β} (r : R x y) : ∀ {xs : List α} {ys : List β} (i : Nat), Paired R xs ys → Paired R (xs.set i x) (ys.set i y)
  | _, _, _, .nil => .nil
  | _, _, 0, .cons _ t => .cons r t
  | _, _, i + 1, .cons q t => .cons q (pair_set r i t)
theorem pair_len {α β : Type} {R : α → β → Prop} : ∀ {xs : List α} {ys : List β}, Paired R xs ys → xs.length = ys.length
  | _, _, .nil => rfl
  | _, _, .cons _ t => congrArg (· + 1) (pair_len t)
theorem pair_app {α β : Type} {R : α → β → Prop} : ∀ {xs xs' : List α} {ys ys' : List β}, Paired R xs ys → Paired R xs' ys' → Paired R (xs ++ xs') (ys ++ ys')
  | _, _, _, _, .nil, h => h
  | _, _, _, _, .cons q t, h => .cons q (pair_app t h)

section
variable {Y : Ct} {γ : List S} {M M1 M2 M3 : MM} {s s1 s2 s3 : S} {e a b c : Expr} {pos : Pos} {x : Str} {i j : Int} {b1 b2 : Bool}
theorem OR.val {K : PySem.W.Frag} {F : Hp} {o : Option V} (h : OR K F o s) (k : s.known = true) : ∃ v, o = some v ∧ SR K F v s := by
  cases s with
  | no => cases k
  | d x => exact h
  | ob a => exact h
  | ty a => exact h

/-! ### names, constants -/
theorem e_var (i : Nat) (hs : γ[i]? = some s) (hN : Y.X.N[i]? = some x := by rfl) (hv : Vis Y.X.env.scope x := by first | exact Or.inl rfl | exact Or.inr (Or.inl rfl) | exact Or.inr (Or.inr rfl)) (hk : s.known = true := by rfl)
    (hd : (x == ("__debug__" : Str)) = false := by decide) (hcd : (x == ("__classdict__" : Str)) = false := by decide) : EV Y (.Name x pos) γ M s M :=
  ⟨PE.imp (pe_var hN hv hd hcd) fun σ H Q ⟨F, r, q, _⟩ => by
    obtain ⟨o, h1, h2⟩ := pair_get r.sl hs
    obtain ⟨v, rfl, h3⟩ := h2.val hk
    exact ⟨v, h1, q F v H (Same.refl F) r h3⟩⟩
theorem e_c {v : V} {d : PyData} (h : PE Y.X e (tC v)) (hv : ∀ F, Dp Y.X.K F v d) : EV Y e γ M (.d d) M := ⟨PE.imp h fun σ H Q ⟨F, r, q, _⟩ => q F v H (Same.refl F) r (hv F)⟩
theorem e_int {n : Int} {k : Nat} : EV Y (.Constant (.int n) k pos) γ M (.d (.int n)) M := e_c pe_int fun _ => .int n
theorem e_bl {n : Bool} {k : Nat} : EV Y (.Constant (.bool n) k pos) γ M (.d (.bool n)) M := e_c pe_bl fun _ => .bl n
theorem e_non {k : Nat} : EV Y (.Constant .none k pos) γ M (.d .none) M := e_c pe_non fun _ => .non
theorem e_str {n : Str} {k : Nat} : EV Y (.Constant (.str n) k pos) γ M (.d (.str n)) M := e_c pe_str fun _ => .str n
/-- a module's name -/
theorem e_globR {u : Value} {C : Addr} (hg : Gl Y.X x) (hm : Y.X.mg x = some u) (r : u = .ref C) (hd : (x == ("__debug__" : Str)) = false := by decide) : EV Y (.Name x pos) γ M (.ob C) M :=
  ⟨PE.imp (pe_glob (v := .ref C) hg hm r hd) fun σ H Q ⟨F, r, q, _⟩ => q F _ H (Same.refl F) r rfl⟩
theorem e_is {s' : S} (h : EV Y e γ M s M1) (q : s = s') : EV Y e γ M s' M1 := q ▸ h
theorem EV.at {M' : MM} (h : EV Y e γ M s M1) (q : M1 = M') : EV Y e γ M s M' := q ▸ h

/-! ### operators -/
structure RV (K : PySem.W.Frag) (r : R2) (s1 s2 : S) (M : MM) (z : S) (M' : MM) : Prop where
  run : ∀ F v w H (Q : VK), HM K F M H → SR K F v s1 → SR K F w s2 → (∀ F' u H', Same F F' → HM K F' M' H' → SR K F' u z → Q u H') → r v w H Q
theorem e_bin {r : R2} {f : Value → Value → Sem Value} {e' : Expr} (he : PE Y.X a (tE Y γ M s1 M1) → PE Y.X b (tE Y γ M1 s2 M2) → PE Y.X e' (tOp r (tE Y γ M s1 M1) (tE Y γ M1 s2 M2)))
    (ha : EV Y a γ M s1 M1) (hb : EV Y b γ M1 s2 M2) (hr : RV Y.X.K r s1 s2 M2 s3 M3) : EV Y e' γ M s3 M3 := ⟨PE.imp (he ha.pe hb.pe) fun σ H Q ⟨F, rl, q, ex⟩ =>
  ⟨F, rl, fun F1 v H1 e1 r1 v1 => ⟨F1, r1, fun F2 w H2 e2 r2 v2 => hr.run F2 v w H2 Q r2.hm (v1.mono e2) v2 fun F3 u H3 e3 h3 v3 => q F3 u H3 ((e1.trans e2).trans e3) (r2.ext e3 h3) v3, ex.mono e1⟩, ex⟩⟩
theorem e_op {op : Operator} {r : R2} (ho : OpR Y.X (binaryOp op) r) (ha : EV Y a γ M s1 M1) (hb : EV Y b γ M1 s2 M2) (hr : RV Y.X.K r s1 s2 M2 s3 M3) : EV Y (.BinOp a op b pos) γ M s3 M3 :=
  e_bin (f := binaryOp op) (fun h1 h2 => pe_op ho h1 h2) ha hb hr
theorem rv_II {K : PySem.W.Frag} {C : Int → Int → Prop} {f : Int → Int → Int} (h : C i j) : RV K (rI C fun i j => .int (f i j)) (.d (.int i)) (.d (.int j)) M (.d (.int (f i j))) M :=
  ⟨fun F v w H Q hm h1 h2 q => by cases h1; cases h2; exact ⟨i, j, rfl, rfl, h, q F _ H (Same.refl F) hm (.int _)⟩⟩
theorem rv_I0 {K : PySem.W.Frag} {f : Int → Int → Int} : RV K (rI0 fun i j => .int (f i j)) (.d (.int i)) (.d (.int j)) M (.d (.int (f i j))) M :=
  ⟨fun F v w H Q hm h1 h2 q => by cases h1; cases h2; exact ⟨i, j, rfl, rfl, q F _ H (Same.refl F) hm (.int _)⟩⟩
theorem rv_B0 {K : PySem.W.Frag} {f : Int → Int → Bool} : RV K (rI0 fun i j => .bl (f i j)) (.d (.int i)) (.d (.int j)) M (.d (.bool (f i j))) M :=
  ⟨fun F v w H Q hm h1 h2 q => by cases h1; cases h2; exact ⟨i, j, rfl, rfl, q F _ H (Same.refl F) hm (.bl _)⟩⟩
/-- // by any number but 0, below 2 ^ 9000 in size -/
def CDivG (_ j : Int) : Prop := j ≠ 0 ∧ j.natAbs.log2 < 9000
theorem op_fdivG {X : Cx} : OpR X (binaryOp .FloorDiv) (rI CDivG fun i j => .int (i.fdiv j)) := opI fun i j _ _ _ _ _ hc q => floordiv_int hc.1 q (.inl (PyProof.noPylong_of_log2 hc.2))
section
variable (ha : EV Y a γ M (.d (.int i)) M1) (hb : EV Y b γ M1 (.d (.int j)) M2)
include ha hb
theorem e_add : EV Y (.BinOp a .Add b pos) γ M (.d (.int (i + j))) M2 := e_op op_add ha hb (rv_I0 (f := fun i j => i + j))
theorem e_sub : EV Y (.BinOp a .Sub b pos) γ M (.d (.int (i - j))) M2 := e_op op_sub ha hb (rv_I0 (f := fun i j => i - j))
theorem e_mul (h : CMulW i j) : EV Y (.BinOp a .Mult b pos) γ M (.d (.int (i * j))) M2 := e_op op_mulW ha hb (rv_II (f := fun i j => i * j) h)
theorem e_fdiv (h : CDivG i j) : EV Y (.BinOp a .FloorDiv b pos) γ M (.d (.int (i.fdiv j))) M2 := e_op op_fdivG ha hb (rv_II (f := fun i j => i.fdiv j) h)
theorem e_div (h : CDivW i j) : EV Y (.BinOp a .FloorDiv b pos) γ M (.d (.int (i / j))) M2 := e_op op_fdivW ha hb (rv_II (f := fun i j => i / j) h)
theorem e_mod (h : 0 < j) : EV Y (.BinOp a .Mod b pos) γ M (.d (.int (i % j))) M2 := e_op op_mod ha hb (rv_II (C := fun _ j => 0 < j) (f := fun i j => i % j) h)
theorem e_pow (h : CPow i j) {z : Int} (hz : i ^ j.toNat = z) : EV Y (.BinOp a .Pow b pos) γ M (.d (.int z)) M2 := hz ▸ e_op op_pow ha hb (rv_II (C := CPow) (f := fun i j => i ^ j.toNat) h)
theorem e_lt : EV Y (.Compare a [.Lt] [b] pos) γ M (.d (.bool (decide (i < j)))) M2 := e_bin (f := fun _ _ => pure .none) (fun h1 h2 => pe_cmpR op_lt h1 h2 (nomark _)) ha hb (rv_B0 (f := fun i j => decide (i < j)))
theorem e_le : EV Y (.Compare a [.LtE] [b] pos) γ M (.d (.bool (decide (i ≤ j)))) M2 := e_bin (f := fun _ _ => pure .none) (fun h1 h2 => pe_cmpR op_le h1 h2 (nomark _)) ha hb (rv_B0 (f := fun i j => decide (i ≤ j)))
theorem e_gt : EV Y (.Compare a [.Gt] [b] pos) γ M (.d (.bool (decide (j < i)))) M2 := e_bin (f := fun _ _ => pure .none) (fun h1 h2 => pe_cmpR op_gt h1 h2 (nomark _)) ha hb (rv_B0 (f := fun i j => decide (j < i)))
theorem e_ge : EV Y (.Compare a [.GtE] [b] pos) γ M (.d (.bool (decide (j ≤ i)))) M2 := e_bin (f := fun _ _ => pure .none) (fun h1 h2 => pe_cmpR op_ge h1 h2 (nomark _)) ha hb (rv_B0 (f := fun i j => decide (j ≤ i)))
end

/-! ### a value looked at as data -/
inductive Vw (M : MM) : S → PyData → Prop where
  | d {x : PyData} : Vw M (.d x) x
  | l {k : Nat} {p : Addr} {xs : List PyData} (h : M[k]? = some (p, .lst (xs.map S.d))) : Vw M (.ob p) (.list xs)
  | t2 {k j : Nat} {p q : Addr} {x : PyData} {xs : List PyData} (h : M[k]? = some (p, .tup [.d x, .ob q])) (h2 : M[j]? = some (q, .lst (xs.map S.d))) : Vw M (.ob p) (.tuple [x, .list xs])
  | t3 {k j l : Nat} {p q r : Addr} {xs ys : List PyData} (h : M[k]? = some (p, .tup [.ob q, .ob r])) (h2 : M[j]? = some (q, .lst (xs.map S.d))) (h3 : M[l]? = some (r, .lst (ys.map S.d))) : Vw M (.ob p) (.tuple [.list xs, .list ys])
theorem all_d {K : PySem.W.Frag} {F : Hp} : ∀ {vs : List V} {xs : List PyData}, Paired (SR K F) vs (xs.map S.d) → DpAll K F vs xs
  | _, [], q => by cases q; exact .nil
  | _, _ :: _, q => by cases q with | cons a b => exact .cons a (all_d b)
theorem d_all {K : PySem.W.Frag} {F : Hp} : ∀ {vs : List V} {xs : List PyData}, DpAll K F vs xs → Paired (SR K F) vs (xs.map S.d)
  | _, [], q => by cases q; exact .nil
  | _, _ :: _, q => by cases q with | cons a b => exact .cons a (d_all b)
theorem Vw.ok {K : PySem.W.Frag} {F H : Hp} {v : V} {d : PyData} (h : Vw M s d) (hm : HM K F M H) (r : SR K F v s) : Dp K H v d := by
  cases h with
  | d => exact dp_mono hm.fh _ _ r
  | l hk =>
    obtain ⟨_, vs, h1, h2⟩ := hm.mo _ _ (List.mem_of_getElem? hk)
    cases r
    exact .lst (.of h1) (dps_mono hm.fh _ _ (all_d h2))
  | t2 hk hj =>
    obtain ⟨_, vs, h1, h2⟩ := hm.mo _ _ (List.mem_of_getElem? hk)
    obtain ⟨_, ws, g1, g2⟩ := hm.mo _ _ (List.mem_of_getElem? hj)
    cases r
    cases h2 with | cons a b =>
    cases b with | cons b c =>
    cases c
    cases b
    exact .tup (.inl (.inl h1)) (.cons (dp_mono hm.fh _ _ a) (.cons (.lst (.of g1) (dps_mono hm.fh _ _ (all_d g2))) .nil))
  | t3 hk hj hl =>
    obtain ⟨_, vs, h1, h2⟩ := hm.mo _ _ (List.mem_of_getElem? hk)
    obtain ⟨_, ws, g1, g2⟩ := hm.mo _ _ (List.mem_of_getElem? hj)
    obtain ⟨_, us, f1, f2⟩ := hm.mo _ _ (List.mem_of_getElem? hl)
    cases r
    cases h2 with | cons a b =>
    cases b with | cons b c =>
    cases c
    cases a
    cases b
    exact .tup (.inl (.inl h1)) (.cons (.lst (.of g1) (dps_mono hm.fh _ _ (all_d g2))) (.cons (.lst (.of f1) (dps_mono hm.fh _ _ (all_d f2))) .nil))

/-! ### == of data -/
theorem rv_eq {K : PySem.W.Frag} {d1 d2 : PyData} {z : Bool} (v1 : Vw M s1 d1) (v2 : Vw M s2 d2) (h1 : SeqAt.shaped d1 = true) (h2 : SeqAt.shaped d2 = true) (hz : PyData.eqv d1 d2 = z) : RV K (rEqD K) s1 s2 M (.d (.bool z)) M :=
  ⟨fun F v w H Q hm r1 r2 q => ⟨d1, d2, v1.ok hm r1, v2.ok hm r2, h1, h2, q F _ H (Same.refl F) hm (hz ▸ .bl _)⟩⟩
theorem rv_ne {K : PySem.W.Frag} {d1 d2 : PyData} {z : Bool} (v1 : Vw M s1 d1) (v2 : Vw M s2 d2) (h1 : SeqAt.shaped d1 = true) (h2 : SeqAt.shaped d2 = true) (hz : PyData.eqv d1 d2 = z) : RV K (rNeD K) s1 s2 M (.d (.bool (!z))) M :=
  ⟨fun F v w H Q hm r1 r2 q => ⟨d1, d2, v1.ok hm r1, v2.ok hm r2, h1, h2, q F _ H (Same.refl F) hm (hz ▸ .bl _)⟩⟩
theorem e_eq {k : Nat} (hr : Room k Y.X.A) {d1 d2 : PyData} {z : Bool} (ha : EV Y a γ M s1 M1) (hb : EV Y b γ M1 s2 M2) (v1 : Vw M2 s1 d1) (v2 : Vw M2 s2 d2) (h1 : SeqAt.shaped d1 = true) (h2 : SeqAt.shaped d2 = true) (hz : PyData.eqv d1 d2 = z) :
    EV Y (.Compare a [.Eq] [b] pos) γ M (.d (.bool z)) M2 := e_bin (f := fun _ _ => pure .none) (fun h1 h2 => pe_cmpR (op_eqD hr.units) h1 h2 (nomark _)) ha hb (rv_eq v1 v2 h1 h2 hz)
theorem e_ne {k : Nat} (hr : Room k Y.X.A) {d1 d2 : PyData} {z : Bool} (ha : EV Y a γ M s1 M1) (hb : EV Y b γ M1 s2 M2) (v1 : Vw M2 s1 d1) (v2 : Vw M2 s2 d2) (h1 : SeqAt.shaped d1 = true) (h2 : SeqAt.shaped d2 = true) (hz : PyData.eqv d1 d2 = z) :
    EV Y (.Compare a [.NotEq] [b] pos) γ M (.d (.bool (!z))) M2 := e_bin (f := fun _ _ => pure .none) (fun h1 h2 => pe_cmpR (op_neD hr.units) h1 h2 (nomark _)) ha hb (rv_ne v1 v2 h1 h2 hz)
theorem eqv_int (i j : Int) : PyData.eqv (.int i) (.int j) = decide (i = j) := by
  show (i == j) = _
  exact Bool.beq_eq_decide_eq ..
/-- two ints -/
theorem e_eqI {k : Nat} (hr : Room k Y.X.A) (ha : EV Y a γ M (.d (.int i)) M1) (hb : EV Y b γ M1 (.d (.int j)) M2) : EV Y (.Compare a [.Eq] [b] pos) γ M (.d (.bool (decide (i = j)))) M2 := e_eq hr ha hb .d .d rfl rfl (eqv_int i j)
theorem e_neI {k : Nat} (hr : Room k Y.X.A) (ha : EV Y a γ M (.d (.int i)) M1) (hb : EV Y b γ M1 (.d (.int j)) M2) : EV Y (.Compare a [.NotEq] [b] pos) γ M (.d (.bool (!decide (i = j)))) M2 := e_ne hr ha hb .d .d rfl rfl (eqv_int i j)
/-- is None -/
def isNon : PyData → Bool
  | .none => true
  | _ => false
theorem dp_non {K : PySem.W.Frag} {F : Hp} {v : V} {d : PyData} (h : Dp K F v d) : decide (v = .non) = isNon d := by
  cases h <;> first | rfl | exact decide_eq_false (fun z => nomatch z)
theorem e_isN {d : PyData} {k : Nat} {p2 : Pos} (ha : EV Y a γ M (.d d) M1) : EV Y (.Compare a [.Is] [.Constant .none k p2] pos) γ M (.d (.bool (isNon d))) M1 :=
  ⟨PE.imp (pe_cmp (pc_isN ha.pe) rfl) fun σ H Q ⟨F, r, q, ex⟩ => ⟨F, r, fun F1 v H1 e1 r1 v1 => q F1 _ H1 e1 r1 (by rw [dp_non v1]; exact .bl _), ex⟩⟩
theorem e_notN {d : PyData} {k : Nat} {p2 : Pos} (ha : EV Y a γ M (.d d) M1) : EV Y (.Compare a [.IsNot] [.Constant .none k p2] pos) γ M (.d (.bool (!isNon d))) M1 :=
  ⟨PE.imp (pe_cmp (pc_notN ha.pe) rfl) fun σ H Q ⟨F, r, q, ex⟩ => ⟨F, r, fun F1 v H1 e1 r1 v1 => q F1 _ H1 e1 r1 (by rw [dp_non v1]; exact .bl _), ex⟩⟩

/-! ### tests -/
theorem t_val (h : EV Y e γ M (.d (.bool b1)) M1) (he : ∀ whole, isTrue e Y.X.env whole = (do let v ← whole; standAt e.pos; holding [v] (truthy v)) := by intro _; rfl) : ET Y e γ M b1 M1 :=
  ⟨PT.imp (pt_val h.pe he) fun σ H Q ⟨F, r, q, ex⟩ => ⟨F, r, fun F1 v H1 e1 r1 v1 => by cases v1; exact ⟨b1, rfl, q F1 H1 e1 r1⟩, ex⟩⟩
theorem t_cmpC {ops : List CmpOp} {bs : List Expr} (h : EV Y (.Compare a ops bs pos) γ M (.d (.bool b1)) M1) (hp : ∀ t, PE Y.X (.Compare a ops bs pos) t → PT Y.X (.Compare a ops bs pos) (tB t)) : ET Y (.Compare a ops bs pos) γ M b1 M1 :=
  ⟨PT.imp (hp _ h.pe) fun σ H Q ⟨F, r, q, ex⟩ => ⟨F, r, fun F1 v H1 e1 r1 v1 => by cases v1; exact ⟨b1, rfl, q F1 H1 e1 r1⟩, ex⟩⟩
theorem t_bin {r : R2} (he : PE Y.X a (tE Y γ M s1 M1) → PE Y.X b (tE Y γ M1 s2 M2) → PT Y.X e (tTest (tOp r (tE Y γ M s1 M1) (tE Y γ M1 s2 M2))))
    (ha : EV Y a γ M s1 M1) (hb : EV Y b γ M1 s2 M2) (hr : RV Y.X.K r s1 s2 M2 (.d (.bool b1)) M3) : ET Y e γ M b1 M3 := ⟨PT.imp (he ha.pe hb.pe) fun σ H Q ⟨F, rl, q, ex⟩ =>
  ⟨F, rl, fun F1 v H1 e1 r1 v1 => ⟨F1, r1, fun F2 w H2 e2 r2 v2 => hr.run F2 v w H2 _ r2.hm (v1.mono e2) v2 fun F3 u H3 e3 h3 v3 => by cases v3; exact ⟨b1, rfl, q F3 H3 ((e1.trans e2).trans e3) (r2.ext e3 h3)⟩, ex.mono e1⟩, ex⟩⟩
section
variable (ha : EV Y a γ M (.d (.int i)) M1) (hb : EV Y b γ M1 (.d (.int j)) M2)
include ha hb
theorem t_lt : ET Y (.Compare a [.Lt] [b] pos) γ M (decide (i < j)) M2 := t_bin (fun h1 h2 => pt_cmpR op_lt h1 h2 (nomark _)) ha hb (rv_B0 (f := fun i j => decide (i < j)))
theorem t_le : ET Y (.Compare a [.LtE] [b] pos) γ M (decide (i ≤ j)) M2 := t_bin (fun h1 h2 => pt_cmpR op_le h1 h2 (nomark _)) ha hb (rv_B0 (f := fun i j => decide (i ≤ j)))
theorem t_gt : ET Y (.Compare a [.Gt] [b] pos) γ M (decide (j < i)) M2 := t_bin (fun h1 h2 => pt_cmpR op_gt h1 h2 (nomark _)) ha hb (rv_B0 (f := fun i j => decide (j < i)))
theorem t_ge : ET Y (.Compare a [.GtE] [b] pos) γ M (decide (j ≤ i)) M2 := t_bin (fun h1 h2 => pt_cmpR op_ge h1 h2 (nomark _)) ha hb (rv_B0 (f := fun i j => decide (j ≤ i)))
end
theorem t_eq {k : Nat} (hr : Room k Y.X.A) {d1 d2 : PyData} {z : Bool} (ha : EV Y a γ M s1 M1) (hb : EV Y b γ M1 s2 M2) (v1 : Vw M2 s1 d1) (v2 : Vw M2 s2 d2) (h1 : SeqAt.shaped d1 = true) (h2 : SeqAt.shaped d2 = true) (hz : PyData.eqv d1 d2 = z) :
    ET Y (.Compare a [.Eq] [b] pos) γ M z M2 := t_bin (fun h1 h2 => pt_cmpR (op_eqD hr.units) h1 h2 (nomark _)) ha hb (rv_eq v1 v2 h1 h2 hz)
theorem t_ne {k : Nat} (hr : Room k Y.X.A) {d1 d2 : PyData} {z : Bool} (ha : EV Y a γ M s1 M1) (hb : EV Y b γ M1 s2 M2) (v1 : Vw M2 s1 d1) (v2 : Vw M2 s2 d2) (h1 : SeqAt.shaped d1 = true) (h2 : SeqAt.shaped d2 = true) (hz : PyData.eqv d1 d2 = z) :
    ET Y (.Compare a [.NotEq] [b] pos) γ M (!z) M2 := t_bin (fun h1 h2 => pt_cmpR (op_neD hr.units) h1 h2 (nomark _)) ha hb (rv_ne v1 v2 h1 h2 hz)
theorem t_eqI {k : Nat} (hr : Room k Y.X.A) (ha : EV Y a γ M (.d (.int i)) M1) (hb : EV Y b γ M1 (.d (.int j)) M2) : ET Y (.Compare a [.Eq] [b] pos) γ M (decide (i = j)) M2 := t_eq hr ha hb .d .d rfl rfl (eqv_int i j)
theorem t_neI {k : Nat} (hr : Room k Y.X.A) (ha : EV Y a γ M (.d (.int i)) M1) (hb : EV Y b γ M1 (.d (.int j)) M2) : ET Y (.Compare a [.NotEq] [b] pos) γ M (!decide (i = j)) M2 := t_ne hr ha hb .d .d rfl rfl (eqv_int i j)
theorem t_isN {d : PyData} {k : Nat} {p2 : Pos} (ha : EV Y a γ M (.d d) M1) : ET Y (.Compare a [.Is] [.Constant .none k p2] pos) γ M (isNon d) M1 :=
  ⟨PT.imp (pt_cmp (pc_isN ha.pe) rfl) fun σ H Q ⟨F, r, q, ex⟩ => ⟨F, r, fun F1 v H1 e1 r1 v1 => ⟨_, rfl, by rw [dp_non v1]; exact q F1 H1 e1 r1⟩, ex⟩⟩
theorem t_notN {d : PyData} {k : Nat} {p2 : Pos} (ha : EV Y a γ M (.d d) M1) : ET Y (.Compare a [.IsNot] [.Constant .none k p2] pos) γ M (!isNon d) M1 :=
  ⟨PT.imp (pt_cmp (pc_notN ha.pe) rfl) fun σ H Q ⟨F, r, q, ex⟩ => ⟨F, r, fun F1 v H1 e1 r1 v1 => ⟨_, rfl, by rw [dp_non v1]; exact q F1 H1 e1 r1⟩, ex⟩⟩
theorem t_is {b' : Bool} (h : ET Y e γ M b1 M1) (q : b1 = b') : ET Y e γ M b' M1 := q ▸ h
theorem t_not (h : ET Y a γ M b1 M1) : ET Y (.UnaryOp .Not a pos) γ M (!b1) M1 := ⟨PT.imp (pt_not h.pt) fun σ H Q ⟨F, r, q, ex⟩ => ⟨F, r, q, ex⟩⟩
/-- chains of and, or: all in one state behind the first -/
structure EW (Y : Ct) (e : Expr) (γ : List S) (M : MM) (b : Bool) (M' : MM) : Prop where
  pw : PW Y.X e (tET Y γ M b M')
variable {rest : List Expr}
theorem PW.imp {X : Cx} {e : Expr} {t t' : TT} (h : PW X e t) (i : ∀ σ H Q, t' σ H Q → t σ H Q) : PW X e t' := ⟨fun wh pins s σ H Q I q => h.run wh pins s σ H Q I (i _ _ _ q)⟩
theorem w_and1 (h : ET Y a γ M b1 M1) : EW Y (.BoolOp .And [a] pos) γ M b1 M1 := ⟨pw_and1 h.pt⟩
theorem w_or1 (h : ET Y a γ M b1 M1) : EW Y (.BoolOp .Or [a] pos) γ M b1 M1 := ⟨pw_or1 h.pt⟩
theorem w_and (h : ET Y a γ M b1 M1) (k : b1 = true → EW Y (.BoolOp .And (b :: rest) pos) γ M1 b2 M1) : EW Y (.BoolOp .And (a :: b :: rest) pos) γ M (b1 && b2) M1 := by
  cases b1 with
  | true =>
    exact ⟨PW.imp (pw_and h.pt (k rfl).pw) fun σ H Q ⟨F, r, q, ex⟩ => ⟨F, r, fun F1 H1 e1 r1 => by
      refine iteT ?_
      exact ⟨F1, r1, fun F2 H2 e2 r2 => q F2 H2 (e1.trans e2) r2, ex.mono e1⟩, ex⟩⟩
  | false =>
    have hn : PW Y.X (.BoolOp .And (b :: rest) pos) (fun _ _ _ => False) := ⟨fun _ _ _ _ _ _ _ z => z.elim⟩
    exact ⟨PW.imp (pw_and h.pt hn) fun σ H Q ⟨F, r, q, ex⟩ => ⟨F, r, fun F1 H1 e1 r1 => by
      refine iteF ?_
      exact q F1 H1 e1 r1, ex⟩⟩
theorem w_or (h : ET Y a γ M b1 M1) (k : b1 = false → EW Y (.BoolOp .Or (b :: rest) pos) γ M1 b2 M1) : EW Y (.BoolOp .Or (a :: b :: rest) pos) γ M (b1 || b2) M1 := by
  cases b1 with
  | false =>
    exact ⟨PW.imp (pw_or h.pt (k rfl).pw) fun σ H Q ⟨F, r, q, ex⟩ => ⟨F, r, fun F1 H1 e1 r1 => by
      refine iteF ?_
      exact ⟨F1, r1, fun F2 H2 e2 r2 => q F2 H2 (e1.trans e2) r2, ex.mono e1⟩, ex⟩⟩
  | true =>
    have hn : PW Y.X (.BoolOp .Or (b :: rest) pos) (fun _ _ _ => False) := ⟨fun _ _ _ _ _ _ _ z => z.elim⟩
    exact ⟨PW.imp (pw_or h.pt hn) fun σ H Q ⟨F, r, q, ex⟩ => ⟨F, r, fun F1 H1 e1 r1 => by
      refine iteT ?_
      exact q F1 H1 e1 r1, ex⟩⟩
theorem EW.t (h : EW Y e γ M b1 M1) : ET Y e γ M b1 M1 := ⟨h.pw.pt⟩
/-- as values -/
theorem e_one {op} (h : EV Y a γ M s M1) : EV Y (.BoolOp op [a] pos) γ M s M1 := ⟨pe_one h.pe⟩
theorem PE.never {X : Cx} {e : Expr} : PE X e (fun _ _ _ => False) := ⟨fun _ _ _ _ _ _ z => z.elim⟩
theorem e_and (h : EV Y a γ M (.d (.bool b1)) M1) (k : b1 = true → EV Y (.BoolOp .And (b :: rest) pos) γ M1 (.d (.bool b2)) M1) : EV Y (.BoolOp .And (a :: b :: rest) pos) γ M (.d (.bool (b1 && b2))) M1 := by
  cases b1 with
  | true =>
    exact ⟨PE.imp (pe_and h.pe (k rfl).pe) fun σ H Q ⟨F, r, q, ex⟩ => ⟨F, r, fun F1 v H1 e1 r1 v1 => by
      cases v1
      refine ⟨true, rfl, ?_⟩
      refine iteT ?_
      exact ⟨F1, r1, fun F2 v2 H2 e2 r2 q2 => q F2 v2 H2 (e1.trans e2) r2 q2, ex.mono e1⟩, ex⟩⟩
  | false =>
    exact ⟨PE.imp (pe_and h.pe PE.never) fun σ H Q ⟨F, r, q, ex⟩ => ⟨F, r, fun F1 v H1 e1 r1 v1 => by
      cases v1
      refine ⟨false, rfl, ?_⟩
      refine iteF ?_
      exact q F1 _ H1 e1 r1 (.bl false), ex⟩⟩
theorem e_or (h : EV Y a γ M (.d (.bool b1)) M1) (k : b1 = false → EV Y (.BoolOp .Or (b :: rest) pos) γ M1 (.d (.bool b2)) M1) : EV Y (.BoolOp .Or (a :: b :: rest) pos) γ M (.d (.bool (b1 || b2))) M1 := by
  cases b1 with
  | false =>
    exact ⟨PE.imp (pe_or h.pe (k rfl).pe) fun σ H Q ⟨F, r, q, ex⟩ => ⟨F, r, fun F1 v H1 e1 r1 v1 => by
      cases v1
      refine ⟨false, rfl, ?_⟩
      refine iteF ?_
      exact ⟨F1, r1, fun F2 v2 H2 e2 r2 q2 => q F2 v2 H2 (e1.trans e2) r2 q2, ex.mono e1⟩, ex⟩⟩
  | true =>
    exact ⟨PE.imp (pe_or h.pe PE.never) fun σ H Q ⟨F, r, q, ex⟩ => ⟨F, r, fun F1 v H1 e1 r1 v1 => by
      cases v1
      refine ⟨true, rfl, ?_⟩
      refine iteT ?_
      exact q F1 _ H1 e1 r1 (.bl true), ex⟩⟩
theorem e_not (h : EV Y a γ M (.d (.bool b1)) M1) : EV Y (.UnaryOp .Not a pos) γ M (.d (.bool (!b1))) M1 :=
  ⟨PE.imp (pe_not h.pe) fun σ H Q ⟨F, r, q, ex⟩ => ⟨F, r, fun F1 v H1 e1 r1 v1 => by cases v1; exact ⟨b1, rfl, q F1 _ H1 e1 r1 (.bl _)⟩, ex⟩⟩
end
end Mi

/-! Mi: items, displays, calls, statements, defs. -/
namespace Mi
open PySem PySem.Spec PyProof.Rows L2
section
variable {Y : Ct} {γ γ' : List S} {M M1 M2 M3 : MM} {s s1 s2 s3 : S} {e a b c : Expr} {pos p : Pos} {x : Str} {i j : Int} {b1 b2 : Bool} {es : List Expr} {ss : List S}
/-! ### items -/
theorem dps_get {K : PySem.W.Frag} {F : Hp} : ∀ {vs : List V} {ds : List PyData} {j : Nat} {d : PyData}, DpAll K F vs ds → ds[j]? = some d → ∃ v, vs[j]? = some v ∧ Dp K F v d
  | _, [], _, _, _, e => by simp at e
  | _, _ :: _, 0, _, h, e => by cases h with | cons h1 h2 => simp at e; subst e; exact ⟨_, rfl, h1⟩
  | _, _ :: _, j + 1, d, h, e => by
    cases h with
    | cons h1 h2 =>
      obtain ⟨v, q1, q2⟩ := dps_get (j := j) (d := d) h2 (by simpa using e)
      exact ⟨v, by simpa using q1, q2⟩
theorem dps_len {K : PySem.W.Frag} {F : Hp} : ∀ {vs : List V} {ds : List PyData}, DpAll K F vs ds → vs.length = ds.length
  | _, [], h => by cases h; rfl
  | _, _ :: _, h => by cases h with | cons h1 h2 => exact congrArg (· + 1) (dps_len h2)
theorem atI_of {α β : Type} {xs : List α} {ys : List β} {i : Int} {y : β} (hl : xs.length = ys.length) (h : atI ys i = some y) (g : ∀ (j : Nat), ys[j]? = some y → ∃ x, xs[j]? = some x) : ∃ (x : α) (j : Nat), atI xs i = some x ∧ xs[j]? = some x ∧ ys[j]? = some y := by
  unfold atI at h ⊢
  rw [hl]
  cases e : ixN ys.length i with
  | none => rw [e] at h; cases h
  | some j =>
    rw [e] at h
    have h' : ys[j]? = some y := h
    obtain ⟨x, hx⟩ := g j h'
    exact ⟨x, j, hx, hx, h'⟩
/-- the item of data at a place -/
def itD : PyData → Int → Option PyData
  | .tuple ds, i => atI ds i
  | .list ds, i => atI ds i
  | _, _ => none
theorem rv_ix {K : PySem.W.Frag} {d d' : PyData} (h : itD d i = some d') : RV K (rIx K) (.d d) (.d (.int i)) M (.d d') M :=
  ⟨fun F v w H Q hm h1 h2 q => by
    cases h2
    cases d with
    | tuple ds =>
      cases h1 with
      | tup g1 g2 =>
        obtain ⟨v', j, e1, e2, e3⟩ := atI_of (dps_len g2) h fun j hj => let ⟨v, hv, _⟩ := dps_get g2 hj; ⟨v, hv⟩
        obtain ⟨v'', f1, f2⟩ := dps_get g2 e3
        rw [e2] at f1; cases f1
        exact .inr (.inl ⟨_, _, i, v', rfl, rfl, same_t hm.fh g1, e1, q F _ H (Same.refl F) hm f2⟩)
    | list ds =>
      cases h1 with
      | lst g1 g2 =>
        obtain ⟨v', j, e1, e2, e3⟩ := atI_of (dps_len g2) h fun j hj => let ⟨v, hv, _⟩ := dps_get g2 hj; ⟨v, hv⟩
        obtain ⟨v'', f1, f2⟩ := dps_get g2 e3
        rw [e2] at f1; cases f1
        exact .inl ⟨_, _, i, v', rfl, rfl, hm.fh.seq g1, e1, q F _ H (Same.refl F) hm f2⟩
    | _ => cases h⟩
theorem e_ix {d d' : PyData} (ha : EV Y a γ M (.d d) M1) (hb : EV Y b γ M1 (.d (.int i)) M2) (h : itD d i = some d') (hs : PlainIx b := by exact fun _ _ => rfl) : EV Y (.Subscript a b pos) γ M (.d d') M2 :=
  e_bin (f := fun _ _ => pure .none) (fun h1 h2 => pe_ix ix_seq h1 h2 hs) ha hb (rv_ix h)
/-- .. of a list that may change -/
theorem rv_ixM {K : PySem.W.Frag} {k : Nat} {q : Addr} {xs : List S} (hk : M[k]? = some (q, .lst xs)) (h : atI xs i = some s) : RV K (rIx K) (.ob q) (.d (.int i)) M s M :=
  ⟨fun F v w H Q hm h1 h2 qq => by
    cases h2
    cases h1
    obtain ⟨_, vs, g1, g2⟩ := hm.mo _ _ (List.mem_of_getElem? hk)
    obtain ⟨v', j, e1, e2, e3⟩ := atI_of (pair_len g2) h fun j hj => let ⟨v, hv, _⟩ := pair_get g2 hj; ⟨v, hv⟩
    obtain ⟨v'', f1, f2⟩ := pair_get g2 e3
    rw [e2] at f1; cases f1
    exact .inl ⟨_, _, i, v', rfl, rfl, .of g1, e1, qq F _ H (Same.refl F) hm f2⟩⟩
theorem e_ixM {k : Nat} {q : Addr} {xs : List S} (ha : EV Y a γ M (.ob q) M1) (hb : EV Y b γ M1 (.d (.int i)) M2) (hk : M2[k]? = some (q, .lst xs)) (h : atI xs i = some s) (hs : PlainIx b := by exact fun _ _ => rfl) : EV Y (.Subscript a b pos) γ M s M2 :=
  e_bin (f := fun _ _ => pure .none) (fun h1 h2 => pe_ix ix_seq h1 h2 hs) ha hb (rv_ixM hk h)

/-! ### arguments, displays -/
theorem ea_nil : EA Y [] γ M [] M := ⟨PA.imp pa_nil fun σ H Q ⟨F, r, q, _⟩ => q F [] H (Same.refl F) r .nil⟩
theorem ea_cons (h : EV Y e γ M s M1) (t : EA Y es γ M1 ss M2) (hs : starEach (e :: es) Y.X.env = (false, eval e Y.X.env) :: starEach es Y.X.env := by rfl) : EA Y (e :: es) γ M (s :: ss) M2 :=
  ⟨PA.imp (pa_cons h.pe t.pa hs) fun σ H Q ⟨F, r, q, ex⟩ => ⟨F, r, fun F1 v H1 e1 r1 v1 => ⟨F1, r1, fun F2 vs H2 e2 r2 v2 => q F2 (v :: vs) H2 (e1.trans e2) r2 (.cons (v1.mono e2) v2), ex.mono e1⟩, ex⟩⟩
theorem small {n : Nat} (h : Nat.ble n 100000 = true) : n ≤ sizeLine := Nat.le_trans (Nat.le_of_ble_eq_true h) (by decide)
theorem e_tup {k} {ds : List PyData} (h : EA Y es γ M (ds.map S.d) M1) (hn : Nat.ble ds.length 100000 = true := by rfl) : EV Y (.Tuple es k pos) γ M (.d (.tuple ds)) M1 :=
  ⟨PE.imp (pe_tup h.pa) fun σ H Q ⟨F, r, q, ex⟩ => ⟨F, r, fun F1 vs H1 e1 r1 v1 => ⟨by rw [pair_len v1, List.length_map]; exact small hn, fun p hp => by
    obtain ⟨e2, h2⟩ := r1.hm.newF hp (.tup vs)
    exact q _ _ _ (e1.trans e2) (r1.ext e2 h2) (.tup (.inl (.inl upd_same)) (dps_mono e2 _ _ (all_d v1)))⟩, ex⟩⟩
/-- a list of written items that isn't changed -/
theorem e_lst {ds : List PyData} (h : EA Y es γ M (ds.map S.d) M1) (hn : Nat.ble ds.length 100000 = true := by rfl) : EV Y (.List es pos) γ M (.d (.list ds)) M1 :=
  ⟨PE.imp (pe_lst h.pa) fun σ H Q ⟨F, r, q, ex⟩ => ⟨F, r, fun F1 vs H1 e1 r1 v1 => ⟨by rw [pair_len v1, List.length_map]; exact small hn, fun p hp => by
    obtain ⟨e2, h2⟩ := r1.hm.newF hp (.lst vs)
    exact q _ _ _ (e1.trans e2) (r1.ext e2 h2) (.lst (.inl (.inl upd_same)) (dps_mono e2 _ _ (all_d v1)))⟩, ex⟩⟩
/-- a new list of written items -/
theorem n_lst (h : EA Y es γ M ss M1) (hn : Nat.ble ss.length 100000 = true := by rfl) : EN Y (.List es pos) γ M (.lst ss) M1 :=
  ⟨PE.imp (pe_lst h.pa) fun σ H Q ⟨F, r, q, ex⟩ => ⟨F, r, fun F1 vs H1 e1 r1 v1 => ⟨by rw [pair_len v1]; exact small hn, fun p hp => by
    have h2 := r1.hm.newM hp (o := .lst vs) (m := .lst ss) ⟨vs, upd_same, v1⟩
    exact q F1 p _ e1 ⟨h2, r1.sl⟩⟩, ex⟩⟩
theorem EN.at {o : MO} {M' : MM} (h : EN Y e γ M o M1) (q : M1 = M') : EN Y e γ M o M' := q ▸ h
/-- a new list that isn't changed any more -/
theorem e_frz {ds : List PyData} (h : EN Y e γ M (.lst (ds.map S.d)) M1) : EV Y e γ M (.d (.list ds)) M1 :=
  ⟨PE.imp h.pe fun σ H Q ⟨F, r, q, ex⟩ => ⟨F, r, fun F1 p H1 e1 r1 => by
    obtain ⟨vs, g1, g2, g3, g4⟩ := r1.hm.frz
    exact q _ _ _ (e1.trans g3) (r1.ext g3 g4) (.lst (.inl (.inl upd_same)) (dps_mono g3 _ _ g2)), ex⟩⟩

/-! ### built-in calls -/
structure RC (K : PySem.W.Frag) (r : List V → Hp → VK → Prop) (ss : List S) (M : MM) (z : S) (M' : MM) : Prop where
  run : ∀ F vs H (Q : VK), HM K F M H → Paired (SR K F) vs ss → (∀ F' u H', Same F F' → HM K F' M' H' → SR K F' u z → Q u H') → r vs H Q
theorem e_callB {r : List V → Hp → VK → Prop} {id : String} {x : Str} (hc : CallR Y.X (.builtin id) r) (hg : Gl Y.X x) (hm : Y.X.mg x = none) (hv : bootBuiltins x = some (.builtin id)) (ha : EA Y (e :: es) γ M ss M1) (hr : RC Y.X.K r ss M1 s M2)
    (hn : x ≠ "__name__" := by decide) (hdb : (x == ("__debug__" : Str)) = false := by decide) (he : starEach (e :: es) Y.X.env = (false, eval e Y.X.env) :: starEach es Y.X.env := by rfl) (hpl : (backTo pos (starEach es Y.X.env)).any (·.1) = false := by rfl) :
    EV Y (.Call (.Name x p) (e :: es) [] pos) γ M s M2 := ⟨PE.imp (pe_callB hc hg hm hv ha.pa hn hdb he hpl) fun σ H Q ⟨F, rl, q, ex⟩ =>
  ⟨F, rl, fun F1 vs H1 e1 r1 v1 => hr.run F1 vs H1 Q r1.hm v1 fun F2 u H2 e2 h2 v2 => q F2 u H2 (e1.trans e2) (r1.ext e2 h2) v2, ex⟩⟩
theorem e_callTy {r : List V → Hp → VK → Prop} {T : String} {x : Str} (hc : CallR Y.X (.type T) r) (hg : Gl Y.X x) (hm : Y.X.mg x = none) (hv : bootBuiltins x = some (.type T)) (ha : EA Y (e :: es) γ M ss M1) (hr : RC Y.X.K r ss M1 s M2)
    (hn : x ≠ "__name__" := by decide) (hdb : (x == ("__debug__" : Str)) = false := by decide) (he : starEach (e :: es) Y.X.env = (false, eval e Y.X.env) :: starEach es Y.X.env := by rfl) (hpl : (backTo pos (starEach es Y.X.env)).any (·.1) = false := by rfl) :
    EV Y (.Call (.Name x p) (e :: es) [] pos) γ M s M2 := ⟨PE.imp (pe_callTy hc hg hm hv ha.pa hn hdb he hpl) fun σ H Q ⟨F, rl, q, ex⟩ =>
  ⟨F, rl, fun F1 vs H1 e1 r1 v1 => hr.run F1 vs H1 Q r1.hm v1 fun F2 u H2 e2 h2 v2 => q F2 u H2 (e1.trans e2) (r1.ext e2 h2) v2, ex⟩⟩
theorem pair_one {α β : Type} {R : α → β → Prop} {vs : List α} {y : β} (h : Paired R vs [y]) : ∃ v, vs = [v] ∧ R v y := by
  cases h with | cons a t => cases t; exact ⟨_, rfl, a⟩
theorem pair_two {α β : Type} {R : α → β → Prop} {vs : List α} {y z : β} (h : Paired R vs [y, z]) : ∃ v w, vs = [v, w] ∧ R v y ∧ R w z := by
  cases h with | cons a t => cases t with | cons b t => cases t; exact ⟨_, _, rfl, a, b⟩
theorem e_abs (hg : Gl Y.X "abs" := by rfl) (hm : Y.X.mg "abs" = none) (ha : EA Y (e :: es) γ M [.d (.int i)] M1)
    (he : starEach (e :: es) Y.X.env = (false, eval e Y.X.env) :: starEach es Y.X.env := by rfl) (hpl : (backTo pos (starEach es Y.X.env)).any (·.1) = false := by rfl) : EV Y (.Call (.Name "abs" p) (e :: es) [] pos) γ M (.d (.int (i.natAbs : Int))) M1 :=
  e_callB call_abs hg hm (by decide +kernel) ha (he := he) (hpl := hpl) (hr := ⟨fun F vs H Q hm h q => by
    obtain ⟨v, rfl, h1⟩ := pair_one h
    cases h1
    refine ⟨i, rfl, ?_⟩
    have e : (if i < 0 then -i else i) = (i.natAbs : Int) := by split <;> omega
    rw [e]
    exact q F _ H (Same.refl F) hm (.int _)⟩)
/-- int(flag) -/
theorem e_intB (hg : Gl Y.X "int" := by rfl) (hm : Y.X.mg "int" = none) (ha : EA Y (e :: es) γ M [.d (.bool b1)] M1)
    (he : starEach (e :: es) Y.X.env = (false, eval e Y.X.env) :: starEach es Y.X.env := by rfl) (hpl : (backTo pos (starEach es Y.X.env)).any (·.1) = false := by rfl) : EV Y (.Call (.Name "int" p) (e :: es) [] pos) γ M (.d (.int (if b1 then 1 else 0))) M1 :=
  e_callTy call_int1 hg hm (by decide +kernel) ha (he := he) (hpl := hpl) (hr := ⟨fun F vs H Q hm h q => by
    obtain ⟨v, rfl, h1⟩ := pair_one h
    cases h1
    exact .inr ⟨b1, rfl, q F _ H (Same.refl F) hm (.int _)⟩⟩)
def lenD : PyData → Option Nat
  | .tuple ds => some ds.length
  | .list ds => some ds.length
  | _ => none
theorem e_len {d : PyData} {n : Nat} (hg : Gl Y.X "len" := by rfl) (hm : Y.X.mg "len" = none) (ha : EA Y (e :: es) γ M [s] M1) (hv : Vw M1 s d) (h : lenD d = some n)
    (he : starEach (e :: es) Y.X.env = (false, eval e Y.X.env) :: starEach es Y.X.env := by rfl) (hpl : (backTo pos (starEach es Y.X.env)).any (·.1) = false := by rfl) : EV Y (.Call (.Name "len" p) (e :: es) [] pos) γ M (.d (.int n)) M1 :=
  e_callB call_len hg hm PySem.boot_len ha (he := he) (hpl := hpl) (hr := ⟨fun F vs H Q hm' g q => by
    obtain ⟨v, rfl, g0⟩ := pair_one g
    have g := hv.ok hm' g0
    refine ⟨v, n, rfl, ?_, q F _ H (Same.refl F) hm' (.int _)⟩
    cases d with
    | tuple ds => cases g with | tup g1 g2 => cases h; exact .inr ⟨_, g1, (dps_len g2).symm⟩
    | list ds => cases g with | lst g1 g2 => cases h; exact .inl ⟨_, g1, (dps_len g2).symm⟩
    | _ => cases h⟩)
theorem e_max2 (hc : Y.X.calm = true) (hg : Gl Y.X "max" := by rfl) (hm : Y.X.mg "max" = none) (ha : EA Y (e :: es) γ M [.d (.int i), .d (.int j)] M2)
    (he : starEach (e :: es) Y.X.env = (false, eval e Y.X.env) :: starEach es Y.X.env := by rfl) (hpl : (backTo pos (starEach es Y.X.env)).any (·.1) = false := by rfl) : EV Y (.Call (.Name "max" p) (e :: es) [] pos) γ M (.d (.int (max i j))) M2 :=
  e_callB (call_max2 hc) hg hm (by decide +kernel) ha (he := he) (hpl := hpl) (hr := ⟨fun F vs H Q hm h q => by
    obtain ⟨v, w, rfl, h1, h2⟩ := pair_two h
    cases h1; cases h2
    refine ⟨i, j, rfl, ?_⟩
    have e : (if j > i then j else i) = max i j := by rw [Int.max_def]; split <;> split <;> omega
    rw [e]
    exact q F _ H (Same.refl F) hm (.int _)⟩)
theorem e_min2 (hc : Y.X.calm = true) (hg : Gl Y.X "min" := by rfl) (hm : Y.X.mg "min" = none) (ha : EA Y (e :: es) γ M [.d (.int i), .d (.int j)] M2)
    (he : starEach (e :: es) Y.X.env = (false, eval e Y.X.env) :: starEach es Y.X.env := by rfl) (hpl : (backTo pos (starEach es Y.X.env)).any (·.1) = false := by rfl) : EV Y (.Call (.Name "min" p) (e :: es) [] pos) γ M (.d (.int (min i j))) M2 :=
  e_callB (call_min2 hc) hg hm (by decide +kernel) ha (he := he) (hpl := hpl) (hr := ⟨fun F vs H Q hm h q => by
    obtain ⟨v, w, rfl, h1, h2⟩ := pair_two h
    cases h1; cases h2
    refine ⟨i, j, rfl, ?_⟩
    have e : (if j < i then j else i) = min i j := by rw [Int.min_def]; split <;> split <;> omega
    rw [e]
    exact q F _ H (Same.refl F) hm (.int _)⟩)

/-! ### defs -/
/-- what a def is worth: the arguments, the objects, what is wanted of the answer, of an error -/
abbrev Con := List S → MM → (S → MM → Prop) → (Value → MM → Prop) → Prop
def spD (K : PySem.W.Frag) (c : Con) : Sp := fun vs H Q E => ∃ F M ss R Rx, Paired (SR K F) vs ss ∧ HM K F M H ∧ c ss M R Rx ∧ (∀ F' v r M' H', Same F F' → HM K F' M' H' → SR K F' v r → R r M' → Q v H') ∧
  (∀ cls M' F' H', Same F F' → HM K F' M' H' → Rx cls M' → E (xcl cls).1 (xcl cls).2 H')
/-- a call, told by its one answer -/
theorem e_call {k : Nat} {f : Addr} {fd : FuncData} {ps : List Str} {cn : Con} (G : FnOk Y.X.prog Y.X.w Y.X.K Y.X.mg Y.X.base (L2.CX Y.X.prog Y.X.w) k f fd ps (spD Y.X.K cn)) (hr : Room k Y.X.A) (hm : Y.X.mg x = some (.ref f)) (hk : PySem.W.keepIn Y.X.K (.ref f) = true) (hb : Binds Y.X.K fd ps [])
    (tk : Takes Y.X Y.Er) (ha : EA Y (e :: es) γ M ss M1) (h : cn ss M1 (fun r M' => r = s ∧ M' = M2) (fun cls M' => Y.Rx cls γ M')) (hg : Gl Y.X x := by rfl) (hdb : (x == ("__debug__" : Str)) = false := by decide)
    (he : starEach (e :: es) Y.X.env = (false, eval e Y.X.env) :: starEach es Y.X.env := by rfl) (hpl : (backTo pos (starEach es Y.X.env)).any (·.1) = false := by rfl) : EV Y (.Call (.Name x p) (e :: es) [] pos) γ M s M2 :=
  ⟨PE.imp (pe_callS G hr hg hm hk hb (fun σ => passAt tk σ) ha.pa hdb he hpl) fun σ H Q ⟨F, rl, q, ex⟩ => ⟨F, rl, fun F1 vs H1 e1 r1 v1 => by
    refine ⟨F1, M1, ss, _, _, v1, r1.hm, h, fun F' v r M' H' e2 h2 v2 hR => ?_, fun cls M' F' H' e2 h2 hR => ex cls γ M' F' σ H' (e1.trans e2) (r1.ext e2 h2) hR⟩
    obtain ⟨rfl, rfl⟩ := hR
    exact q F' v H' (e1.trans e2) (r1.ext e2 h2) v2, ex⟩⟩
/-- a call that makes a new object -/
theorem n_call {k : Nat} {f : Addr} {fd : FuncData} {ps : List Str} {cn : Con} {o : MO} (G : FnOk Y.X.prog Y.X.w Y.X.K Y.X.mg Y.X.base (L2.CX Y.X.prog Y.X.w) k f fd ps (spD Y.X.K cn)) (hr : Room k Y.X.A) (hm : Y.X.mg x = some (.ref f)) (hk : PySem.W.keepIn Y.X.K (.ref f) = true) (hb : Binds Y.X.K fd ps [])
    (tk : Takes Y.X Y.Er) (ha : EA Y (e :: es) γ M ss M1) (h : cn ss M1 (fun r M' => ∃ q, r = .ob q ∧ M' = M2 ++ [(q, o)]) (fun cls M' => Y.Rx cls γ M')) (hg : Gl Y.X x := by rfl) (hdb : (x == ("__debug__" : Str)) = false := by decide)
    (he : starEach (e :: es) Y.X.env = (false, eval e Y.X.env) :: starEach es Y.X.env := by rfl) (hpl : (backTo pos (starEach es Y.X.env)).any (·.1) = false := by rfl) : EN Y (.Call (.Name x p) (e :: es) [] pos) γ M o M2 :=
  ⟨PE.imp (pe_callS G hr hg hm hk hb (fun σ => passAt tk σ) ha.pa hdb he hpl) fun σ H Q ⟨F, rl, q, ex⟩ => ⟨F, rl, fun F1 vs H1 e1 r1 v1 => by
    refine ⟨F1, M1, ss, _, _, v1, r1.hm, h, fun F' v r M' H' e2 h2 v2 hR => ?_, fun cls M' F' H' e2 h2 hR => ex cls γ M' F' σ H' (e1.trans e2) (r1.ext e2 h2) hR⟩
    obtain ⟨a, rfl, rfl⟩ := hR
    cases v2
    exact q F' a H' (e1.trans e2) (r1.ext e2 h2), ex⟩⟩

/-! ### statements -/
structure Po where
  nx : List S → MM → Prop
  rt : S → MM → Prop
  bk : List S → MM → Prop
  ct : List S → MM → Prop
structure PoOk (K : PySem.W.Frag) (P : Po) (F : Hp) (D : Ends) : Prop where
  nx : ∀ γ' M' F' σ' H', Same F F' → Rl K γ' M' F' σ' H' → P.nx γ' M' → D.nx σ' H'
  rt : ∀ s M' F' v H', Same F F' → HM K F' M' H' → SR K F' v s → P.rt s M' → D.rt v H'
  bk : ∀ γ' M' F' σ' H', Same F F' → Rl K γ' M' F' σ' H' → P.bk γ' M' → D.bk σ' H'
  ct : ∀ γ' M' F' σ' H', Same F F' → Rl K γ' M' F' σ' H' → P.ct γ' M' → D.ct σ' H'
theorem PoOk.mono {K : PySem.W.Frag} {P : Po} {F F' : Hp} {D : Ends} (h : PoOk K P F D) (e : Same F F') : PoOk K P F' D :=
  ⟨fun γ' M' F2 σ' H' e2 => h.nx γ' M' F2 σ' H' (e.trans e2), fun s M' F2 v H' e2 => h.rt s M' F2 v H' (e.trans e2), fun γ' M' F2 σ' H' e2 => h.bk γ' M' F2 σ' H' (e.trans e2), fun γ' M' F2 σ' H' e2 => h.ct γ' M' F2 σ' H' (e.trans e2)⟩
def tB' (Y : Ct) (γ : List S) (M : MM) (P : Po) : TS := fun D σ H => ∃ F, Rl Y.X.K γ M F σ H ∧ PoOk Y.X.K P F D ∧ ExOk Y F
/-- a statement, a block: what it leads to -/
structure ST (Y : Ct) (st : Stmt) (γ : List S) (M : MM) (P : Po) : Prop where
  ps : PS Y.X st (tB' Y γ M P)
structure BL (Y : Ct) (sts : List Stmt) (γ : List S) (M : MM) (P : Po) : Prop where
  ps : PSs Y.X sts (tB' Y γ M P)
variable {st : Stmt} {sts rest bA bB : List Stmt} {P P' : Po}
theorem b_nil (h : P.nx γ M) : BL Y [] γ M P := ⟨PSs.imp pss_nil fun D σ H ⟨F, r, q, _⟩ => q.nx γ M F σ H (Same.refl F) r h⟩
theorem BL.imp (h : BL Y sts γ M P) (h1 : ∀ γ' M', P.nx γ' M' → P'.nx γ' M') (h2 : ∀ s M', P.rt s M' → P'.rt s M') (h3 : ∀ γ' M', P.bk γ' M' → P'.bk γ' M') (h4 : ∀ γ' M', P.ct γ' M' → P'.ct γ' M') : BL Y sts γ M P' :=
  ⟨PSs.imp h.ps fun D σ H ⟨F, r, q, ex⟩ => ⟨F, r, ⟨fun γ' M' F' σ' H' e r z => q.nx γ' M' F' σ' H' e r (h1 _ _ z), fun s M' F' v H' e hm sr z => q.rt s M' F' v H' e hm sr (h2 _ _ z), fun γ' M' F' σ' H' e r z => q.bk γ' M' F' σ' H' e r (h3 _ _ z), fun γ' M' F' σ' H' e r z => q.ct γ' M' F' σ' H' e r (h4 _ _ z)⟩, ex⟩⟩
/-- a statement, then the rest from each state that it leads to -/
theorem b_cons (h : ST Y st γ M { P with nx := fun γ' M' => BL Y rest γ' M' P }) : BL Y (st :: rest) γ M P := by
  refine ⟨⟨fun pins s σ H D I ⟨F, r, q, ex⟩ => ?_⟩⟩
  let u : TS := fun D σ H => ∃ γ' M', BL Y rest γ' M' P ∧ tB' Y γ' M' P D σ H
  have hu : PSs Y.X rest u := ⟨fun pins s σ H D I ⟨γ', M', hb, ht⟩ => hb.ps.run pins s σ H D I ht⟩
  refine (pss_cons h.ps hu).run pins s σ H D I ?_
  refine ⟨F, r, ⟨fun γ' M' F' σ' H' e r' hb => ⟨γ', M', hb, F', r', q.mono e, ex.mono e⟩, q.rt, q.bk, q.ct⟩, ex⟩
theorem b_one (h : ST Y st γ M P) : BL Y [st] γ M P := ⟨pss_one h.ps⟩
/-- the same, the way behind the statement told once -/
theorem b_cut (N : List S → MM → Prop) (h : ST Y st γ M { P with nx := N }) (k : ∀ γ' M', N γ' M' → BL Y rest γ' M' P) : BL Y (st :: rest) γ M P :=
  b_cons ⟨PS.imp h.ps fun D σ H ⟨F, r, q, ex⟩ => ⟨F, r, ⟨fun γ' M' F' σ' H' e r' z => q.nx γ' M' F' σ' H' e r' (k γ' M' z), q.rt, q.bk, q.ct⟩, ex⟩⟩

theorem s_ret (h : EV Y e γ M s M1) (k : P.rt s M1) : ST Y (.Return (some e) pos) γ M P :=
  ⟨PS.imp (ps_ret h.pe) fun D σ H ⟨F, r, q, ex⟩ => ⟨F, r, fun F1 v H1 e1 r1 v1 => q.rt s M1 F1 v H1 e1 r1.hm v1 k, ex⟩⟩
theorem s_retM {o : MO} (h : EN Y e γ M o M1) (k : ∀ q, P.rt (.ob q) (M1 ++ [(q, o)])) : ST Y (.Return (some e) pos) γ M P :=
  ⟨PS.imp (ps_ret h.pe) fun D σ H ⟨F, r, q, ex⟩ => ⟨F, r, fun F1 a H1 e1 r1 => q.rt (.ob a) _ F1 _ H1 e1 r1.hm rfl (k a), ex⟩⟩
theorem s_retN (k : P.rt (.d .none) M) : ST Y (.Return none pos) γ M P :=
  ⟨PS.imp ps_retN fun D σ H ⟨F, r, q, ex⟩ => q.rt (.d .none) M F .non H (Same.refl F) r.hm Dp.non k⟩
theorem s_expr (h : EV Y e γ M s M1) (k : P.nx γ M1) (hs : swapsWith e none pos.line Y.X.env = pure false := by rfl) : ST Y (.Expr e pos) γ M P :=
  ⟨PS.imp (ps_expr h.pe hs) fun D σ H ⟨F, r, q, ex⟩ => ⟨F, r, fun F1 v H1 e1 r1 v1 => q.nx γ M1 F1 σ H1 e1 r1 k, ex⟩⟩
theorem s_pass (k : P.nx γ M) : ST Y (.Pass pos) γ M P := ⟨PS.imp ps_pass fun D σ H ⟨F, r, q, ex⟩ => q.nx γ M F σ H (Same.refl F) r k⟩
theorem s_break (k : P.bk γ M) : ST Y (.Break pos) γ M P := ⟨PS.imp ps_break fun D σ H ⟨F, r, q, ex⟩ => q.bk γ M F σ H (Same.refl F) r k⟩
theorem s_continue (k : P.ct γ M) : ST Y (.Continue pos) γ M P := ⟨PS.imp ps_continue fun D σ H ⟨F, r, q, ex⟩ => q.ct γ M F σ H (Same.refl F) r k⟩
theorem sr_or {K : PySem.W.Frag} {F : Hp} {v : V} (h : SR K F v s) : OR K F (some v) s := by
  cases s with
  | no => trivial
  | d x => exact ⟨v, rfl, h⟩
  | ob a => exact ⟨v, rfl, h⟩
  | ty a => exact ⟨v, rfl, h⟩
/-- x = e -/
theorem s_set (i : Nat) {pos' : Pos} (hN : Y.X.N.Nodup) (h : EV Y e γ M s M1) (k : P.nx (γ.set i s) M1) (hi : Y.X.N[i]? = some x := by rfl) (hx : Loc Y.X.env.scope x := by first | exact Or.inl rfl | exact Or.inr rfl)
    (hs : swapsWith e (some (.Name x pos')) pos.line Y.X.env = pure false := by rfl) (hf : Y.X.fn x = true ∨ Y.X.env.scope.names.lookup x = some .local := by first | exact .inl rfl | exact .inr rfl) : ST Y (.Assign [.Name x pos'] e pos) γ M P :=
  ⟨PS.imp (ps_set hN hi hx h.pe hs hf) fun D σ H ⟨F, r, q, ex⟩ => ⟨F, r, fun F1 v H1 e1 r1 v1 => q.nx _ M1 F1 _ H1 e1 ⟨r1.hm, pair_set (sr_or v1) i r1.sl⟩ k, ex⟩⟩
theorem s_setM (i : Nat) {pos' : Pos} {o : MO} (hN : Y.X.N.Nodup) (h : EN Y e γ M o M1) (k : ∀ q, P.nx (γ.set i (.ob q)) (M1 ++ [(q, o)])) (hi : Y.X.N[i]? = some x := by rfl) (hx : Loc Y.X.env.scope x := by first | exact Or.inl rfl | exact Or.inr rfl)
    (hs : swapsWith e (some (.Name x pos')) pos.line Y.X.env = pure false := by rfl) (hf : Y.X.fn x = true ∨ Y.X.env.scope.names.lookup x = some .local := by first | exact .inl rfl | exact .inr rfl) : ST Y (.Assign [.Name x pos'] e pos) γ M P :=
  ⟨PS.imp (ps_set hN hi hx h.pe hs hf) fun D σ H ⟨F, r, q, ex⟩ => ⟨F, r, fun F1 a H1 e1 r1 => q.nx _ _ F1 _ H1 e1 ⟨r1.hm, pair_set (sr_or (s := .ob a) rfl) i r1.sl⟩ (k a), ex⟩⟩
theorem s_if (hc : ET Y c γ M b1 M1) (h1 : b1 = true → BL Y bA γ M1 P) (h2 : b1 = false → BL Y bB γ M1 P) : ST Y (.If c bA bB pos) γ M P := by
  cases b1 with
  | true =>
    exact ⟨PS.imp (ps_if hc.pt (h1 rfl).ps pss_never) fun D σ H ⟨F, r, q, ex⟩ => ⟨F, r, fun F1 H1 e1 r1 => by
      refine iteT ?_
      exact ⟨F1, r1, q.mono e1, ex.mono e1⟩, ex⟩⟩
  | false =>
    exact ⟨PS.imp (ps_if hc.pt pss_never (h2 rfl).ps) fun D σ H ⟨F, r, q, ex⟩ => ⟨F, r, fun F1 H1 e1 r1 => by
      refine iteF ?_
      exact ⟨F1, r1, q.mono e1, ex.mono e1⟩, ex⟩⟩
/-- a, b = x, y -/
theorem s_par (i j : Nat) {x y : Str} {px py pt : Pos} {kt k2 pt2} (hc : Y.X.calm = true) (hN : Y.X.N.Nodup) (ha : EA Y [a, b] γ M [s1, s2] M1) (k : P.nx ((γ.set i s1).set j s2) M1)
    (hi : Y.X.N[i]? = some x := by rfl) (hj : Y.X.N[j]? = some y := by rfl) (hij : i ≠ j := by decide) (hx : Y.X.env.scope.names.lookup x = some .local := by rfl) (hy : Y.X.env.scope.names.lookup y = some .local := by rfl)
    (hw : swappedStores [.Tuple [.Name x px, .Name y py] kt pt] (.Tuple [a, b] k2 pt2) Y.X.env = pure (some [x, y]) := by rfl)
    (hs : swapsWithSole [.Tuple [.Name x px, .Name y py] kt pt] (.Tuple [a, b] k2 pt2) pos.line Y.X.env = pure false := by rfl) : ST Y (.Assign [.Tuple [.Name x px, .Name y py] kt pt] (.Tuple [a, b] k2 pt2) pos) γ M P :=
  ⟨PS.imp (ps_par hc hN hi hj hij hx hy ha.pa hw hs) fun D σ H ⟨F, r, q, ex⟩ => ⟨F, r, fun F1 vs H1 e1 r1 v1 => by
    obtain ⟨v, w, rfl, h1, h2⟩ := pair_two v1
    exact ⟨v, w, rfl, q.nx _ M1 F1 _ H1 e1 ⟨r1.hm, pair_set (sr_or h2) j (pair_set (sr_or h1) i r1.sl)⟩ k⟩, ex⟩⟩
/-- targets: a value's parts to names -/
structure GT (Y : Ct) (tg : Expr) (γ : List S) (s : S) (M : MM) (γ' : List S) : Prop where
  ex : ∃ g, PG Y.X tg g ∧ ∀ F σ H v (Q : L2.St → Hp → Prop), Rl Y.X.K γ M F σ H → SR Y.X.K F v s → (∀ σ', Rl Y.X.K γ' M F σ' H → Q σ' H) → g v σ H Q
structure GTs (Y : Ct) (tg : List Expr) (γ : List S) (ss : List S) (M : MM) (γ' : List S) : Prop where
  ex : ∃ g, PGs Y.X tg g ∧ ∀ F σ H vs (Q : L2.St → Hp → Prop), Rl Y.X.K γ M F σ H → Paired (SR Y.X.K F) vs ss → (∀ σ', Rl Y.X.K γ' M F σ' H → Q σ' H) → g vs σ H Q
theorem g_name (i : Nat) (hN : Y.X.N.Nodup) (hi : Y.X.N[i]? = some x := by rfl) (hx : Loc Y.X.env.scope x := by first | exact Or.inl rfl | exact Or.inr rfl) (hf : Y.X.fn x = true ∨ Y.X.env.scope.names.lookup x = some .local := by first | exact .inl rfl | exact .inr rfl) : GT Y (.Name x pos) γ s M (γ.set i s) :=
  ⟨_, pg_name hN hi hx hf, fun F σ H v Q r h q => q _ ⟨r.hm, pair_set (sr_or h) i r.sl⟩⟩
theorem g_nil : GTs Y [] γ [] M γ := ⟨_, pgs_nil, fun F σ H vs Q r h q => by cases h; exact ⟨rfl, q _ r⟩⟩
theorem g_cons {γ1 : List S} {es : List Expr} (h : GT Y e γ s M γ1) (t : GTs Y es γ1 ss M γ') (hs : (assignEach (e :: es) Y.X.env).map (·.2) = assign e Y.X.env :: (assignEach es Y.X.env).map (·.2) := by rfl) : GTs Y (e :: es) γ (s :: ss) M γ' := by
  obtain ⟨g1, p1, q1⟩ := h.ex
  obtain ⟨g2, p2, q2⟩ := t.ex
  refine ⟨_, pgs_cons p1 p2 hs, fun F σ H vs Q r h q => ?_⟩
  cases h with
  | cons h1 h2 => exact ⟨_, _, rfl, q1 F σ H _ _ r h1 fun σ1 r1 => q2 F σ1 H _ Q r1 h2 q⟩
theorem g_tup {k : Nat} {es : List Expr} {ds : List PyData} {n : Nat} (hc : Y.X.calm = true) (h : GTs Y es γ (ds.map S.d) M γ') (hl : ds.length = n := by rfl) (hn : (assignEach es Y.X.env).length = n := by rfl) (hst : (assignEach es Y.X.env).findIdx? (·.1) = none := by rfl) :
    GT Y (.Tuple es k pos) γ (.d (.tuple ds)) M γ' := by
  obtain ⟨g, p, q⟩ := h.ex
  refine ⟨_, pg_tup hc p hn hst, fun F σ H v Q r h q' => ?_⟩
  cases h with
  | tup h1 h2 => exact ⟨_, _, rfl, same_t r.hm.fh h1, (dps_len h2).trans hl, q F σ H _ Q r (d_all h2) q'⟩
/-- target = value -/
theorem s_asg {tg : Expr} (h : EV Y e γ M s M1) (g : GT Y tg γ s M1 γ') (k : P.nx γ' M1) (hs : swapsWithSole [tg] e pos.line Y.X.env = pure false := by rfl) (hw : swappedStores [tg] e Y.X.env = pure none := by rfl)
    (h1 : (assignEach [tg] Y.X.env).map (·.2) = [assign tg Y.X.env] := by rfl) : ST Y (.Assign [tg] e pos) γ M P := by
  obtain ⟨gg, p, q⟩ := g.ex
  exact ⟨PS.imp (ps_asg h.pe p hs hw h1) fun D σ H ⟨F, r, qq, ex⟩ => ⟨F, r, fun F1 v H1 e1 r1 v1 => q F1 σ H1 v _ r1 v1 fun σ' r' => qq.nx γ' M1 F1 σ' H1 e1 r' k, ex⟩⟩
end

/-! ### the def's own rule -/
section
variable {P : Program} {w : World} {K : PySem.W.Frag} {mg : Str → Option Value} {base : Heap}
theorem start_ok {K : PySem.W.Frag} {F : Hp} {N : List Str} {vs : List V} {ss : List S} (h : Paired (SR K F) vs ss) : Paired (OR K F) (L2.start N vs) (ss ++ List.replicate (N.length - ss.length) .no) := by
  have e := pair_len h
  unfold L2.start
  rw [e]
  refine pair_app ?_ ?_
  · induction h with
    | nil => exact .nil
    | cons a t ih => exact .cons (sr_or a) (ih (pair_len t))
  · generalize N.length - ss.length = n
    induction n with
    | zero => exact .nil
    | succ n ih => exact .cons trivial ih
/-- c: what the def is worth, as a condition on arguments and objects -/
theorem Fun.okD {x qual : Str} {st : Stmt} {f : Addr} {fd : FuncData} {N ps : List Str} {k : Nat} {c : Con} (Fn : Fun K x qual st f fd) (Sc : FnScope N ps (defScope st)) (len : ∀ ss M R Rx, c ss M R Rx → ss.length = ps.length)
    (hbody : ∀ (cdv : Value) (A : Around) (outer : List Env) (s : Shared) (H : Hp) (E : XK) (ss : List S) (M : MM) (R : S → MM → Prop) (Rx : Value → MM → Prop), c ss M R Rx → Room k (A.deeper (envOfC qual (defScope st) s.heap.objs.size f cdv)) →
      Takes (cxOf (L2.CX P w) P w K mg base N qual (defScope st) f cdv A outer s H E) (fun cls d _ H => E cls d H) →
      BL ⟨cxOf (L2.CX P w) P w K mg base N qual (defScope st) f cdv A outer s H E, fun cls d _ H => E cls d H, fun cls _ M => Rx cls M⟩ (defBody st) (ss ++ List.replicate (N.length - ss.length) .no) M
        { nx := fun _ M' => R (.d .none) M', rt := R, bk := fun _ _ => False, ct := fun _ _ => False }) : FnOk P w K mg base (L2.CX P w) (k + 1) f fd ps (spD K c) := by
  refine Fun.okX Fn Sc (fun vs H Q E h => ?_) (fun cdv A outer s H vs Q E hr h => ?_)
  · obtain ⟨F, M, ss, R, Rx, h1, h2, h3, h4, h5⟩ := h
    exact (pair_len h1).trans (len _ _ _ _ h3)
  · obtain ⟨F, M, ss, R, Rx, h1, h2, h3, h4, h5⟩ := h
    have hb := hbody cdv A outer s H E ss M R Rx h3 hr (takes_of rfl rfl rfl rfl)
    refine ⟨_, hb.ps, F, ⟨h2, start_ok h1⟩, ⟨fun γ' M' F' σ' H' e r z => ?_, fun s' M' F' v H' e hm sr z => ?_, fun _ _ _ _ _ _ _ z => z.elim, fun _ _ _ _ _ _ _ z => z.elim⟩, fun cls γ' M' F' σ' H' e r z => ?_⟩
    · exact h4 F' .non (.d .none) M' H' e r.hm Dp.non z
    · exact h4 F' v s' M' H' e hm sr z
    · exact h5 cls M' F' H' e r.hm z
end
end Mi

/-! Mi: loops, stores. -/
namespace Mi
open PySem PySem.Spec PyProof.Rows L2
/-- all readings of a piece at once -/
def uS (X : Cx) (b : List Stmt) : TS := fun D σ H => ∃ t, PSs X b t ∧ t D σ H
theorem uS_ok {X : Cx} {b : List Stmt} : PSs X b (uS X b) := ⟨fun pins s σ H D I ⟨t, h, q⟩ => h.run pins s σ H D I q⟩
def uG (X : Cx) (e : Expr) : TG := fun v σ H Q => ∃ g, PG X e g ∧ g v σ H Q
theorem uG_ok {X : Cx} {e : Expr} : PG X e (uG X e) := ⟨fun pins s σ H v u Q I r ⟨g, h, q⟩ => h.run pins s σ H v u Q I r q⟩
def uT (X : Cx) (e : Expr) : TT := fun σ H Q => ∃ t, PT X e t ∧ t σ H Q
theorem uT_ok {X : Cx} {e : Expr} : PT X e (uT X e) := ⟨fun pins s σ H Q I ⟨t, h, q⟩ => h.run pins s σ H Q I q⟩
section
variable {Y : Ct} {γ γ' : List S} {M M1 M2 M3 : MM} {s s1 s2 s3 : S} {e a b c o : Expr} {pos p : Pos} {x : Str} {i j : Int} {b1 b2 : Bool} {es : List Expr} {ss : List S} {P : Po} {body : List Stmt}
/-! ### while -/
theorem s_while (hp : PassesOwn (model Y.X.prog Y.X.w) Y.X.A Y.X.env Y.X.xe) (W : Nat → List S → MM → Prop) (m0 : Nat) (h0 : W m0 γ M)
    (turn : ∀ m γ' M', W m γ' M' → ∃ b1 M1, ET Y c γ' M' b1 M1 ∧ (b1 = true → BL Y body γ' M1 { P with nx := fun γ2 M2 => ∃ m', m' < m ∧ W m' γ2 M2, ct := fun γ2 M2 => ∃ m', m' < m ∧ W m' γ2 M2, bk := P.nx }) ∧ (b1 = false → P.nx γ' M1)) :
    ST Y (.While c body [] pos) γ M P := by
  refine ⟨PS.imp (ps_while hp uT_ok uS_ok) fun D σ H ⟨F, r, q, ex⟩ => ?_⟩
  refine ⟨fun m σ' H' => ∃ γ' M' F', W m γ' M' ∧ Same F F' ∧ Rl Y.X.K γ' M' F' σ' H', ⟨m0, γ, M, F, h0, Same.refl F, r⟩, ?_⟩
  rintro m σ' H' ⟨γ', M', F', w, e1, r1⟩
  obtain ⟨b1, M1, hc, ht, hf⟩ := turn m γ' M' w
  refine ⟨_, hc.pt, F', r1, fun F2 H2 e2 r2 => ?_, ex.mono e1⟩
  cases b1 with
  | true =>
    refine iteT ?_
    refine ⟨fun σ3 H3 => ∃ m', m' < m ∧ ∃ γ' M' F', W m' γ' M' ∧ Same F F' ∧ Rl Y.X.K γ' M' F' σ3 H3, fun _ _ z => z, _, (ht rfl).ps, F2, r2, ⟨?_, ?_, ?_, ?_⟩, ex.mono (e1.trans e2)⟩
    · rintro γ3 M3 F3 σ3 H3 e3 r3 ⟨m', hm, w3⟩
      exact ⟨m', hm, γ3, M3, F3, w3, (e1.trans e2).trans e3, r3⟩
    · exact fun s M' F' v H' e3 => q.rt s M' F' v H' ((e1.trans e2).trans e3)
    · exact fun γ3 M3 F3 σ3 H3 e3 => q.nx γ3 M3 F3 σ3 H3 ((e1.trans e2).trans e3)
    · rintro γ3 M3 F3 σ3 H3 e3 r3 ⟨m', hm, w3⟩
      exact ⟨m', hm, γ3, M3, F3, w3, (e1.trans e2).trans e3, r3⟩
  | false =>
    refine iteF ?_
    exact q.nx γ' M1 F2 σ' H2 (e1.trans e2) r2 (hf rfl)

/-! ### for -/
/-- an iteration over the items xs, while the objects are as Sd says -/
structure Walks (K : PySem.W.Frag) (J : It) (F1 : Hp) (xs : List S) (Sd : MM → Prop) : Prop where
  go : ∀ i H' F' M', Same F1 F' → HM K F' M' H' → Sd M' → i < xs.length → J.go i H'
  yld : ∀ (i : Nat) H' v H'' x F' γ' M' σ', xs[i]? = some x → Same F1 F' → Rl K γ' M' F' σ' H' → Sd M' → J.yld i H' v H'' → ∃ F'', Same F' F'' ∧ Rl K γ' M' F'' σ' H'' ∧ SR K F'' v x
  stop : ∀ i H' F' M', Same F1 F' → HM K F' M' H' → Sd M' → xs.length ≤ i → J.stop i H'
structure EI (Y : Ct) (tg it : Expr) (γ : List S) (M : MM) (xs : List S) (Sd : MM → Prop) (M1 : MM) : Prop where
  ex : ∃ wi, PI Y.X tg it wi ∧ ∀ F σ H (R : It → Hp → Prop), Rl Y.X.K γ M F σ H → ExOk Y F → (∀ F1 H1 J, Same F F1 → Rl Y.X.K γ M1 F1 σ H1 → Walks Y.X.K J F1 xs Sd → R J H1) → wi σ H R
theorem s_for {tg it : Expr} {xs : List S} {Sd : MM → Prop} (hp : PassesOwn (model Y.X.prog Y.X.w) Y.X.A Y.X.env Y.X.xe) (hc : Y.X.calm = true) (hI : EI Y tg it γ M xs Sd M1) (Iv : Nat → List S → MM → Prop) (h0 : Iv 0 γ M1) (hS : ∀ i γ' M', Iv i γ' M' → Sd M')
    (hs : ∀ (i : Nat) x γ' M', xs[i]? = some x → Iv i γ' M' → ∃ γ2, GT Y tg γ' x M' γ2 ∧ BL Y body γ2 M' { P with nx := Iv (i + 1), ct := Iv (i + 1), bk := P.nx }) (hd : ∀ γ' M', Iv xs.length γ' M' → P.nx γ' M')
    (hf : ∀ x, foldedSetIterable it Y.X.env x = pure x := by intro _; rfl) : ST Y (.For tg it body [] pos) γ M P := by
  obtain ⟨wi, hw, run⟩ := hI.ex
  refine ⟨PS.imp (ps_for hp hc hw uG_ok uS_ok hf) fun D σ H ⟨F, r, q, ex⟩ => ?_⟩
  refine run F σ H _ r ex fun F1 H1 J e1 r1 Wk => ⟨fun i m σ' H' => m = xs.length - i ∧ i ≤ xs.length ∧ ∃ γ' M' F', Iv i γ' M' ∧ Same F1 F' ∧ Rl Y.X.K γ' M' F' σ' H', ⟨xs.length, by simp, Nat.zero_le _, γ, M1, F1, h0, Same.refl F1, r1⟩, ?_⟩
  rintro i m σ' H' ⟨rfl, hi, γ', M', F', w, e2, r2⟩
  by_cases hlt : i < xs.length
  · refine .inr ⟨Wk.go i H' F' M' e2 r2.hm (hS i γ' M' w) hlt, fun σ3 H3 => ∃ γ' M' F', Iv (i + 1) γ' M' ∧ Same F1 F' ∧ Rl Y.X.K γ' M' F' σ3 H3, fun σ3 H3 z => ⟨xs.length - (i + 1), by omega, rfl, hlt, z⟩, fun v H'' y => ?_⟩
    obtain ⟨x, hx⟩ : ∃ x, xs[i]? = some x := ⟨xs[i], by simp [hlt]⟩
    obtain ⟨γ2, hg, hb⟩ := hs i x γ' M' hx w
    obtain ⟨F2, e3, r3, sv⟩ := Wk.yld i H' v H'' x F' γ' M' σ' hx e2 r2 (hS i γ' M' w) y
    obtain ⟨gg, hpg, hq⟩ := hg.ex
    refine ⟨gg, hpg, hq F2 σ' H'' v _ r3 sv fun σ3 r4 => ⟨_, hb.ps, F2, r4, ⟨?_, ?_, ?_, ?_⟩, ex.mono ((e1.trans e2).trans e3)⟩⟩
    · exact fun γ5 M5 F5 σ5 H5 e5 r5 w5 => ⟨γ5, M5, F5, w5, (e2.trans e3).trans e5, r5⟩
    · exact fun s M' F' v H' e5 => q.rt s M' F' v H' (((e1.trans e2).trans e3).trans e5)
    · exact fun γ5 M5 F5 σ5 H5 e5 => q.nx γ5 M5 F5 σ5 H5 (((e1.trans e2).trans e3).trans e5)
    · exact fun γ5 M5 F5 σ5 H5 e5 r5 w5 => ⟨γ5, M5, F5, w5, (e2.trans e3).trans e5, r5⟩
  · have hil : i = xs.length := by omega
    subst hil
    exact .inl ⟨Wk.stop _ H' F' M' e2 r2.hm (hS _ γ' M' w) (Nat.le_refl _), q.nx γ' M' F' σ' H' (e1.trans e2) r2 (hd γ' M' w)⟩
theorem dps_getV {K : PySem.W.Frag} {F : Hp} : ∀ {vs : List V} {ds : List PyData} {j : Nat} {v : V}, DpAll K F vs ds → vs[j]? = some v → ∃ d, ds[j]? = some d ∧ Dp K F v d
  | _, [], _, _, h, e => by cases h; simp at e
  | _, _ :: _, 0, _, h, e => by cases h with | cons h1 h2 => simp at e; subst e; exact ⟨_, rfl, h1⟩
  | _, _ :: _, j + 1, d, h, e => by
    cases h with
    | cons h1 h2 =>
      obtain ⟨v, q1, q2⟩ := dps_getV (j := j) (v := d) h2 (by simpa using e)
      exact ⟨v, by simpa using q1, q2⟩
theorem pair_getL {α β : Type} {R : α → β → Prop} : ∀ {xs : List α} {ys : List β} {i : Nat} {x : α}, Paired R xs ys → xs[i]? = some x → ∃ y, ys[i]? = some y ∧ R x y
  | _, _, _, _, .nil, e => by simp at e
  | _, _, 0, _, .cons r _, e => by simp at e; subst e; exact ⟨_, rfl, r⟩
  | _, _, i + 1, y, .cons _ t, e => by
    obtain ⟨x, h1, h2⟩ := pair_getL (i := i) (x := y) t (by simpa using e)
    exact ⟨x, by simpa using h1, h2⟩
theorem walks_l {K : PySem.W.Frag} {F1 : Hp} {a : Addr} {vs : List V} {ds : List PyData} (h1 : SqL K F1 a vs) (h2 : DpAll K F1 vs ds) : Walks K (Itl K a) F1 (ds.map S.d) (fun _ => True) := by
  have hl : vs.length = (ds.map S.d).length := by rw [List.length_map]; exact dps_len h2
  refine ⟨fun i H' F' M' e hm _ hi => ?_, fun i H' v H'' x F' γ' M' σ' hx e r _ y => ?_, fun i H' F' M' e hm _ hi => ?_⟩
  · exact ⟨vs, vs[i]'(by omega), (e.trans hm.fh).seq h1, by simp⟩
  · obtain ⟨rfl, hv⟩ := y
    have e4 := hv vs ((e.trans r.hm.fh).seq h1)
    obtain ⟨d, hd, dp⟩ := dps_getV h2 e4
    rw [List.getElem?_map, hd] at hx
    cases hx
    exact ⟨F', Same.refl F', r, dp_mono e _ _ dp⟩
  · exact ⟨vs, (e.trans hm.fh).seq h1, by omega⟩
theorem walks_t {K : PySem.W.Frag} {F1 : Hp} {a : Addr} {vs : List V} {ds : List PyData} (h1 : SqT K F1 a vs) (h2 : DpAll K F1 vs ds) : Walks K (Itt K a) F1 (ds.map S.d) (fun _ => True) := by
  have hl : vs.length = (ds.map S.d).length := by rw [List.length_map]; exact dps_len h2
  refine ⟨fun i H' F' M' e hm _ hi => ?_, fun i H' v H'' x F' γ' M' σ' hx e r _ y => ?_, fun i H' F' M' e hm _ hi => ?_⟩
  · exact ⟨vs, vs[i]'(by omega), same_t (e.trans hm.fh) h1, by simp⟩
  · obtain ⟨rfl, hv⟩ := y
    have e4 := hv vs (same_t (e.trans r.hm.fh) h1)
    obtain ⟨d, hd, dp⟩ := dps_getV h2 e4
    rw [List.getElem?_map, hd] at hx
    cases hx
    exact ⟨F', Same.refl F', r, dp_mono e _ _ dp⟩
  · exact ⟨vs, same_t (e.trans hm.fh) h1, by omega⟩
/-- over a list of data -/
theorem i_list {tg it : Expr} {ds : List PyData} (h : EV Y it γ M (.d (.list ds)) M1) : EI Y tg it γ M (ds.map S.d) (fun _ => True) M1 :=
  ⟨_, pi_list h.pe, fun F σ H R r ex k => ⟨F, r, fun F1 v H1 e1 r1 v1 => by
    cases v1 with
    | lst h1 h2 => exact ⟨_, rfl, ⟨_, r1.hm.fh.seq h1⟩, k F1 H1 _ e1 r1 (walks_l h1 h2)⟩, ex⟩⟩
theorem i_tup {tg it : Expr} {ds : List PyData} (h : EV Y it γ M (.d (.tuple ds)) M1) : EI Y tg it γ M (ds.map S.d) (fun _ => True) M1 :=
  ⟨_, pi_tup h.pe, fun F σ H R r ex k => ⟨F, r, fun F1 v H1 e1 r1 v1 => by
    cases v1 with
    | tup h1 h2 => exact ⟨_, rfl, ⟨_, same_t r1.hm.fh h1⟩, k F1 H1 _ e1 r1 (walks_t h1 h2)⟩, ex⟩⟩
/-- over a list that might change, but stands while it is walked -/
theorem i_listM {tg it : Expr} {q : Addr} {xs : List S} (h : EV Y it γ M (.ob q) M1) {k : Nat} (hk : M1[k]? = some (q, .lst xs)) : EI Y tg it γ M xs (fun M' => ∃ k : Nat, M'[k]? = some (q, .lst xs)) M1 :=
  ⟨_, pi_list h.pe, fun F σ H R r ex kk => ⟨F, r, fun F1 v H1 e1 r1 v1 => by
    cases v1
    obtain ⟨_, vs, h1, h2⟩ := r1.hm.mo _ _ (List.mem_of_getElem? hk)
    refine ⟨q, rfl, ⟨vs, .of h1⟩, kk F1 H1 _ e1 r1 ⟨fun i H' F' M' e hm ⟨k', hk'⟩ hi => ?_, fun i H' v H'' x F' γ' M' σ' hx e r ⟨k', hk'⟩ y => ?_, fun i H' F' M' e hm ⟨k', hk'⟩ hi => ?_⟩⟩
    · obtain ⟨_, ws, g1, g2⟩ := hm.mo _ _ (List.mem_of_getElem? hk')
      have hl := pair_len g2
      exact ⟨ws, ws[i]'(by omega), .of g1, by simp⟩
    · obtain ⟨rfl, hv⟩ := y
      obtain ⟨_, ws, g1, g2⟩ := r.hm.mo _ _ (List.mem_of_getElem? hk')
      obtain ⟨u, hu, su⟩ := pair_get g2 hx
      have e4 := hv ws (.of g1)
      rw [hu] at e4
      cases e4
      exact ⟨F', Same.refl F', r, su⟩
    · obtain ⟨_, ws, g1, g2⟩ := hm.mo _ _ (List.mem_of_getElem? hk')
      have hl := pair_len g2
      exact ⟨ws, .of g1, by omega⟩, ex⟩⟩
end
end Mi

/-! Mi: ranges, stores into lists, errors. -/
namespace Mi
open PySem PySem.Spec PyProof.Rows L2
section
variable {Y : Ct} {γ γ' : List S} {M M1 M2 M3 : MM} {s s1 s2 s3 : S} {e a b c o it : Expr} {pos p p2 : Pos} {x : Str} {i j lo hi : Int} {b1 b2 : Bool} {es : List Expr} {ss : List S} {P : Po} {body : List Stmt} {tg : Expr}
/-! ### ranges -/
theorem walks_r {K : PySem.W.Frag} {F1 : Hp} {n : Nat} : Walks K (Itr lo n) F1 ((List.range n).map fun (k : Nat) => S.d (.int (lo + (k : Int)))) (fun _ => True) := by
  refine ⟨fun i H' F' M' e hm _ hi => ?_, fun i H' v H'' x F' γ' M' σ' hx e r _ y => ?_, fun i H' F' M' e hm _ hi => ?_⟩
  · rw [List.length_map, List.length_range] at hi
    exact hi
  · obtain ⟨rfl, rfl⟩ := y
    rw [List.getElem?_map] at hx
    cases e5 : (List.range n)[i]? with
    | none => rw [e5] at hx; cases hx
    | some k =>
      rw [e5] at hx
      cases hx
      obtain ⟨h6, h7⟩ := List.getElem?_eq_some_iff.mp e5
      rw [List.getElem_range] at h7
      subst h7
      exact ⟨F', Same.refl F', r, Dp.int _⟩
  · rw [List.length_map, List.length_range] at hi
    exact hi
theorem i_range1 (hg : Gl Y.X "range" := by rfl) (hm : Y.X.mg "range" = none) (ha : EA Y [a] γ M [.d (.int hi)] M1) (hb : hi < 2 ^ 62 ∧ -(2 ^ 62) ≤ hi) (hs : starEach [a] Y.X.env = [(false, eval a Y.X.env)] := by rfl) :
    EI Y tg (.Call (.Name "range" p) [a] [] pos) γ M ((List.range hi.toNat).map fun (k : Nat) => S.d (.int (0 + (k : Int)))) (fun _ => True) M1 :=
  ⟨_, pi_range1 hg hm ha.pa hs, fun F σ H R r ex k => ⟨F, r, fun F1 vs H1 e1 r1 v1 => by
    obtain ⟨v, rfl, h1⟩ := pair_one v1
    cases h1
    exact ⟨hi, rfl, hb.2, hb.1, k F1 H1 _ e1 r1 walks_r⟩, ex⟩⟩
theorem i_range2 (hg : Gl Y.X "range" := by rfl) (hm : Y.X.mg "range" = none) (ha : EA Y [a, b] γ M [.d (.int lo), .d (.int hi)] M1) (hb : -(2 ^ 62) ≤ lo ∧ lo < 2 ^ 62 ∧ -(2 ^ 62) ≤ hi ∧ hi < 2 ^ 62) (hs : starEach [a, b] Y.X.env = [(false, eval a Y.X.env), (false, eval b Y.X.env)] := by rfl) (hs2 : starEach [b] Y.X.env = [(false, eval b Y.X.env)] := by rfl) :
    EI Y tg (.Call (.Name "range" p) [a, b] [] pos) γ M ((List.range (hi - lo).toNat).map fun (k : Nat) => S.d (.int (lo + (k : Int)))) (fun _ => True) M1 :=
  ⟨_, pi_range2 hg hm ha.pa hs hs2, fun F σ H R r ex k => ⟨F, r, fun F1 vs H1 e1 r1 v1 => by
    obtain ⟨v, w, rfl, h1, h2⟩ := pair_two v1
    cases h1; cases h2
    exact ⟨lo, hi, rfl, hb, k F1 H1 _ e1 r1 walks_r⟩, ex⟩⟩

/-! ### stores into lists -/
theorem e_append {k : Nat} {q : Addr} {xs : List S} {apos : Pos} (ho : EV Y o γ M (.ob q) M1) (he : EA Y [e] γ M1 [s] M2) (hk : M2[k]? = some (q, .lst xs)) (hl : xs.length < 100000) (hk1 : ∃ (k1 : Nat) (ys : List S), M1[k1]? = some (q, MO.lst ys))
    (hbase : attributeBase o "append" Y.X.env (eval o Y.X.env) = eval o Y.X.env := by rfl)
    (hfew : ((backTo pos (starEach [e] Y.X.env)).all (fun x => !x.1) && (backToKw pos (keywordEach [] Y.X.env)).all (fun x => x.1.isSome)
      && decide ([e].length + ([] : List Keyword).length + (if ([] : List Keyword).isEmpty then 0 else 1) < 30)) = true := by rfl)
    (hline : (apos.endLine == pos.line) = true := by rfl) (hs : starEach [e] Y.X.env = (false, eval e Y.X.env) :: starEach [] Y.X.env := by rfl) (hplain : (backTo pos (starEach [] Y.X.env)).any (·.1) = false := by rfl) :
    EV Y (.Call (.Attribute o "append" apos) [e] [] pos) γ M (.d .none) (M2.set k (q, .lst (xs ++ [s]))) :=
  ⟨PE.imp (pe_bm PySem.F.plainAttrs_list PySem.F.slot_list_append PySem.F.type_list_append mt_append ho.pe he.pa hbase hfew hline hs hplain) fun σ H Q ⟨F, r, qq, ex⟩ => ⟨F, r, fun F1 v H1 e1 r1 v1 => by
    cases v1
    obtain ⟨k1, ys, hk1⟩ := hk1
    obtain ⟨_, ws, g1, _⟩ := r1.hm.mo _ _ (List.mem_of_getElem? hk1)
    refine ⟨Or.inl ⟨rfl, ws, .of g1⟩, F1, r1, fun F2 vs H2 e2 r2 v2 => ?_, ex.mono e1⟩
    obtain ⟨v, rfl, sv⟩ := pair_one v2
    obtain ⟨_, us, f1, f2⟩ := r2.hm.mo _ _ (List.mem_of_getElem? hk)
    refine ⟨q, us, v, rfl, rfl, f1, by rw [pair_len f2]; exact Nat.lt_of_lt_of_le hl (by decide), ?_⟩
    have hM := r2.hm.setM hk (o := .lst (us ++ [v])) (m := .lst (xs ++ [s])) ⟨_, upd_same, pair_app f2 (.cons sv .nil)⟩
    exact qq F2 .non _ (e1.trans e2) ⟨hM, r2.sl⟩ Dp.non, ex⟩⟩
/-- o[i] = e -/
theorem s_setI {k jj : Nat} {q : Addr} {xs : List S} {tp : Pos} (he : EV Y e γ M s M1) (ho : EV Y o γ M1 (.ob q) M2) (hi : EV Y a γ M2 (.d (.int j)) M3) (hk : M3[k]? = some (q, .lst xs)) (hj : ixN xs.length j = some jj) (kk : P.nx γ (M3.set k (q, .lst (xs.set jj s))))
    (hs : swapsWithSole [.Subscript o a tp] e pos.line Y.X.env = pure false := by rfl) (hw : swappedStores [.Subscript o a tp] e Y.X.env = pure none := by rfl)
    (h1 : (assignEach [.Subscript o a tp] Y.X.env).map (·.2) = [assign (.Subscript o a tp) Y.X.env] := by rfl)
    (ha : ∀ v, assign (.Subscript o a tp) Y.X.env v = (do
      let ov ← holding [v] (eval o Y.X.env)
      let iv ← holding [v, ov] (eval a Y.X.env)
      standAt tp
      holding [v, ov, iv] (setItem ov iv v)
      release [v, ov, iv] []) := by intro _; rfl) : ST Y (.Assign [.Subscript o a tp] e pos) γ M P :=
  ⟨PS.imp (ps_asg he.pe (pg_sub ho.pe hi.pe set_list ha) hs hw h1) fun D σ H ⟨F, r, qq, ex⟩ => ⟨F, r, fun F1 v H1 e1 r1 v1 => ⟨F1, r1, fun F2 v2 H2 e2 r2 sv2 => ⟨F2, r2, fun F3 v3 H3 e3 r3 sv3 => by
    cases sv2; cases sv3
    obtain ⟨_, us, f1, f2⟩ := r3.hm.mo _ _ (List.mem_of_getElem? hk)
    refine ⟨q, us, j, jj, rfl, rfl, f1, by rw [pair_len f2]; exact hj, ?_⟩
    have hM := r3.hm.setM hk (o := .lst (us.set jj v)) (m := .lst (xs.set jj s)) ⟨_, upd_same, pair_set ((v1.mono e2).mono e3) jj f2⟩
    exact qq.nx γ _ F3 σ _ ((e1.trans e2).trans e3) ⟨hM, r3.sl⟩ kk, (ex.mono e1).mono e2⟩, ex.mono e1⟩, ex⟩⟩

/-! ### errors -/
/-- raise X('..'), X an own class over ValueError without an __init__ -/
theorem s_raise {C : Addr} {m : Str} {k : Nat} {bmB : List Value} {B newId initId : String} (hc : Y.X.calm = true) (tk : Takes Y.X Y.Er) (Fc : ExcBaseFacts B newId initId bmB) (q : PySem.W.excIn Y.X.K C bmB newId = true) (gC : Y.X.mg x = some (.ref C)) (kC : PySem.W.keepIn Y.X.K (.ref C) = true)
    (r : Raises Y.X (.ref C)) (hx : Y.Rx (.ref C) γ M) (hg : Gl Y.X x := by rfl) (hdb : (x == ("__debug__" : Str)) = false := by decide) : ST Y (.Raise (some (.Call (.Name x p) [.Constant (.str m) k p2] [] pos)) none tp) γ M P :=
  ⟨PS.imp (ps_raise hc tk (pmk_own Fc q gC kC r hg hdb)) fun D σ H ⟨F, r, qq, ex⟩ => ex _ γ M F σ H (Same.refl F) r hx⟩

/-- try: body except X as n: suite -/
theorem s_tryAs {n : Str} {cv : Value} {i : Nat} {suite : List Stmt} {b₀ : Stmt} {np pos' : Pos} (hs : Y.X.stack = Y.X.env :: Y.X.outer) (hf : Y.X.env.frame = some Y.X.env.locals) (hN : Y.X.N.Nodup) (hi : Y.X.N[i]? = some n) (hln : Y.X.env.kindOf n = some .local) (hc : Names Y.X x cv) (tk : Takes Y.X Y.Er)
    (hb : ∀ (W : WX) (pn : List (Addr × Obj)) (xe : Value → Shared → Prop), Takes (Y.X.tr pn xe) W → PassesOwn (model Y.X.prog Y.X.w) Y.X.A Y.X.env xe →
      BL ⟨Y.X.tr pn xe, W, fun cls γ' M' => ∃ b1, PySem.W.exmOne Y.X.K (xcl cls).1 cv = some b1 ∧ (b1 = true → ∀ (a : Addr) (oe : Obj) (pn : List (Addr × Obj)), Zc (xcl cls).1 (xcl cls).2 oe → (∃ vs, oe.data = .fields vs) →
          BL ⟨Y.X.suite a ((a, oe) :: pn), fun _ _ _ _ => False, fun _ _ _ => False⟩ (b₀ :: suite) (γ'.set i (.ob a)) M' { P with nx := fun γ2 M2 => P.nx (γ2.set i .no) M2, bk := fun γ2 M2 => P.bk (γ2.set i .no) M2, ct := fun γ2 M2 => P.ct (γ2.set i .no) M2 }) ∧
        (b1 = false → Y.Rx cls γ' M')⟩ body γ M P) :
    ST Y (.Try body [.ExceptHandler (some (.Name x np)) (some n) (b₀ :: suite) pos'] [] [] pos) γ M P := by
  let Rx' : Value → List S → MM → Prop := fun cls γ' M' => ∃ b1, PySem.W.exmOne Y.X.K (xcl cls).1 cv = some b1 ∧ (b1 = true → ∀ (a : Addr) (oe : Obj) (pn : List (Addr × Obj)), Zc (xcl cls).1 (xcl cls).2 oe → (∃ vs, oe.data = .fields vs) →
          BL ⟨Y.X.suite a ((a, oe) :: pn), fun _ _ _ _ => False, fun _ _ _ => False⟩ (b₀ :: suite) (γ'.set i (.ob a)) M' { P with nx := fun γ2 M2 => P.nx (γ2.set i .no) M2, bk := fun γ2 M2 => P.bk (γ2.set i .no) M2, ct := fun γ2 M2 => P.ct (γ2.set i .no) M2 }) ∧
        (b1 = false → Y.Rx cls γ' M')
  let ts : Addr → Value → Option Addr → TS := fun a cls d D σ H => ∃ γ2 M2 P2, (∀ (oe : Obj) (pn : List (Addr × Obj)), Zc cls d oe → (∃ vs, oe.data = .fields vs) → BL ⟨Y.X.suite a ((a, oe) :: pn), fun _ _ _ _ => False, fun _ _ _ => False⟩ (b₀ :: suite) γ2 M2 P2) ∧ tB' ⟨Y.X, fun _ _ _ _ => False, fun _ _ _ => False⟩ γ2 M2 P2 D σ H
  have hsu : ∀ (a : Addr) (oe : Obj) (cls : Value) (d : Option Addr) (pn : List (Addr × Obj)), Zc cls d oe → (∃ vs, oe.data = .fields vs) → PSs (Y.X.suite a ((a, oe) :: pn)) (b₀ :: suite) (ts a cls d) :=
    fun a oe cls d pn hz hf => ⟨fun pins s σ H D I ⟨γ2, M2, P2, h, t⟩ => (h oe pn hz hf).ps.run pins s σ H D I t⟩
  refine ⟨PS.imp (ps_try_as (tb := fun W => tB' ⟨Y.X, W, Rx'⟩ γ M P) (ts := ts) (Wout := Y.Er) hs hf hN hi hln hc tk (fun W pn xe t po => (hb W pn xe t po).ps) hsu) fun D σ H ⟨F, r, q, ex⟩ => ?_⟩
  refine ⟨F, r, ⟨q.nx, q.rt, q.bk, q.ct⟩, fun cls γ' M' F' σ' H' e1 r1 ⟨b1, h1, h2, h3⟩ => ⟨b1, h1, fun hb1 a ha => ?_, fun hb1 => ex cls γ' M' F' σ' H' e1 r1 (h3 hb1)⟩⟩
  refine ⟨γ'.set i (.ob a), M', _, fun oe pn hz hf => h2 hb1 a oe pn hz hf, F', ⟨r1.hm, pair_set (sr_or (s := .ob a) rfl) i r1.sl⟩, ⟨?_, ?_, ?_, ?_⟩, fun _ _ _ _ _ _ _ _ z => z.elim⟩
  · exact fun γ3 M3 F3 σ3 H3 e3 r3 z => q.nx _ M3 F3 _ H3 (e1.trans e3) ⟨r3.hm, pair_set (R := OR Y.X.K F3) (y := S.no) trivial i r3.sl⟩ z
  · exact fun s M3 F3 v H3 e3 => q.rt s M3 F3 v H3 (e1.trans e3)
  · exact fun γ3 M3 F3 σ3 H3 e3 r3 z => q.bk _ M3 F3 _ H3 (e1.trans e3) ⟨r3.hm, pair_set (R := OR Y.X.K F3) (y := S.no) trivial i r3.sl⟩ z
  · exact fun γ3 M3 F3 σ3 H3 e3 r3 z => q.ct _ M3 F3 _ H3 (e1.trans e3) ⟨r3.hm, pair_set (R := OR Y.X.K F3) (y := S.no) trivial i r3.sl⟩ z
end
end Mi

/-! Mi: isinstance, the law's end. -/
namespace Mi
open PySem PySem.Spec PyProof.Rows L2
section
variable {Y : Ct} {γ γ' : List S} {M M1 M2 M3 : MM} {s s1 s2 s3 : S} {e a b c o it : Expr} {pos p p2 : Pos} {x : Str} {i j lo hi : Int} {b1 b2 : Bool} {es : List Expr} {ss : List S} {P : Po} {body : List Stmt} {tg : Expr}
/-! ### classes, isinstance -/
theorem e_ty {n : String} (hg : Gl Y.X x) (hm : Y.X.mg x = none) (hv : bootBuiltins x = some (.type n)) (hn : x ≠ "__name__" := by decide) (hd : (x == ("__debug__" : Str)) = false := by decide) : EV Y (.Name x pos) γ M (.ty n) M :=
  ⟨PE.imp (pe_bltn (v := .ty n) hg hm hv rfl hn hd) fun σ H Q ⟨F, r, q, _⟩ => q F _ H (Same.refl F) r rfl⟩
def tyD : PyData → String
  | .none => "NoneType"
  | .bool _ => "bool"
  | .int _ => "int"
  | .str _ => "str"
  | .list _ => "list"
  | .tuple _ => "tuple"
  | .dict _ => "dict"
theorem dp_ty {K : PySem.W.Frag} {H : Hp} {v : V} {d : PyData} (h : Dp K H v d) : TyX K H v (.type (tyD d)) := by
  cases h with
  | non => exact .base .non
  | bl b => exact .base (.bl b)
  | int i => exact .base (.int i)
  | str x => exact .base (.str x)
  | lst h1 h2 =>
    rcases h1 with (h1 | ⟨oo, h1⟩) | ⟨oo, its, n, h1, h3, _⟩
    · exact .base (.lst h1)
    · exact .base (.frz h1)
    · exact .kList h1 h3
  | tup h1 h2 =>
    rcases h1 with (h1 | ⟨oo, h1⟩) | ⟨oo, its, n, h1, h3, _⟩
    · exact .base (.tup h1)
    · exact .fTuple h1
    · exact .kTuple h1 h3
/-- isinstance(data, built-in type) -/
theorem e_isi {d : PyData} {n : String} (hg : Gl Y.X "isinstance" := by rfl) (hm : Y.X.mg "isinstance" = none) (ha : EA Y (e :: es) γ M [s, .ty n] M1) (hv : Vw M1 s d) (h : kitB (tyD d) n = some b1)
    (he : starEach (e :: es) Y.X.env = (false, eval e Y.X.env) :: starEach es Y.X.env := by rfl) (hpl : (backTo pos (starEach es Y.X.env)).any (·.1) = false := by rfl) : EV Y (.Call (.Name "isinstance" p) (e :: es) [] pos) γ M (.d (.bool b1)) M1 :=
  e_callB call_isi hg hm (by decide +kernel) ha (he := he) (hpl := hpl) (hr := ⟨fun F vs H Q hm' g q => by
    obtain ⟨v, w, rfl, g1, g2⟩ := pair_two g
    cases g2
    exact ⟨v, .ty n, _, _, b1, rfl, .ty n, dp_ty (hv.ok hm' g1), kit_ty h, q F _ H (Same.refl F) hm' (.bl _)⟩⟩)
theorem k_NoneType_int : kitB "NoneType" "int" = some false := by decide +kernel
theorem k_NoneType_bool : kitB "NoneType" "bool" = some false := by decide +kernel
theorem k_NoneType_tuple : kitB "NoneType" "tuple" = some false := by decide +kernel
theorem k_NoneType_list : kitB "NoneType" "list" = some false := by decide +kernel
theorem k_NoneType_str : kitB "NoneType" "str" = some false := by decide +kernel
theorem k_bool_int : kitB "bool" "int" = some true := by decide +kernel
theorem k_bool_bool : kitB "bool" "bool" = some true := by decide +kernel
theorem k_bool_tuple : kitB "bool" "tuple" = some false := by decide +kernel
theorem k_bool_list : kitB "bool" "list" = some false := by decide +kernel
theorem k_bool_str : kitB "bool" "str" = some false := by decide +kernel
theorem k_int_int : kitB "int" "int" = some true := by decide +kernel
theorem k_int_bool : kitB "int" "bool" = some false := by decide +kernel
theorem k_int_tuple : kitB "int" "tuple" = some false := by decide +kernel
theorem k_int_list : kitB "int" "list" = some false := by decide +kernel
theorem k_int_str : kitB "int" "str" = some false := by decide +kernel
theorem k_str_int : kitB "str" "int" = some false := by decide +kernel
theorem k_str_bool : kitB "str" "bool" = some false := by decide +kernel
theorem k_str_tuple : kitB "str" "tuple" = some false := by decide +kernel
theorem k_str_list : kitB "str" "list" = some false := by decide +kernel
theorem k_str_str : kitB "str" "str" = some true := by decide +kernel
theorem k_list_int : kitB "list" "int" = some false := by decide +kernel
theorem k_list_bool : kitB "list" "bool" = some false := by decide +kernel
theorem k_list_tuple : kitB "list" "tuple" = some false := by decide +kernel
theorem k_list_list : kitB "list" "list" = some true := by decide +kernel
theorem k_list_str : kitB "list" "str" = some false := by decide +kernel
theorem k_tuple_int : kitB "tuple" "int" = some false := by decide +kernel
theorem k_tuple_bool : kitB "tuple" "bool" = some false := by decide +kernel
theorem k_tuple_tuple : kitB "tuple" "tuple" = some true := by decide +kernel
theorem k_tuple_list : kitB "tuple" "list" = some false := by decide +kernel
theorem k_tuple_str : kitB "tuple" "str" = some false := by decide +kernel
/-- isinstance of an error that a suite holds: one class -/
inductive ClS : S → Value → Prop where
  | ty (n : String) : ClS (.ty n) (.type n)
  | own (C : Addr) : ClS (.ob C) (.ref C)
theorem ClS.rel {K : PySem.W.Frag} {F : Hp} {v : V} {u w : Value} (k : ClS s w) (h : SR K F v s) (r : RelV v u) : u = w := by
  cases k with
  | ty n => cases h; exact r
  | own C => cases h; exact r
theorem e_isE {X : Cx} {Er : WX} {Rx : Value → List S → MM → Prop} {q D : Addr} {oe : Obj} {pn : List (Addr × Obj)} {cv : Value} (C : ExcC X.K D) (hz : Zc (.ref D) none oe) (hf : ∃ vs, oe.data = .fields vs) (hg : Gl X "isinstance" := by rfl) (hm : X.mg "isinstance" = none)
    (ha : EA ⟨X.suite q ((q, oe) :: pn), Er, Rx⟩ (e :: es) γ M [.ob q, s] M1) (hc : ClS s cv) (h : PySem.W.kitOne X.K (.ref D) cv = some b1)
    (he : starEach (e :: es) X.env = (false, eval e X.env) :: starEach es X.env := by rfl) (hpl : (backTo pos (starEach es X.env)).any (·.1) = false := by rfl) : EV ⟨X.suite q ((q, oe) :: pn), Er, Rx⟩ (.Call (.Name "isinstance" p) (e :: es) [] pos) γ M (.d (.bool b1)) M1 :=
  e_callB (call_isE C hz hf) hg hm (by decide +kernel) ha (he := he) (hpl := hpl) (hr := ⟨fun F vs H Q hm' g qq => by
    obtain ⟨v, w, rfl, g1, g2⟩ := pair_two g
    cases g1
    exact ⟨w, cv, b1, rfl, fun u r => hc.rel g2 r, h, qq F _ H (Same.refl F) hm' (.bl _)⟩⟩)
/-- .. one of several classes, written as a tuple -/
def rIsET (K : PySem.W.Frag) (D a : Addr) : List V → Hp → VK → Prop := fun xs H Q => ∃ (tp : Addr) (cs : List V) (us : List Value) (b : Bool), xs = [.ref a, .ref tp] ∧ H tp = some (.tup cs) ∧ Paired ClsV cs us ∧ PySem.W.kitAny K (.ref D) us = some b ∧ Q (.bl b) H
theorem call_isET {X : Cx} {a D : Addr} {oe : Obj} {pn : List (Addr × Obj)} (C : ExcC X.K D) (hz : Zc (.ref D) none oe) (hf : ∃ vs, oe.data = .fields vs) : CallR (X.suite a ((a, oe) :: pn)) (.builtin "isinstance") (rIsET X.K D a) := by
  intro pins s σ H xs us Q I r h
  obtain ⟨tp, cs, ws, b, rfl, hT, k, e, q⟩ := h
  obtain ⟨u1, u2, rfl, rx, rt⟩ := vals2 r
  cases rx
  cases (show u2 = Value.ref tp from rt)
  obtain ⟨_, its, rv, o, h1, h2, n, h3⟩ := (show ObjOk X.prog X.w H s.heap tp (.tup cs) from I.hok tp _ hT)
  have e3 := ClsV.all k rv
  subst e3
  obtain ⟨hget, _⟩ := I.pin (a, oe) (List.mem_append.mpr (.inl List.mem_cons_self))
  obtain ⟨vs, hv⟩ := hf
  have J : PySem.W.InstAt s.heap a oe D none := by
    obtain ⟨oc, od, oda, osl⟩ := oe
    obtain ⟨h1, h2⟩ := hz
    dsimp only at h1 h2 hv
    subst h1 h2 hv
    exact ⟨hget, rfl, rfl, trivial⟩
  obtain ⟨oc, od, dt, sl⟩ := o
  simp only at h2 h3
  subst h2 h3
  exact PySem.W.kia_tup (PySem.W.handS_kitx_exc C.hg C.hk C.hs C.hd C.ha C.hn C.ht C.hm) I.kIn J h1 e (fun z => nomatch z) fun tk => ⟨.bl b, H, I.kept (t' := tk) fun _ _ z => z, rfl, q⟩
/-- a tuple of classes, written as the second argument -/
theorem cls_pair {K : PySem.W.Frag} {F : Hp} : ∀ {vs : List V} {ss : List S} {us : List Value}, Paired (SR K F) vs ss → Paired ClS ss us → Paired ClsV vs us
  | _, _, _, .nil, .nil => .nil
  | _, _, _, .cons h t, .cons k r => .cons (by
      cases k with
      | ty n => cases h; exact .ty n
      | own C => cases h; exact .own C) (cls_pair t r)
theorem e_isET {X : Cx} {Er : WX} {Rx : Value → List S → MM → Prop} {q D : Addr} {oe : Obj} {pn : List (Addr × Obj)} {cvs : List Value} {ces : List Expr} {k : Nat} {tp : Pos} (C : ExcC X.K D) (hz : Zc (.ref D) none oe) (hf : ∃ vs, oe.data = .fields vs) (hg : Gl X "isinstance" := by rfl) (hm : X.mg "isinstance" = none)
    (h0 : EV ⟨X.suite q ((q, oe) :: pn), Er, Rx⟩ e γ M (.ob q) M1) (ha : EA ⟨X.suite q ((q, oe) :: pn), Er, Rx⟩ ces γ M1 ss M2) (hc : Paired ClS ss cvs) (h : PySem.W.kitAny X.K (.ref D) cvs = some b1) (hn : Nat.ble ss.length 100000 = true := by rfl)
    (he : starEach [e, .Tuple ces k tp] X.env = (false, eval e X.env) :: starEach [.Tuple ces k tp] X.env := by rfl) (he2 : starEach [.Tuple ces k tp] X.env = (false, eval (.Tuple ces k tp) X.env) :: starEach [] X.env := by rfl) (hpl : (backTo pos (starEach [.Tuple ces k tp] X.env)).any (·.1) = false := by rfl) :
    EV ⟨X.suite q ((q, oe) :: pn), Er, Rx⟩ (.Call (.Name "isinstance" p) [e, .Tuple ces k tp] [] pos) γ M (.d (.bool b1)) M2 :=
  ⟨PE.imp (pe_callB (X := X.suite q ((q, oe) :: pn)) (call_isET C hz hf) hg hm (by decide +kernel) (pa_cons h0.pe (pa_cons (pe_tup ha.pa) pa_nil he2) he) (by decide) (by decide) he hpl) fun σ H Q ⟨F, r, qq, ex⟩ => ⟨F, r, fun F1 v H1 e1 r1 v1 => ⟨F1, r1, fun F2 vs H2 e2 r2 v2 => by
    cases v1
    refine ⟨by rw [pair_len v2]; exact small hn, fun p hp => ?_⟩
    obtain ⟨e3, h3⟩ := r2.hm.newF hp (.tup vs)
    exact ⟨p, vs, cvs, b1, rfl, upd_same, cls_pair v2 hc, h, qq _ _ _ ((e1.trans e2).trans e3) (r2.ext e3 h3) (.bl _)⟩, ex.mono e1⟩, ex⟩⟩
end
theorem kit_own {K : PySem.W.Frag} {t : Value} {C : Addr} {b : Bool} (hne : (t == Value.ref C) = false ∨ b = true) (h1 : PySem.W.hasDictIn K C = true) (h2 : PySem.W.typeIn K (.ref C) = some (.type "type")) (h3 : PySem.W.subIn K t (.ref C) = some b) : PySem.W.kitOne K t (.ref C) = some b := by
  obtain ⟨cd, hc, _⟩ := PySem.W.any_some h1
  have e2 : ((PySem.W.clsIn K C).isSome && PySem.W.typeIn K (.ref C) == some (.type "type")) = true := by rw [hc, h2] <;> rfl
  unfold PySem.W.kitOne
  split
  · rename_i q
    rcases hne with z | z
    · rw [z] at q; cases q
    · rw [z]
  · show (if ((PySem.W.clsIn K C).isSome && PySem.W.typeIn K (.ref C) == some (.type "type")) = true then PySem.W.subIn K t (.ref C) else none) = some b
    rw [if_pos e2]
    exact h3
theorem kit_blt {K : PySem.W.Frag} {C : Addr} {n : String} {b : Bool} (h2 : PySem.W.kitMeta n = true) (h3 : PySem.W.subIn K (.ref C) (.type n) = some b) : PySem.W.kitOne K (.ref C) (.type n) = some b := by
  unfold PySem.W.kitOne
  rw [if_neg (show ¬ ((Value.ref C == Value.type n) = true) from fun z => nomatch z)]
  show (if PySem.W.kitMeta n = true then PySem.W.subIn K (.ref C) (.type n) else none) = some b
  rw [if_pos h2]
  exact h3
/-! ### the end -/
def lawC : Con := fun ss M R _ => ∃ ns : List Int, ss = [.d (.list (ns.map PyData.int))] ∧ ns.length ≤ 63 ∧ (∀ z ∈ ns, Builtin.Int.intBits z ≤ 1048576) ∧ ∀ M', R (.d (.bool true)) M'
theorem dps_ints {K : PySem.W.Frag} {H : Hp} : ∀ ns : List Int, DpAll K H (ns.map V.int) (ns.map PyData.int)
  | [] => .nil
  | n :: ns => .cons (.int n) (dps_ints ns)
theorem walkD {l : PySem.W.OpenLaw} {k : Nat} {q : Program} {loose : List Str} {XP : (Str → Option Value) → Heap → Prop} {YP : World → Heap → Prop} {d : DefRec} {K : Params → PySem.W.Frag} {x : Str}
    (hn : l.most = some 63) (hdf : d.params.defaults = []) (hr : Room k callerA) (hY : ∀ (w : World) (h : Heap), YP w h → (K w.params).In h)
    (F : ∀ (w : World) (mg : Str → Option Value) (fa : Addr) (h : Heap), (K w.params).In h → h.Ns mainGlobals mg → mg d.name = some (.ref fa) →
      ∃ fd : FuncData, (∀ (s : Shared) (u : Value), BindsTo s fd ⟨[u], []⟩ [(x, u)]) ∧ ∀ base : Heap, (K w.params).In base → base.Ns mainGlobals mg → FnOk l.prog w (K w.params) mg base (L2.CX l.prog w) k fa fd [x] (spD (K w.params) lawC)) :
    PySem.W.WalkO q loose XP YP l.row.toRowW d [] (fun f vs => PySem.call f vs) := by
  refine L2.walk_ofB (n := 63) (k := k) (x := x) (CX := fun w => L2.CX l.prog w) (sp := fun w => spD (K w.params) lawC) hn (by decide) hdf hr hY F (fun w H a ns hl hb _ hS => ?_) (fun w H s e s' z => ?_)
  · exact ⟨H, [], [.d (.list (ns.map PyData.int))], fun s _ => s = .d (.bool true), fun _ _ => False, .cons (.lst hS (dps_ints ns)) .nil, ⟨Same.refl H, fun _ _ z => (nomatch z), List.nodup_nil⟩, ⟨ns, rfl, hl, hb, fun _ => rfl⟩,
      fun F' v r M' H' _ _ sr hR => by subst hR; cases sr; rfl, fun _ _ _ _ _ _ z => z.elim⟩
  · obtain ⟨_, _, _, _, _, _, _, _, _, _, _, _, z⟩ := z
    exact z.elim
end Mi

/-! Mi: answers that are not told by one term; fractions. -/
namespace Mi
open PySem PySem.Spec PyProof.Rows L2
section
variable {Y : Ct} {γ γ' : List S} {M M1 M2 M3 : MM} {s s1 s2 s3 : S} {e a b c o it : Expr} {pos p p2 : Pos} {x : Str} {i j lo hi : Int} {b1 b2 : Bool} {es : List Expr} {ss : List S} {P : Po} {body : List Stmt} {tg : Expr}
/-- e comes to some s, the objects to some M', of which Q -/
def tEQ (Y : Ct) (γ : List S) (M : MM) (Q : S → MM → Prop) : TE := fun σ H R => ∃ F, Rl Y.X.K γ M F σ H ∧ (∀ F' v s M' H', Same F F' → Rl Y.X.K γ M' F' σ H' → SR Y.X.K F' v s → Q s M' → R v H') ∧ ExOk Y F
structure EQ (Y : Ct) (e : Expr) (γ : List S) (M : MM) (Q : S → MM → Prop) : Prop where
  pe : PE Y.X e (tEQ Y γ M Q)
variable {Q : S → MM → Prop}
theorem EV.q (h : EV Y e γ M s M1) (k : Q s M1) : EQ Y e γ M Q := ⟨PE.imp h.pe fun σ H R ⟨F, r, q, ex⟩ => ⟨F, r, fun F1 v H1 e1 r1 v1 => q F1 v s M1 H1 e1 r1 v1 k, ex⟩⟩
theorem EN.q {o : MO} (h : EN Y e γ M o M1) (k : ∀ q, Q (.ob q) (M1 ++ [(q, o)])) : EQ Y e γ M Q := ⟨PE.imp h.pe fun σ H R ⟨F, r, q, ex⟩ => ⟨F, r, fun F1 p H1 e1 r1 => q F1 _ (.ob p) _ H1 e1 r1 rfl (k p), ex⟩⟩
theorem q_call {k : Nat} {f : Addr} {fd : FuncData} {ps : List Str} {cn : Con} (G : FnOk Y.X.prog Y.X.w Y.X.K Y.X.mg Y.X.base (L2.CX Y.X.prog Y.X.w) k f fd ps (spD Y.X.K cn)) (hr : Room k Y.X.A) (hm : Y.X.mg x = some (.ref f)) (hk : PySem.W.keepIn Y.X.K (.ref f) = true) (hb : Binds Y.X.K fd ps [])
    (tk : Takes Y.X Y.Er) (ha : EA Y (e :: es) γ M ss M1) (h : cn ss M1 Q (fun cls M' => Y.Rx cls γ M')) (hg : Gl Y.X x := by rfl) (hdb : (x == ("__debug__" : Str)) = false := by decide)
    (he : starEach (e :: es) Y.X.env = (false, eval e Y.X.env) :: starEach es Y.X.env := by rfl) (hpl : (backTo pos (starEach es Y.X.env)).any (·.1) = false := by rfl) : EQ Y (.Call (.Name x p) (e :: es) [] pos) γ M Q :=
  ⟨PE.imp (pe_callS G hr hg hm hk hb (fun σ => passAt tk σ) ha.pa hdb he hpl) fun σ H R ⟨F, rl, q, ex⟩ => ⟨F, rl, fun F1 vs H1 e1 r1 v1 => by
    refine ⟨F1, M1, ss, _, _, v1, r1.hm, h, fun F' v r M' H' e2 h2 v2 hR => ?_, fun cls M' F' H' e2 h2 hR => ex cls γ M' F' σ H' (e1.trans e2) (r1.ext e2 h2) hR⟩
    exact q F' v r M' H' (e1.trans e2) (r1.ext e2 h2) v2 hR, ex⟩⟩
/-- .. its arguments such a one, alone -/
theorem q_call1 {k : Nat} {f : Addr} {fd : FuncData} {ps : List Str} {cn : Con} (G : FnOk Y.X.prog Y.X.w Y.X.K Y.X.mg Y.X.base (L2.CX Y.X.prog Y.X.w) k f fd ps (spD Y.X.K cn)) (hr : Room k Y.X.A) (hm : Y.X.mg x = some (.ref f)) (hk : PySem.W.keepIn Y.X.K (.ref f) = true) (hb : Binds Y.X.K fd ps [])
    (tk : Takes Y.X Y.Er) (ha : EQ Y e γ M fun s M1 => cn [s] M1 Q (fun cls M' => Y.Rx cls γ M')) (hg : Gl Y.X x := by rfl) (hdb : (x == ("__debug__" : Str)) = false := by decide)
    (he : starEach [e] Y.X.env = (false, eval e Y.X.env) :: starEach [] Y.X.env := by rfl) (hpl : (backTo pos (starEach [] Y.X.env)).any (·.1) = false := by rfl) : EQ Y (.Call (.Name x p) [e] [] pos) γ M Q :=
  ⟨PE.imp (pe_callS G hr hg hm hk hb (fun σ => passAt tk σ) (pa_cons ha.pe pa_nil he) hdb he hpl) fun σ H R ⟨F, rl, q, ex⟩ => ⟨F, rl, fun F1 v s1 M1 H1 e1 r1 v1 h1 => by
    refine ⟨F1, M1, [s1], _, _, .cons v1 .nil, r1.hm, h1, fun F' v r M' H' e2 h2 v2 hR => ?_, fun cls M' F' H' e2 h2 hR => ex cls γ M' F' σ H' (e1.trans e2) (r1.ext e2 h2) hR⟩
    exact q F' v r M' H' (e1.trans e2) (r1.ext e2 h2) v2 hR, ex⟩⟩
theorem s_setQ (i : Nat) {pos' : Pos} (hN : Y.X.N.Nodup) (h : EQ Y e γ M fun s M1 => P.nx (γ.set i s) M1) (hi : Y.X.N[i]? = some x := by rfl) (hx : Loc Y.X.env.scope x := by first | exact Or.inl rfl | exact Or.inr rfl)
    (hs : swapsWith e (some (.Name x pos')) pos.line Y.X.env = pure false := by rfl) (hf : Y.X.fn x = true ∨ Y.X.env.scope.names.lookup x = some .local := by first | exact .inl rfl | exact .inr rfl) : ST Y (.Assign [.Name x pos'] e pos) γ M P :=
  ⟨PS.imp (ps_set hN hi hx h.pe hs hf) fun D σ H ⟨F, r, q, ex⟩ => ⟨F, r, fun F1 v s M1 H1 e1 r1 v1 k => q.nx _ M1 F1 _ H1 e1 ⟨r1.hm, pair_set (sr_or v1) i r1.sl⟩ k, ex⟩⟩
theorem s_retQ (h : EQ Y e γ M P.rt) : ST Y (.Return (some e) pos) γ M P :=
  ⟨PS.imp (ps_ret h.pe) fun D σ H ⟨F, r, q, ex⟩ => ⟨F, r, fun F1 v s M1 H1 e1 r1 v1 k => q.rt s M1 F1 v H1 e1 r1.hm v1 k, ex⟩⟩
theorem s_exprQ (h : EQ Y e γ M fun _ M1 => P.nx γ M1) (hs : swapsWith e none pos.line Y.X.env = pure false := by rfl) : ST Y (.Expr e pos) γ M P :=
  ⟨PS.imp (ps_expr h.pe hs) fun D σ H ⟨F, r, q, ex⟩ => ⟨F, r, fun F1 v s M1 H1 e1 r1 v1 k => q.nx γ M1 F1 σ H1 e1 r1 k, ex⟩⟩
theorem s_asgQ {tg : Expr} (h : EQ Y e γ M fun s M1 => ∃ γ', GT Y tg γ s M1 γ' ∧ P.nx γ' M1) (hs : swapsWithSole [tg] e pos.line Y.X.env = pure false := by rfl) (hw : swappedStores [tg] e Y.X.env = pure none := by rfl)
    (h1 : (assignEach [tg] Y.X.env).map (·.2) = [assign tg Y.X.env] := by rfl) : ST Y (.Assign [tg] e pos) γ M P :=
  ⟨PS.imp (ps_asg h.pe uG_ok hs hw h1) fun D σ H ⟨F, r, qq, ex⟩ => ⟨F, r, fun F1 v s M1 H1 e1 r1 v1 ⟨γ', g, k⟩ => by
    obtain ⟨gg, p, q⟩ := g.ex
    exact ⟨gg, p, q F1 σ H1 v _ r1 v1 fun σ' r' => qq.nx γ' M1 F1 σ' H1 e1 r' k⟩, ex⟩⟩
end

/-- objects that are asked no more -/
theorem HM.sub {K : PySem.W.Frag} {F H : Hp} {M M' : MM} (h : HM K F M H) (l : M'.Sublist M) : HM K F M' H := ⟨h.fh, fun a o z => h.mo a o (l.subset z), (l.map (·.1)).nodup h.nd⟩
theorem b_gc {Y : Ct} {γ : List S} {M M' : MM} {sts : List Stmt} {P : Po} (l : M'.Sublist M) (h : BL Y sts γ M' P) : BL Y sts γ M P := ⟨PSs.imp h.ps fun D σ H ⟨F, r, q, ex⟩ => ⟨F, ⟨r.hm.sub l, r.sl⟩, q, ex⟩⟩
theorem pow_ok {i j : Int} (h : (decide (0 ≤ j) && decide (j ≤ 1000000) && decide (i.natAbs < 18446744073709551616)) = true := by decide) : CPow i j := by
  simp only [Bool.and_eq_true, decide_eq_true_eq] at h
  exact ⟨h.1.1, h.1.2, h.2⟩
/-! ### fractions -/
def fr (q : Rat) : PyData := .tuple [.int q.num, .int q.den]
/-- at most so many bits above and below -/
def Fb (n : Nat) (q : Rat) : Prop := q.num.natAbs < 2 ^ n ∧ q.den < 2 ^ n
theorem p2_pos (n : Nat) : 0 < 2 ^ n := Nat.pow_pos (by decide)
theorem p2_le {n m : Nat} (h : n ≤ m) : 2 ^ n ≤ 2 ^ m := Nat.pow_le_pow_right (by decide) h
theorem Fb.mono {n m : Nat} {q : Rat} (h : Fb n q) (k : n ≤ m) : Fb m q := ⟨Nat.lt_of_lt_of_le h.1 (p2_le k), Nat.lt_of_lt_of_le h.2 (p2_le k)⟩
theorem Fb.pos {n : Nat} {q : Rat} (h : Fb n q) : 0 < n := by
  rcases Nat.eq_zero_or_pos n with e | e
  · subst e
    have h1 := h.2
    have h2 := q.den_pos
    simp at h1
    omega
  · exact e
theorem div_le_self' (a g : Nat) : a / g ≤ a := Nat.div_le_self a g
theorem fb_divInt {a b : Int} {n : Nat} (ha : a.natAbs < 2 ^ n) (hb : b.natAbs < 2 ^ n) (h1 : 1 < 2 ^ n) : Fb n (Rat.divInt a b) := by
  constructor
  · rw [Rat.num_divInt]
    refine Nat.lt_of_le_of_lt ?_ ha
    have : (b.sign * a / (b.gcd a : Int)).natAbs ≤ (b.sign * a).natAbs := Int.natAbs_ediv_le_natAbs _ _
    refine Nat.le_trans this ?_
    rw [Int.natAbs_mul, Int.natAbs_sign]
    split <;> simp
  · rw [Rat.den_divInt]
    split
    · exact h1
    · exact Nat.lt_of_le_of_lt (Nat.div_le_self _ _) hb
theorem mul_lt_p2 {a b n m : Nat} (ha : a < 2 ^ n) (hb : b < 2 ^ m) : a * b < 2 ^ (n + m) := by
  rw [Nat.pow_add]
  exact Nat.mul_lt_mul'' ha hb
theorem add_eq_divInt (x y : Rat) : x + y = Rat.divInt (x.num * y.den + y.num * x.den) ((x.den : Int) * y.den) := by
  rw [Rat.add_def', ← Int.natCast_mul, Rat.divInt_ofNat]
theorem sub_eq_divInt (x y : Rat) : x - y = Rat.divInt (x.num * y.den - y.num * x.den) ((x.den : Int) * y.den) := by
  rw [Rat.sub_def', ← Int.natCast_mul, Rat.divInt_ofNat]
theorem mul_eq_divInt (x y : Rat) : x * y = Rat.divInt (x.num * y.num) ((x.den : Int) * y.den) := by
  rw [Rat.mul_def', ← Int.natCast_mul, Rat.divInt_ofNat]
theorem div_eq_divInt (x y : Rat) : x / y = Rat.divInt (x.num * y.den) (x.den * y.num) := by
  rw [Rat.div_def, Rat.inv_def]
  conv => lhs; rw [← Rat.num_divInt_den x]
  rw [Rat.divInt_mul_divInt]
theorem natAbs_add_lt {a b : Int} {n : Nat} (ha : a.natAbs < 2 ^ n) (hb : b.natAbs < 2 ^ n) : (a + b).natAbs < 2 ^ (n + 1) := by
  rw [Nat.pow_succ]; omega
theorem natAbs_sub_lt {a b : Int} {n : Nat} (ha : a.natAbs < 2 ^ n) (hb : b.natAbs < 2 ^ n) : (a - b).natAbs < 2 ^ (n + 1) := by
  rw [Nat.pow_succ]; omega
theorem im_lt {a b : Int} {n m : Nat} (ha : a.natAbs < 2 ^ n) (hb : b.natAbs < 2 ^ m) : (a * b).natAbs < 2 ^ (n + m) := by
  rw [Int.natAbs_mul]; exact mul_lt_p2 ha hb
theorem nd_lt {q : Rat} {n : Nat} (h : Fb n q) : ((q.den : Int)).natAbs < 2 ^ n := by
  rw [Int.natAbs_natCast]; exact h.2
theorem one_lt_p2 {n : Nat} (h : 0 < n) : 1 < 2 ^ n := by
  have := p2_le (n := 1) (m := n) h
  omega
theorem fb_add {x y : Rat} {n m : Nat} (hx : Fb n x) (hy : Fb m y) : Fb (n + m + 1) (x + y) := by
  rw [add_eq_divInt]
  refine fb_divInt (natAbs_add_lt (im_lt hx.1 (nd_lt hy)) ?_) (Nat.lt_of_lt_of_le (im_lt (nd_lt hx) (nd_lt hy)) (p2_le (Nat.le_succ _))) (one_lt_p2 (Nat.succ_pos _))
  rw [Nat.add_comm n m]
  exact im_lt hy.1 (nd_lt hx)
theorem fb_sub {x y : Rat} {n m : Nat} (hx : Fb n x) (hy : Fb m y) : Fb (n + m + 1) (x - y) := by
  rw [sub_eq_divInt]
  refine fb_divInt (natAbs_sub_lt (im_lt hx.1 (nd_lt hy)) ?_) (Nat.lt_of_lt_of_le (im_lt (nd_lt hx) (nd_lt hy)) (p2_le (Nat.le_succ _))) (one_lt_p2 (Nat.succ_pos _))
  rw [Nat.add_comm n m]
  exact im_lt hy.1 (nd_lt hx)
theorem fb_mul {x y : Rat} {n m : Nat} (hx : Fb n x) (hy : Fb m y) : Fb (n + m) (x * y) := by
  rw [mul_eq_divInt]
  exact fb_divInt (im_lt hx.1 hy.1) (im_lt (nd_lt hx) (nd_lt hy)) (one_lt_p2 (Nat.add_pos_left hx.pos _))
theorem fb_div {x y : Rat} {n m : Nat} (hx : Fb n x) (hy : Fb m y) : Fb (n + m) (x / y) := by
  rw [div_eq_divInt]
  exact fb_divInt (im_lt hx.1 (nd_lt hy)) (im_lt (nd_lt hx) hy.1) (one_lt_p2 (Nat.add_pos_left hx.pos _))
theorem fb_neg {x : Rat} {n : Nat} (hx : Fb n x) : Fb n (-x) := ⟨by rw [Rat.neg_num, Int.natAbs_neg]; exact hx.1, hx.2⟩
/-! the division by the common part -/
theorem fdiv_dvd {a g : Int} (h : g ∣ a) : a.fdiv g = a / g := by
  rw [Int.fdiv_eq_ediv]
  simp [h]
theorem low_num {a b : Int} (hb : b ≠ 0) : a.fdiv (if b < 0 then 0 - (Int.gcd a b : Int) else (Int.gcd a b : Int)) = (Rat.divInt a b).num := by
  rw [Rat.num_divInt, Int.gcd_comm b a]
  split
  · rename_i h
    rw [Int.zero_sub, fdiv_dvd (Int.neg_dvd.mpr (Int.gcd_dvd_left ..)), Int.sign_eq_neg_one_of_neg h, Int.ediv_neg, Int.neg_mul, Int.one_mul, Int.neg_ediv_of_dvd (Int.gcd_dvd_left ..)]
  · rename_i h
    rw [fdiv_dvd (Int.gcd_dvd_left ..), Int.sign_eq_one_of_pos (by omega), Int.one_mul]
theorem low_den {a b : Int} (hb : b ≠ 0) : b.fdiv (if b < 0 then 0 - (Int.gcd a b : Int) else (Int.gcd a b : Int)) = ((Rat.divInt a b).den : Int) := by
  rw [Rat.den_divInt, if_neg hb, Int.gcd_comm b a]
  split
  · rename_i h
    rw [Int.zero_sub, fdiv_dvd (Int.neg_dvd.mpr (Int.gcd_dvd_right ..)), Int.ediv_neg, Int.natCast_ediv, ← Int.neg_ediv_of_dvd (Int.gcd_dvd_right ..)]
    congr 1
    omega
  · rename_i h
    rw [fdiv_dvd (Int.gcd_dvd_right ..), Int.natCast_ediv]
    congr 1
    omega
theorem gcd_step {a b : Int} (ha : 0 ≤ a) (h : 0 < b) : Int.gcd b (a % b) = Int.gcd a b := by
  obtain ⟨m, rfl⟩ := Int.eq_ofNat_of_zero_le ha
  obtain ⟨n, rfl⟩ := Int.eq_ofNat_of_zero_le (Int.le_of_lt h)
  show Nat.gcd _ _ = Nat.gcd _ _
  rw [← Int.natCast_emod]
  simp only [Int.natAbs_natCast]
  rw [Nat.gcd_comm n, ← Nat.gcd_rec, Nat.gcd_comm]
end Mi

/-! Mi: lists put together, slices. -/
namespace Mi
open PySem PySem.Spec PyProof.Rows L2
section
variable {X : Cx}
/-- list + list, whatever lists -/
def rCatL (K : PySem.W.Frag) : R2 := fun x y H Q => ∃ l b xs zs, x = .ref l ∧ y = .ref b ∧ SqL K H l xs ∧ SqL K H b zs ∧ xs.length + zs.length ≤ sizeLine ∧ ∀ p, H p = none → Q (.ref p) (upd H p (.lst (xs ++ zs)))
theorem op_catL : OpR X (binaryOp .Add) (rCatL X.K) := by
  intro pins s σ H x y v u Q I rx ry h
  obtain ⟨l, b, xs, zs, rfl, rfl, hH, hB, hz, q⟩ := h
  cases rx
  cases ry
  obtain ⟨its, r, p1, z1⟩ := I.list hH
  obtain ⟨its2, r2, p2, z2⟩ := I.list hB
  obtain ⟨⟨cls, dd, data, sl⟩, ho, hc, n, hd⟩ := p1.isList
  obtain ⟨⟨cls2, dd2, data2, sl2⟩, ho2, hc2, n2, hd2⟩ := p2.isList
  simp only at hc hd hc2 hd2
  subst hc hd hc2 hd2
  have e : its.toArray ++ its2.toArray = (its ++ its2).toArray := by simp
  refine concat_meets ⟨_, ho, rfl⟩ ⟨_, ho2, rfl⟩ noFill_list_add seq_list_add PySem.F.slot_list_add PySem.F.entry_list_add (PySem.F.args_list_add_2 _ _)
    (list_addW l b its.toArray its2.toArray n n2 dd dd2 sl sl2 (by rw [List.size_toArray, List.size_toArray, ← r.length, ← r2.length]; exact hz)) ⟨ho, ho2, ?_⟩
  rw [e]
  exact ⟨.ref _, _, I.lnew (t' := s.toks) (r.append r2) (by rw [List.length_append]; omega), rfl, q _ I.fresh⟩
end
section
variable {Y : Ct} {γ γ' : List S} {M M1 M2 M3 : MM} {s s1 s2 s3 : S} {e a b c o it : Expr} {pos p p2 : Pos} {x : Str} {i j lo hi : Int} {b1 b2 : Bool} {es : List Expr} {ss : List S} {P : Po} {body : List Stmt} {tg : Expr}
theorem EV.gc (h : EV Y e γ M s M1) (l : M2.Sublist M1) : EV Y e γ M s M2 := ⟨PE.imp h.pe fun σ H Q ⟨F, r, q, ex⟩ => ⟨F, r, fun F1 v H1 e1 r1 v1 => q F1 v H1 e1 ⟨r1.hm.sub l, r1.sl⟩ v1, ex⟩⟩
theorem ET.gc (h : ET Y e γ M b1 M1) (l : M2.Sublist M1) : ET Y e γ M b1 M2 := ⟨PT.imp h.pt fun σ H Q ⟨F, r, q, ex⟩ => ⟨F, r, fun F1 H1 e1 r1 => q F1 H1 e1 ⟨r1.hm.sub l, r1.sl⟩, ex⟩⟩
/-- a list seen as its items -/
inductive VL (M : MM) : S → List S → Prop where
  | d {xs : List PyData} : VL M (.d (.list xs)) (xs.map S.d)
  | l {k : Nat} {p : Addr} {xs : List S} (h : M[k]? = some (p, .lst xs)) : VL M (.ob p) xs
theorem VL.ok {K : PySem.W.Frag} {F H : Hp} {v : V} {xs : List S} (h : VL M s xs) (hm : HM K F M H) (r : SR K F v s) : ∃ a vs, v = .ref a ∧ SqL K H a vs ∧ Paired (SR K F) vs xs := by
  cases h with
  | d => cases r with | lst h1 h2 => exact ⟨_, _, rfl, hm.fh.seq h1, d_all h2⟩
  | l hk =>
    obtain ⟨_, vs, h1, h2⟩ := hm.mo _ _ (List.mem_of_getElem? hk)
    cases r
    exact ⟨_, vs, rfl, .of h1, h2⟩
/-- a new list -/
theorem n_cat {xs zs : List S} (ha : EV Y a γ M s1 M1) (hb : EV Y b γ M1 s2 M2) (v1 : VL M2 s1 xs) (v2 : VL M2 s2 zs) (hl : xs.length + zs.length ≤ 100000) : EN Y (.BinOp a .Add b pos) γ M (.lst (xs ++ zs)) M2 :=
  ⟨PE.imp (pe_op op_catL ha.pe hb.pe) fun σ H Q ⟨F, rl, q, ex⟩ => ⟨F, rl, fun F1 v H1 e1 r1 w1 => ⟨F1, r1, fun F2 w H2 e2 r2 w2 => by
    obtain ⟨l, vs, rfl, h1, h2⟩ := v1.ok r2.hm (w1.mono e2)
    obtain ⟨b, us, rfl, h3, h4⟩ := v2.ok r2.hm w2
    refine ⟨l, b, vs, us, rfl, rfl, h1, h3, by rw [pair_len h2, pair_len h4]; exact Nat.le_trans hl (by decide), fun p hp => ?_⟩
    have h5 := r2.hm.newM hp (o := .lst (vs ++ us)) (m := .lst (xs ++ zs)) ⟨_, upd_same, pair_app h2 h4⟩
    exact q F2 p _ (e1.trans e2) ⟨h5, r2.sl⟩, ex.mono e1⟩, ex⟩⟩
/-- lists of data put together, not changed any more -/
theorem e_cat {xs zs : List PyData} (ha : EV Y a γ M (.d (.list xs)) M1) (hb : EV Y b γ M1 (.d (.list zs)) M2) (hl : xs.length + zs.length ≤ 100000) : EV Y (.BinOp a .Add b pos) γ M (.d (.list (xs ++ zs))) M2 :=
  e_frz (by rw [List.map_append]; exact n_cat ha hb .d .d (by rw [List.length_map, List.length_map]; exact hl))
/-! ### slices -/
structure EO (Y : Ct) (e : Option Expr) (γ : List S) (M : MM) (i : Option Int) : Prop where
  ex : ∃ t, PO Y.X e t ∧ ∀ F σ H (Q : Option Int → Hp → Prop), Rl Y.X.K γ M F σ H → ExOk Y F → (∀ F' H', Same F F' → Rl Y.X.K γ M F' σ H' → Q i H') → t σ H Q
theorem o_none : EO Y none γ M none := ⟨_, po_none, fun F σ H Q r ex q => q F H (Same.refl F) r⟩
theorem o_some (h : EV Y e γ M (.d (.int i)) M) : EO Y (some e) γ M (some i) := ⟨_, po_some h.pe, fun F σ H Q r ex q => ⟨F, r, fun F1 v H1 e1 r1 v1 => by cases v1; exact ⟨i, rfl, q F1 H1 e1 r1⟩, ex⟩⟩
def cutL {α : Type} (xs : List α) (lo hi : Option Int) : List α := (xs.drop (HT.sIx xs.length 0 lo)).take (HT.sIx xs.length xs.length hi - HT.sIx xs.length 0 lo)
theorem pair_take {α β : Type} {R : α → β → Prop} : ∀ {xs : List α} {ys : List β} (n : Nat), Paired R xs ys → Paired R (xs.take n) (ys.take n)
  | _, _, 0, _ => .nil
  | _, _, _ + 1, .nil => .nil
  | _, _, n + 1, .cons r t => .cons r (pair_take n t)
theorem pair_drop {α β : Type} {R : α → β → Prop} : ∀ {xs : List α} {ys : List β} (n : Nat), Paired R xs ys → Paired R (xs.drop n) (ys.drop n)
  | _, _, 0, r => r
  | _, _, _ + 1, .nil => .nil
  | _, _, n + 1, .cons _ t => pair_drop n t
theorem pair_cut {R : V → S → Prop} {xs : List V} {ys : List S} {l h : Option Int} (r : Paired R xs ys) : Paired R (cutV xs l h) (cutL ys l h) := by
  unfold cutV cutL
  rw [pair_len r]
  exact pair_take _ (pair_drop _ r)
theorem n_slice {xs : List S} {lo hi : Option Expr} {l h : Option Int} (ha : EV Y a γ M s M1) (v1 : VL M1 s xs) (h1 : EO Y lo γ M1 l) (h2 : EO Y hi γ M1 h) : EN Y (.Subscript a (.Slice lo hi none p2) pos) γ M (.lst (cutL xs l h)) M1 := by
  obtain ⟨tl, pl, ql⟩ := h1.ex
  obtain ⟨th, ph, qh⟩ := h2.ex
  refine ⟨PE.imp (pe_slice sl_list ha.pe pl ph) fun σ H Q ⟨F, r, q, ex⟩ => ⟨F, r, fun F1 v H1 e1 r1 w1 => ql F1 σ H1 _ r1 (ex.mono e1) fun F2 H2 e2 r2 => qh F2 σ H2 _ r2 (ex.mono (e1.trans e2)) fun F3 H3 e3 r3 => ?_, ex⟩⟩
  obtain ⟨a, vs, rfl, g1, g2⟩ := v1.ok r3.hm (w1.mono (e2.trans e3))
  refine ⟨a, vs, rfl, g1, fun p hp => ?_⟩
  have h5 := r3.hm.newM hp (o := .lst (cutV vs l h)) (m := .lst (cutL xs l h)) ⟨_, upd_same, pair_cut g2⟩
  exact q F3 p _ ((e1.trans e2).trans e3) ⟨h5, r3.sl⟩
theorem cutL_map {α β : Type} (f : α → β) (xs : List α) (l h : Option Int) : cutL (xs.map f) l h = (cutL xs l h).map f := by
  unfold cutL
  rw [List.length_map, List.map_take, List.map_drop]
theorem e_slice {xs : List PyData} {lo hi : Option Expr} {l h : Option Int} (ha : EV Y a γ M (.d (.list xs)) M1) (h1 : EO Y lo γ M1 l) (h2 : EO Y hi γ M1 h) : EV Y (.Subscript a (.Slice lo hi none p2) pos) γ M (.d (.list (cutL xs l h))) M1 :=
  e_frz (by rw [← cutL_map]; exact n_slice ha .d h1 h2)
end
end Mi

/-! Mi: is of truths; small things. -/
namespace Mi
open PySem PySem.Spec PyProof.Rows L2
section
variable {Y : Ct} {γ γ' : List S} {M M1 M2 M3 : MM} {s s1 s2 s3 : S} {e a b c o it : Expr} {pos p p2 : Pos} {x : Str} {i j lo hi : Int} {b1 b2 : Bool} {es : List Expr} {ss : List S} {P : Po} {body : List Stmt} {tg : Expr}
theorem rv_isB {K : PySem.W.Frag} : RV K rIsB (.d (.bool b1)) (.d (.bool b2)) M (.d (.bool (b1 == b2))) M := ⟨fun F v w H Q hm h1 h2 q => by
  cases h1; cases h2
  exact ⟨b1, b2, rfl, rfl, q F _ H (Same.refl F) hm (.bl _)⟩⟩
theorem rv_notB {K : PySem.W.Frag} : RV K rNotB (.d (.bool b1)) (.d (.bool b2)) M (.d (.bool (!(b1 == b2)))) M := ⟨fun F v w H Q hm h1 h2 q => by
  cases h1; cases h2
  exact ⟨b1, b2, rfl, rfl, q F _ H (Same.refl F) hm (.bl _)⟩⟩
theorem t_isB (ha : EV Y a γ M (.d (.bool b1)) M1) (hb : EV Y b γ M1 (.d (.bool b2)) M2) : ET Y (.Compare a [.Is] [b] pos) γ M (b1 == b2) M2 := t_bin (fun h1 h2 => pt_cmpR op_isBl h1 h2 (nomark _)) ha hb rv_isB
theorem t_notB (ha : EV Y a γ M (.d (.bool b1)) M1) (hb : EV Y b γ M1 (.d (.bool b2)) M2) : ET Y (.Compare a [.IsNot] [b] pos) γ M (!(b1 == b2)) M2 := t_bin (fun h1 h2 => pt_cmpR op_notBl h1 h2 (nomark _)) ha hb rv_notB
theorem e_isB (ha : EV Y a γ M (.d (.bool b1)) M1) (hb : EV Y b γ M1 (.d (.bool b2)) M2) : EV Y (.Compare a [.Is] [b] pos) γ M (.d (.bool (b1 == b2))) M2 := e_bin (f := fun _ _ => pure .none) (fun h1 h2 => pe_cmpR op_isBl h1 h2 (nomark _)) ha hb rv_isB
theorem e_notB (ha : EV Y a γ M (.d (.bool b1)) M1) (hb : EV Y b γ M1 (.d (.bool b2)) M2) : EV Y (.Compare a [.IsNot] [b] pos) γ M (.d (.bool (!(b1 == b2)))) M2 := e_bin (f := fun _ _ => pure .none) (fun h1 h2 => pe_cmpR op_notBl h1 h2 (nomark _)) ha hb rv_notB
end
end Mi

/-! Mi: comprehensions over one name. -/
namespace Mi
open PySem PySem.Spec PyProof.Rows L2
/-- all readings at once, for a comprehension's block -/
def uEb (X : Cx) (scope : Scope) (e : Expr) : TE := fun σ H Q => ∃ t, (∀ (s : Shared) (H : Hp) (C : Addr) (cl : List (Str × Addr)) (fp : List Addr), PE (X.blk s H scope (compEnvC scope cl C X.env) fp) e t) ∧ t σ H Q
def uTb (X : Cx) (scope : Scope) (es : List Expr) : TT := fun σ H Q => ∃ t, (∀ (s : Shared) (H : Hp) (C : Addr) (cl : List (Str × Addr)) (fp : List Addr), PTs (X.blk s H scope (compEnvC scope cl C X.env) fp) es t) ∧ t σ H Q
theorem uEb_ok {X : Cx} {scope : Scope} {e : Expr} (s : Shared) (H : Hp) (C : Addr) (cl : List (Str × Addr)) (fp : List Addr) : PE (X.blk s H scope (compEnvC scope cl C X.env) fp) e (uEb X scope e) :=
  ⟨fun pins s1 σ H1 Q I ⟨t, h, q⟩ => (h s H C cl fp).run pins s1 σ H1 Q I q⟩
theorem uTb_ok {X : Cx} {scope : Scope} {es : List Expr} (s : Shared) (H : Hp) (C : Addr) (cl : List (Str × Addr)) (fp : List Addr) : PTs (X.blk s H scope (compEnvC scope cl C X.env) fp) es (uTb X scope es) :=
  ⟨fun pins s1 σ H1 Q I ⟨t, h, q⟩ => (h s H C cl fp).run pins s1 σ H1 Q I q⟩
/-- where an element of a comprehension stands -/
abbrev Ct.blk (Y : Ct) (scope : Scope) (s : Shared) (H : Hp) (C : Addr) (cl : List (Str × Addr)) (fp : List Addr) : Ct := ⟨Y.X.blk s H scope (compEnvC scope cl C Y.X.env) fp, fun _ _ _ _ => False, fun _ _ _ => False⟩
abbrev Ct.un (Y : Ct) : Ct := ⟨Y.X, fun _ _ _ _ => False, fun _ _ _ => False⟩
section
variable {Y : Ct} {γ γ' : List S} {M M1 M2 M3 : MM} {s s1 s2 s3 : S} {e elt it tg : Expr} {pos p p2 : Pos} {x : Str} {i j lo hi : Int} {b1 b2 : Bool} {es ifs : List Expr} {ss xs : List S} {P : Po} {scope : Scope}
/-- what the slot holds at a turn -/
def compG (γ : List S) (j : Nat) (x : S) : List S := (γ.set j .no).set j x
theorem comp_core (j : Nat) {n : Str} {Sd : MM → Prop} {wi : TI} {J : It} {F1 F : Hp} {σ : L2.St} {H1 : Hp} {Qd : V → Hp → Prop} (hj : j < σ.length)
    (Iv : Nat → MM → List S → Prop) (h0 : Iv 0 M1 []) (hS : ∀ i M' acc, Iv i M' acc → acc.length ≤ 99999 ∧ ∀ D, Sd (M' ++ [(D, .lst acc)]))
    (turn : ∀ (i : Nat) x M' acc (D : Addr), xs[i]? = some x → Iv i M' acc → ∃ b M2, (∀ s H C cl fp, PTs (Y.blk scope s H C cl fp).X ifs (tET Y.un (compG γ j x) (M' ++ [(D, .lst acc)]) b (M2 ++ [(D, .lst acc)]))) ∧
      (b = true → ∀ s H C cl fp, EQ (Y.blk scope s H C cl fp) elt (compG γ j x) (M2 ++ [(D, .lst acc)]) fun y M3 => ∃ M4, M3 = M4 ++ [(D, .lst acc)] ∧ Iv (i + 1) M4 (acc ++ [y])) ∧ (b = false → Iv (i + 1) M2 acc))
    (e1 : Same F F1) (r1 : Rl Y.X.K γ M1 F1 σ H1) (Wk : Walks Y.X.K J F1 xs Sd) (ex : ExOk Y F) (done : ∀ F' D M' acc H', Same F F' → Rl Y.X.K γ (M' ++ [(D, .lst acc)]) F' σ H' → Iv xs.length M' acc → Qd (.ref D) H') :
    ∀ D, H1 D = none → ∃ W : Nat → Nat → Hp → Prop, (∃ m, W 0 m (upd H1 D (.lst []))) ∧ ∀ i m H, W i m H →
      (J.stop i H ∧ Qd (.ref D) H) ∨ (J.go i H ∧ ∃ Nx : Hp → Prop, (∀ H', Nx H' → ∃ m', m' < m ∧ W (i + 1) m' H') ∧ ∀ x H', J.yld i H x H' → gName j x (wipe σ [j]) H' fun σ2 H2 => wipe σ2 [j] = wipe σ [j] ∧ uTb Y.X scope ifs σ2 H2 fun b H3 =>
        if b = true then uEb Y.X scope elt σ2 H3 fun y H4 => ∃ acc, H4 D = some (.lst acc) ∧ acc.length < sizeLine ∧ Nx (upd H4 D (.lst (acc ++ [y]))) else Nx H3) := by
  intro D hD
  have r0 : Rl Y.X.K γ (M1 ++ [(D, .lst [])]) F1 σ (upd H1 D (.lst [])) := ⟨r1.hm.newM hD ⟨[], upd_same, .nil⟩, r1.sl⟩
  refine ⟨fun i m H' => m = xs.length - i ∧ i ≤ xs.length ∧ ∃ M' acc F', Iv i M' acc ∧ Same F1 F' ∧ Rl Y.X.K γ (M' ++ [(D, .lst acc)]) F' σ H', ⟨xs.length, by simp, Nat.zero_le _, M1, [], F1, h0, Same.refl F1, r0⟩, ?_⟩
  rintro i m H' ⟨rfl, hi, M', acc, F', w, e2, r2⟩
  obtain ⟨hacc, hSd⟩ := hS i M' acc w
  by_cases hlt : i < xs.length
  · refine .inr ⟨Wk.go i H' F' _ e2 r2.hm (hSd D) hlt, fun H3 => ∃ M' acc F', Iv (i + 1) M' acc ∧ Same F1 F' ∧ Rl Y.X.K γ (M' ++ [(D, .lst acc)]) F' σ H3, fun H3 z => ⟨xs.length - (i + 1), by omega, rfl, hlt, z⟩, fun v H'' y => ?_⟩
    obtain ⟨x, hx⟩ : ∃ x, xs[i]? = some x := ⟨xs[i], by simp [hlt]⟩
    obtain ⟨F2, e3, r3, sv⟩ := Wk.yld i H' v H'' x F' γ _ σ hx e2 r2 (hSd D) y
    obtain ⟨b, M2, ht, hyes, hno⟩ := turn i x M' acc D hx w
    have hw : wipe ((wipe σ [j]).set j (some v)) [j] = wipe σ [j] := by
      show (((σ.set j none)).set j (some v)).set j none = σ.set j none
      rw [List.set_set, List.set_set]
    have back : ∀ {F' M' H'}, Same F2 F' → Rl Y.X.K (compG γ j x) M' F' ((wipe σ [j]).set j (some v)) H' → Rl Y.X.K γ M' F' σ H' := fun {F' M' H'} e r => ⟨r.hm, sl_mono e r3.sl⟩
    have r4 : Rl Y.X.K (compG γ j x) (M' ++ [(D, .lst acc)]) F2 ((wipe σ [j]).set j (some v)) H'' := ⟨r3.hm, pair_set (sr_or sv) j (pair_set (R := OR Y.X.K F2) (y := S.no) trivial j r3.sl)⟩
    refine ⟨hw, tET ⟨Y.X, fun _ _ _ _ => False, fun _ _ _ => False⟩ (compG γ j x) (M' ++ [(D, MO.lst acc)]) b (M2 ++ [(D, MO.lst acc)]), fun s H C cl fp => ht s H C cl fp, F2, r4, fun F3 H3 e4 r5 => ?_, fun _ _ _ _ _ _ _ _ z => z.elim⟩
    cases b with
    | true =>
      refine iteT ?_
      refine ⟨tEQ ⟨Y.X, fun _ _ _ _ => False, fun _ _ _ => False⟩ (compG γ j x) (M2 ++ [(D, MO.lst acc)]) (fun y M3 => ∃ M4, M3 = M4 ++ [(D, MO.lst acc)] ∧ Iv (i + 1) M4 (acc ++ [y])), fun s H C cl fp => (hyes rfl s H C cl fp).pe, F3, r5, fun F4 y' s' M5 H4 e5 r6 sy ⟨M4, e6, w4⟩ => ?_, fun _ _ _ _ _ _ _ _ z => z.elim⟩
      subst e6
      have hk : (M4 ++ [(D, MO.lst acc)])[M4.length]? = some (D, .lst acc) := by simp
      obtain ⟨_, vs, g1, g2⟩ := r6.hm.mo _ _ (List.mem_of_getElem? hk)
      refine ⟨vs, g1, by rw [pair_len g2]; exact Nat.lt_of_le_of_lt hacc (by decide), M4, acc ++ [s'], F4, w4, ((e2.trans e3).trans e4).trans e5, ?_⟩
      have hM := r6.hm.setM hk (o := .lst (vs ++ [y'])) (m := .lst (acc ++ [s'])) ⟨_, upd_same, pair_app g2 (.cons sy .nil)⟩
      have eM : (M4 ++ [(D, MO.lst acc)]).set M4.length (D, MO.lst (acc ++ [s'])) = M4 ++ [(D, MO.lst (acc ++ [s']))] := by simp
      rw [eM] at hM
      exact ⟨hM, (back (e4.trans e5) r6).sl⟩
    | false =>
      refine iteF ?_
      exact ⟨M2, acc, F3, hno rfl, (e2.trans e3).trans e4, back e4 r5⟩
  · have hil : i = xs.length := by omega
    subst hil
    exact .inl ⟨Wk.stop _ H' F' _ e2 r2.hm (hSd D) (Nat.le_refl _), done F' D M' acc H' (e1.trans e2) r2 w⟩
/-- [elt for x in it if ifs], in general: the word Iv of the turn, the objects, what is made so far -/
theorem q_comp (j : Nat) {n : Str} {Sd : MM → Prop} {Q : S → MM → Prop} {cpos : Pos} (hc : Y.X.calm = true) (hN : Y.X.N.Nodup) (hI : EI Y (.Name n p) it γ M xs Sd M1) (ok : BlkOk Y.X.N Y.X.env.scope scope [(n, j)]) (hj : j < γ.length)
    (Iv : Nat → MM → List S → Prop) (h0 : Iv 0 M1 []) (hS : ∀ i M' acc, Iv i M' acc → acc.length ≤ 99999 ∧ ∀ D, Sd (M' ++ [(D, .lst acc)]))
    (turn : ∀ (i : Nat) x M' acc (D : Addr), xs[i]? = some x → Iv i M' acc → ∃ b M2, (∀ s H C cl fp, PTs (Y.blk scope s H C cl fp).X ifs (tET Y.un (compG γ j x) (M' ++ [(D, .lst acc)]) b (M2 ++ [(D, .lst acc)]))) ∧
      (b = true → ∀ s H C cl fp, EQ (Y.blk scope s H C cl fp) elt (compG γ j x) (M2 ++ [(D, .lst acc)]) fun y M3 => ∃ M4, M3 = M4 ++ [(D, .lst acc)] ∧ Iv (i + 1) M4 (acc ++ [y])) ∧ (b = false → Iv (i + 1) M2 acc))
    (done : ∀ D M' acc, Iv xs.length M' acc → Q (.ob D) (M' ++ [(D, .lst acc)]))
    (hg : ∀ (s : Shared) (H : Hp) (C : Addr) (cl : List (Str × Addr)) (fp : List Addr), PG (Y.X.blk s H scope (compEnvC scope cl C Y.X.env) fp) (.Name n p) (gName j) := by exact fun _ _ _ _ _ => pg_name (by assumption) rfl (Or.inl rfl))
    (hs : ∀ x, foldedSetIterable it Y.X.env x = pure x := by intro _; rfl) : EQ Y (.ListComp elt [⟨.Name n p, it, ifs, 0⟩] scope cpos) γ M Q := by
  obtain ⟨wi, hw, run⟩ := hI.ex
  refine ⟨PE.imp (pe_lc (g := gName j) (tt := uTb Y.X scope ifs) (te := uEb Y.X scope elt) hc hN hw ok hg uTb_ok uEb_ok hs) fun σ H R ⟨F, r, q, ex⟩ => ?_⟩
  refine run F σ H _ r ex fun F1 H1 J e1 r1 Wk => ?_
  have hl : σ.length = γ.length := pair_len r.sl
  exact comp_core j (n := n) (wi := wi) (by omega) Iv h0 hS turn e1 r1 Wk ex fun F' D M' acc H' e2 r2 w => q F' (.ref D) (.ob D) _ H' e2 r2 rfl (done D M' acc w)
theorem ptsB {Y : Ct} {γ : List S} {M : MM} : ∀ (s : Shared) (H : Hp) (C : Addr) (cl : List (Str × Addr)) (fp : List Addr), PTs (Y.blk scope s H C cl fp).X [] (tET Y.un γ M true M) :=
  fun s H C cl fp => ⟨fun pins s1 σ H1 Q I ⟨F, r, q, _⟩ => (pts_nil).run pins s1 σ H1 Q I (q F H1 (Same.refl F) r)⟩
theorem ptsOne {Y : Ct} {γ : List S} {M : MM} {c : Expr} {b : Bool} (h : ∀ s H C cl fp, ET (Y.blk scope s H C cl fp) c γ M b M2) : ∀ (s : Shared) (H : Hp) (C : Addr) (cl : List (Str × Addr)) (fp : List Addr), PTs (Y.blk scope s H C cl fp).X [c] (tET Y.un γ M b M2) :=
  fun s H C cl fp => ⟨fun pins s1 σ H1 Q I ⟨F, r, q, _⟩ => (pts_one (h s H C cl fp).pt).run pins s1 σ H1 Q I ⟨F, r, q, fun _ _ _ _ _ _ _ _ z => z.elim⟩⟩
/-- .. where each element changes nothing: a new list of the told items -/
theorem n_comp (j : Nat) {n : Str} {cpos : Pos} (ys : List S) (hc : Y.X.calm = true) (hN : Y.X.N.Nodup) (hI : EI Y (.Name n p) it γ M xs (fun _ => True) M1) (ok : BlkOk Y.X.N Y.X.env.scope scope [(n, j)]) (hj : j < γ.length) (hl : ys.length = xs.length) (hn : xs.length ≤ 99999)
    (turn : ∀ (i : Nat) x y M', xs[i]? = some x → ys[i]? = some y → ∀ s H C cl fp, EV (Y.blk scope s H C cl fp) elt (compG γ j x) M' y M')
    (hg : ∀ (s : Shared) (H : Hp) (C : Addr) (cl : List (Str × Addr)) (fp : List Addr), PG (Y.X.blk s H scope (compEnvC scope cl C Y.X.env) fp) (.Name n p) (gName j) := by exact fun _ _ _ _ _ => pg_name (by assumption) rfl (Or.inl rfl))
    (hs : ∀ x, foldedSetIterable it Y.X.env x = pure x := by intro _; rfl) : EN Y (.ListComp elt [⟨.Name n p, it, [], 0⟩] scope cpos) γ M (.lst ys) M1 := by
  have h := q_comp (Q := fun s M' => ∃ q, s = .ob q ∧ M' = M1 ++ [(q, .lst ys)]) (elt := elt) (cpos := cpos) (ifs := []) j hc hN hI ok hj (fun i M' acc => M' = M1 ∧ acc = ys.take i ∧ i ≤ xs.length) ⟨rfl, rfl, Nat.zero_le _⟩
    (fun i M' acc ⟨_, h2, h3⟩ => ⟨by rw [h2, List.length_take]; omega, fun _ => trivial⟩)
    (fun i x M' acc D hx ⟨h1, h2, h3⟩ => by
      obtain ⟨hlt, _⟩ := List.getElem?_eq_some_iff.mp hx
      obtain ⟨y, hy⟩ : ∃ y, ys[i]? = some y := ⟨ys[i]'(by omega), by simp⟩
      refine ⟨true, M', ptsB, fun _ s H C cl fp => (turn i x y _ hx hy s H C cl fp).q ⟨M', rfl, h1, ?_, hlt⟩, fun z => nomatch z⟩
      rw [h2, List.take_add_one, hy]
      rfl)
    (fun D M' acc ⟨h1, h2, _⟩ => ⟨D, rfl, by rw [h1, h2, ← hl, List.take_length]⟩) hg hs
  exact ⟨PE.imp h.pe fun σ H Q ⟨F, r, q, ex⟩ => ⟨F, r, fun F' v s M' H' e1 r1 sv ⟨a, h1, h2⟩ => by
    subst h1 h2
    cases sv
    exact q F' a H' e1 r1, ex⟩⟩
end
end Mi

/-! Mi: tuple(..), list(..), all, any, backwards, parts of a list to names. -/
namespace Mi
open PySem PySem.Spec PyProof.Rows L2
section
variable {Y : Ct} {γ γ' : List S} {M M1 M2 M3 : MM} {s s1 s2 s3 : S} {e a b c it tg : Expr} {pos p p2 p3 p4 : Pos} {x : Str} {i j lo hi : Int} {b1 b2 : Bool} {es : List Expr} {ss xs : List S} {P : Po}
/-- tuple(a list of data) -/
theorem e_tupleL {ds : List PyData} (hg : Gl Y.X "tuple" := by rfl) (hm : Y.X.mg "tuple" = none) (ha : EA Y (e :: es) γ M [s] M1) (hv : VL M1 s (ds.map S.d))
    (he : starEach (e :: es) Y.X.env = (false, eval e Y.X.env) :: starEach es Y.X.env := by rfl) (hpl : (backTo pos (starEach es Y.X.env)).any (·.1) = false := by rfl) : EV Y (.Call (.Name "tuple" p) (e :: es) [] pos) γ M (.d (.tuple ds)) M1 :=
  e_callTy call_tuple_of hg hm (by decide +kernel) ha (he := he) (hpl := hpl) (hr := ⟨fun F vs H Q hm' g q => by
    obtain ⟨v, rfl, g1⟩ := pair_one g
    obtain ⟨a, ws, rfl, h1, h2⟩ := hv.ok hm' g1
    refine ⟨a, ws, rfl, .inl ⟨h1, fun l hl => ?_⟩⟩
    obtain ⟨e2, h3⟩ := hm'.newF hl (.tup ws)
    exact q _ _ _ e2 h3 (.tup (.inl (.inl upd_same)) (dps_mono e2 _ _ (all_d h2)))⟩)
/-- tuple(a tuple) -/
theorem e_tupleT {ds : List PyData} (hg : Gl Y.X "tuple" := by rfl) (hm : Y.X.mg "tuple" = none) (ha : EA Y (e :: es) γ M [.d (.tuple ds)] M1)
    (he : starEach (e :: es) Y.X.env = (false, eval e Y.X.env) :: starEach es Y.X.env := by rfl) (hpl : (backTo pos (starEach es Y.X.env)).any (·.1) = false := by rfl) : EV Y (.Call (.Name "tuple" p) (e :: es) [] pos) γ M (.d (.tuple ds)) M1 :=
  e_callTy call_tuple_of hg hm (by decide +kernel) ha (he := he) (hpl := hpl) (hr := ⟨fun F vs H Q hm' g q => by
    obtain ⟨v, rfl, g1⟩ := pair_one g
    cases g1 with
    | tup h1 h2 => exact ⟨_, _, rfl, .inr ⟨same_t hm'.fh h1, q F _ H (Same.refl F) hm' (.tup h1 h2)⟩⟩⟩)
/-- list(a list): a new one -/
theorem n_list {xs : List S} (hg : Gl Y.X "list" := by rfl) (hm : Y.X.mg "list" = none) (ha : EA Y (e :: es) γ M [s] M1) (hv : VL M1 s xs)
    (he : starEach (e :: es) Y.X.env = (false, eval e Y.X.env) :: starEach es Y.X.env := by rfl) (hpl : (backTo pos (starEach es Y.X.env)).any (·.1) = false := by rfl) : EN Y (.Call (.Name "list" p) (e :: es) [] pos) γ M (.lst xs) M1 :=
  ⟨PE.imp (pe_callTy call_list_of hg hm (by decide +kernel) ha.pa (by decide) (by decide) he hpl) fun σ H Q ⟨F, r, q, ex⟩ => ⟨F, r, fun F1 vs H1 e1 r1 v1 => by
    obtain ⟨v, rfl, g1⟩ := pair_one v1
    obtain ⟨a, ws, rfl, h1, h2⟩ := hv.ok r1.hm g1
    refine ⟨a, ws, rfl, .inl h1, fun l hl => ?_⟩
    have h3 := r1.hm.newM hl (o := .lst ws) (m := .lst xs) ⟨_, upd_same, h2⟩
    exact q F1 l _ e1 ⟨h3, r1.sl⟩, ex⟩⟩
/-- list(a tuple): a new one -/
theorem n_listT {ds : List PyData} (hg : Gl Y.X "list" := by rfl) (hm : Y.X.mg "list" = none) (ha : EA Y (e :: es) γ M [.d (.tuple ds)] M1)
    (he : starEach (e :: es) Y.X.env = (false, eval e Y.X.env) :: starEach es Y.X.env := by rfl) (hpl : (backTo pos (starEach es Y.X.env)).any (·.1) = false := by rfl) : EN Y (.Call (.Name "list" p) (e :: es) [] pos) γ M (.lst (ds.map S.d)) M1 :=
  ⟨PE.imp (pe_callTy call_list_of hg hm (by decide +kernel) ha.pa (by decide) (by decide) he hpl) fun σ H Q ⟨F, r, q, ex⟩ => ⟨F, r, fun F1 vs H1 e1 r1 v1 => by
    obtain ⟨v, rfl, g1⟩ := pair_one v1
    cases g1 with
    | tup h1 h2 =>
      refine ⟨_, _, rfl, .inr (same_t r1.hm.fh h1), fun l hl => ?_⟩
      have h3 := r1.hm.newM hl (m := .lst (ds.map S.d)) ⟨_, upd_same, d_all h2⟩
      exact q F1 l _ e1 ⟨h3, r1.sl⟩, ex⟩⟩
theorem bls_of {K : PySem.W.Frag} {F : Hp} : ∀ {vs : List V} {bs : List Bool}, Paired (SR K F) vs (bs.map fun b => S.d (.bool b)) → vs = bs.map V.bl
  | _, [], q => by cases q; rfl
  | _, b :: bs, q => by cases q with | cons h t => cases h; rw [bls_of t]; rfl
theorem e_all {bs : List Bool} (hc : Y.X.calm = true) (hg : Gl Y.X "all" := by rfl) (hm : Y.X.mg "all" = none) (ha : EA Y (e :: es) γ M [s] M1) (hv : VL M1 s (bs.map fun b => S.d (.bool b)))
    (he : starEach (e :: es) Y.X.env = (false, eval e Y.X.env) :: starEach es Y.X.env := by rfl) (hpl : (backTo pos (starEach es Y.X.env)).any (·.1) = false := by rfl) : EV Y (.Call (.Name "all" p) (e :: es) [] pos) γ M (.d (.bool (bs.all id))) M1 :=
  e_callB (cr_all hc) hg hm (by decide +kernel) ha (he := he) (hpl := hpl) (hr := ⟨fun F vs H Q hm' g q => by
    obtain ⟨v, rfl, g1⟩ := pair_one g
    obtain ⟨a, ws, rfl, h1, h2⟩ := hv.ok hm' g1
    rw [bls_of h2] at h1
    exact ⟨a, bs, rfl, h1, q F _ H (Same.refl F) hm' (.bl _)⟩⟩)
theorem e_any {bs : List Bool} (hc : Y.X.calm = true) (hg : Gl Y.X "any" := by rfl) (hm : Y.X.mg "any" = none) (ha : EA Y (e :: es) γ M [s] M1) (hv : VL M1 s (bs.map fun b => S.d (.bool b)))
    (he : starEach (e :: es) Y.X.env = (false, eval e Y.X.env) :: starEach es Y.X.env := by rfl) (hpl : (backTo pos (starEach es Y.X.env)).any (·.1) = false := by rfl) : EV Y (.Call (.Name "any" p) (e :: es) [] pos) γ M (.d (.bool (bs.any id))) M1 :=
  e_callB (cr_any hc) hg hm (by decide +kernel) ha (he := he) (hpl := hpl) (hr := ⟨fun F vs H Q hm' g q => by
    obtain ⟨v, rfl, g1⟩ := pair_one g
    obtain ⟨a, ws, rfl, h1, h2⟩ := hv.ok hm' g1
    rw [bls_of h2] at h1
    exact ⟨a, bs, rfl, h1, q F _ H (Same.refl F) hm' (.bl _)⟩⟩)
theorem pair_rev {α β : Type} {R : α → β → Prop} {xs : List α} {ys : List β} (h : Paired R xs ys) : Paired R xs.reverse ys.reverse := by
  induction h with
  | nil => exact .nil
  | cons a t ih => rw [List.reverse_cons, List.reverse_cons]; exact pair_app ih (.cons a .nil)
/-- xs[::-1] -/
theorem n_back {k : Nat} {xs : List S} (ha : EV Y a γ M s M1) (hv : VL M1 s xs) : EN Y (.Subscript a (.Slice none none (some (.UnaryOp .USub (.Constant (.int 1) k p) p2)) p3) pos) γ M (.lst xs.reverse) M1 :=
  ⟨PE.imp (pe_revL ha.pe) fun σ H Q ⟨F, r, q, ex⟩ => ⟨F, r, fun F1 v H1 e1 r1 v1 => by
    obtain ⟨a, ws, rfl, h1, h2⟩ := hv.ok r1.hm v1
    refine ⟨a, ws, rfl, h1, fun l hl => ?_⟩
    have h3 := r1.hm.newM hl (o := .lst ws.reverse) (m := .lst xs.reverse) ⟨_, upd_same, pair_rev h2⟩
    exact q F1 l _ e1 ⟨h3, r1.sl⟩, ex⟩⟩
/-- a, b, .. = a list -/
theorem g_lst {k : Nat} {es : List Expr} {xs : List S} {n : Nat} (hc : Y.X.calm = true) (hv : VL M s xs) (h : GTs Y es γ xs M γ') (hl : xs.length = n := by rfl) (hn : (assignEach es Y.X.env).length = n := by rfl) (hst : (assignEach es Y.X.env).findIdx? (·.1) = none := by rfl) :
    GT Y (.Tuple es k pos) γ s M γ' := by
  obtain ⟨g, p, q⟩ := h.ex
  refine ⟨_, pg_lst hc p hn hst, fun F σ H v Q r h q' => ?_⟩
  obtain ⟨a, ws, rfl, h1, h2⟩ := hv.ok r.hm h
  exact ⟨a, ws, rfl, h1, (pair_len h2).trans hl, q F σ H _ Q r h2 q'⟩
/-- -n -/
theorem e_neg (ha : EV Y a γ M (.d (.int i)) M1) : EV Y (.UnaryOp .USub a pos) γ M (.d (.int (-i))) M1 :=
  ⟨PE.imp (pe_un un_neg ha.pe) fun σ H Q ⟨F, r, q, ex⟩ => ⟨F, r, fun F1 v H1 e1 r1 v1 => by cases v1; exact ⟨i, rfl, q F1 _ H1 e1 r1 (.int _)⟩, ex⟩⟩
/-- two comparisons -/
theorem c_lists : True := trivial
end
end Mi

/-! Mi: rows of arguments of which some are not told by one term. -/
namespace Mi
open PySem PySem.Spec PyProof.Rows L2
def uA (X : Cx) (es : List Expr) : TA := fun σ H Q => ∃ t, PA X es t ∧ t σ H Q
theorem uA_ok {X : Cx} {es : List Expr} : PA X es (uA X es) := ⟨fun pos pins s σ H Q I ⟨t, h, q⟩ => h.run pos pins s σ H Q I q⟩
def uE (X : Cx) (e : Expr) : TE := fun σ H Q => ∃ t, PE X e t ∧ t σ H Q
theorem uE_ok {X : Cx} {e : Expr} : PE X e (uE X e) := ⟨fun pins s σ H Q I ⟨t, h, q⟩ => h.run pins s σ H Q I q⟩
section
variable {Y : Ct} {γ γ' : List S} {M M1 M2 M3 : MM} {s s1 s2 s3 : S} {e a b c o it : Expr} {pos p p2 : Pos} {x : Str} {i j lo hi : Int} {b1 b2 : Bool} {es : List Expr} {ss : List S} {P : Po} {body : List Stmt} {tg : Expr} {Q : S → MM → Prop}
def tEAQ (Y : Ct) (γ : List S) (M : MM) (Q : List S → MM → Prop) : TA := fun σ H R => ∃ F, Rl Y.X.K γ M F σ H ∧ (∀ F' vs ss M' H', Same F F' → Rl Y.X.K γ M' F' σ H' → Paired (SR Y.X.K F') vs ss → Q ss M' → R vs H') ∧ ExOk Y F
structure EAQ (Y : Ct) (es : List Expr) (γ : List S) (M : MM) (Q : List S → MM → Prop) : Prop where
  pa : PA Y.X es (tEAQ Y γ M Q)
variable {Qs : List S → MM → Prop}
theorem EA.q (h : EA Y es γ M ss M1) (k : Qs ss M1) : EAQ Y es γ M Qs := ⟨PA.imp h.pa fun σ H R ⟨F, r, q, ex⟩ => ⟨F, r, fun F1 vs H1 e1 r1 v1 => q F1 vs ss M1 H1 e1 r1 v1 k, ex⟩⟩
theorem qa_nil (k : Qs [] M) : EAQ Y [] γ M Qs := EA.q ea_nil k
theorem qa_cons (h : EQ Y e γ M fun s M1 => EAQ Y es γ M1 fun ss M2 => Qs (s :: ss) M2) (hs : starEach (e :: es) Y.X.env = (false, eval e Y.X.env) :: starEach es Y.X.env := by rfl) : EAQ Y (e :: es) γ M Qs :=
  ⟨PA.imp (pa_cons h.pe uA_ok hs) fun σ H R ⟨F, r, q, ex⟩ => ⟨F, r, fun F1 v s M1 H1 e1 r1 v1 hq => ⟨_, hq.pa, F1, r1, fun F2 vs ss M2 H2 e2 r2 v2 q2 => q F2 (v :: vs) (s :: ss) M2 H2 (e1.trans e2) r2 (.cons (v1.mono e2) v2) q2, ex.mono e1⟩, ex⟩⟩
/-- an item told by one term, the rest not -/
theorem qa_v (h : EV Y e γ M s M1) (k : EAQ Y es γ M1 fun ss M2 => Qs (s :: ss) M2) (hs : starEach (e :: es) Y.X.env = (false, eval e Y.X.env) :: starEach es Y.X.env := by rfl) : EAQ Y (e :: es) γ M Qs := qa_cons (h.q k) hs
theorem q_tup {kk} (h : EAQ Y es γ M fun ss M1 => ∃ ds : List PyData, ss = ds.map S.d ∧ Nat.ble ds.length 100000 = true ∧ Q (.d (.tuple ds)) M1) : EQ Y (.Tuple es kk pos) γ M Q :=
  ⟨PE.imp (pe_tup h.pa) fun σ H R ⟨F, r, q, ex⟩ => ⟨F, r, fun F1 vs ss M1 H1 e1 r1 v1 ⟨ds, hd, hn, hQ⟩ => by
    subst hd
    exact ⟨by rw [pair_len v1, List.length_map]; exact small hn, fun p hp => by
      obtain ⟨e2, h2⟩ := r1.hm.newF hp (.tup vs)
      exact q _ _ (.d (.tuple ds)) _ _ (e1.trans e2) (r1.ext e2 h2) (.tup (.inl (.inl upd_same)) (dps_mono e2 _ _ (all_d v1))) hQ⟩, ex⟩⟩
theorem q_lst (h : EAQ Y es γ M fun ss M1 => ∃ ds : List PyData, ss = ds.map S.d ∧ Nat.ble ds.length 100000 = true ∧ Q (.d (.list ds)) M1) : EQ Y (.List es pos) γ M Q :=
  ⟨PE.imp (pe_lst h.pa) fun σ H R ⟨F, r, q, ex⟩ => ⟨F, r, fun F1 vs ss M1 H1 e1 r1 v1 ⟨ds, hd, hn, hQ⟩ => by
    subst hd
    exact ⟨by rw [pair_len v1, List.length_map]; exact small hn, fun p hp => by
      obtain ⟨e2, h2⟩ := r1.hm.newF hp (.lst vs)
      exact q _ _ (.d (.list ds)) _ _ (e1.trans e2) (r1.ext e2 h2) (.lst (.inl (.inl upd_same)) (dps_mono e2 _ _ (all_d v1))) hQ⟩, ex⟩⟩
/-- a list that may change, of items not told -/
theorem q_lstM (h : EAQ Y es γ M fun ss M1 => Nat.ble ss.length 100000 = true ∧ ∀ q, Q (.ob q) (M1 ++ [(q, .lst ss)])) : EQ Y (.List es pos) γ M Q :=
  ⟨PE.imp (pe_lst h.pa) fun σ H R ⟨F, r, q, ex⟩ => ⟨F, r, fun F1 vs ss M1 H1 e1 r1 v1 ⟨hn, hQ⟩ => ⟨by rw [pair_len v1]; exact small hn, fun p hp => by
    have h2 := r1.hm.newM hp (o := .lst vs) (m := .lst ss) ⟨vs, upd_same, v1⟩
    exact q F1 _ (.ob p) _ _ e1 ⟨h2, r1.sl⟩ rfl (hQ p)⟩, ex⟩⟩
theorem q_callQ {k : Nat} {f : Addr} {fd : FuncData} {ps : List Str} {cn : Con} (G : FnOk Y.X.prog Y.X.w Y.X.K Y.X.mg Y.X.base (L2.CX Y.X.prog Y.X.w) k f fd ps (spD Y.X.K cn)) (hr : Room k Y.X.A) (hm : Y.X.mg x = some (.ref f)) (hk : PySem.W.keepIn Y.X.K (.ref f) = true) (hb : Binds Y.X.K fd ps [])
    (tk : Takes Y.X Y.Er) (ha : EAQ Y (e :: es) γ M fun ss M1 => cn ss M1 Q (fun cls M' => Y.Rx cls γ M')) (hg : Gl Y.X x := by rfl) (hdb : (x == ("__debug__" : Str)) = false := by decide)
    (he : starEach (e :: es) Y.X.env = (false, eval e Y.X.env) :: starEach es Y.X.env := by rfl) (hpl : (backTo pos (starEach es Y.X.env)).any (·.1) = false := by rfl) : EQ Y (.Call (.Name x p) (e :: es) [] pos) γ M Q :=
  ⟨PE.imp (pe_callS G hr hg hm hk hb (fun σ => passAt tk σ) ha.pa hdb he hpl) fun σ H R ⟨F, rl, q, ex⟩ => ⟨F, rl, fun F1 vs ss M1 H1 e1 r1 v1 h => by
    refine ⟨F1, M1, ss, _, _, v1, r1.hm, h, fun F' v r M' H' e2 h2 v2 hR => ?_, fun cls M' F' H' e2 h2 hR => ex cls γ M' F' σ H' (e1.trans e2) (r1.ext e2 h2) hR⟩
    exact q F' v r M' H' (e1.trans e2) (r1.ext e2 h2) v2 hR, ex⟩⟩
end
/-- nothing is in the air of a comprehension's own block -/
theorem tkF {X : Cx} : Takes X (fun _ _ _ _ => False) := fun u s' ⟨_, _, _, _, _, _, _, _, _, _, _, _, _, _, _, _, w⟩ => w.elim
end Mi

/-! Mi: a list that changes no more; comprehensions over told rows. -/
namespace Mi
open PySem PySem.Spec PyProof.Rows L2
section
variable {Y : Ct} {γ γ' : List S} {M M1 M2 M3 : MM} {s s1 s2 s3 : S} {e a b c o it elt : Expr} {pos p p2 : Pos} {x : Str} {i j lo hi : Int} {b1 b2 : Bool} {es : List Expr} {ss : List S} {P : Po} {body : List Stmt} {tg : Expr} {Q : S → MM → Prop} {scope : Scope} {xs : List S}
theorem set_at {α : Type} {x : α} : ∀ {xs : List α} {i : Nat}, xs[i]? = some x → xs.set i x = xs
  | [], _, h => by simp at h
  | y :: ys, 0, h => by simp at h; subst h; rfl
  | y :: ys, i + 1, h => by
    simp at h
    show y :: ys.set i x = y :: ys
    rw [set_at h]
/-- the last of the changing ones changes no more, as slot i has it -/
theorem b_frz (i : Nat) {q : Addr} {ds : List PyData} {sts : List Stmt} (hi : γ[i]? = some (.ob q)) (h : BL Y sts (γ.set i (.d (.list ds))) M P) : BL Y sts γ (M ++ [(q, .lst (ds.map S.d))]) P :=
  ⟨PSs.imp h.ps fun D σ H ⟨F, r, qq, ex⟩ => by
    obtain ⟨vs, g1, g2, g3, g4⟩ := r.hm.frz
    obtain ⟨o, h1, h2⟩ := pair_get r.sl hi
    obtain ⟨v, rfl, h3⟩ := h2.val rfl
    cases h3
    have r2 := r.ext g3 g4
    have hv : SR Y.X.K (upd F q (.lst vs)) (.ref q) (.d (.list ds)) := .lst (.inl (.inl upd_same)) (dps_mono g3 _ _ g2)
    have r3 := pair_set (sr_or hv) i r2.sl
    rw [set_at h1] at r3
    exact ⟨_, ⟨r2.hm, r3⟩, qq.mono g3, ex.mono g3⟩⟩
/-- [elt for x in it], it a row of l as f shows it -/
theorem n_compI {α : Type} (j : Nat) {n : Str} {cpos : Pos} (l : List α) (f g : α → PyData) (hc : Y.X.calm = true) (hN : Y.X.N.Nodup) (hI : EI Y (.Name n p) it γ M ((l.map f).map S.d) (fun _ => True) M1) (ok : BlkOk Y.X.N Y.X.env.scope scope [(n, j)]) (hj : j < γ.length) (hn : Nat.ble l.length 99999 = true)
    (turn : ∀ a ∈ l, ∀ M' s H C cl fp, EV (Y.blk scope s H C cl fp) elt (compG γ j (.d (f a))) M' (.d (g a)) M')
    (hg : ∀ (s : Shared) (H : Hp) (C : Addr) (cl : List (Str × Addr)) (fp : List Addr), PG (Y.X.blk s H scope (compEnvC scope cl C Y.X.env) fp) (.Name n p) (gName j) := by exact fun _ _ _ _ _ => pg_name (by assumption) rfl (Or.inl rfl))
    (hs : ∀ x, foldedSetIterable it Y.X.env x = pure x := by intro _; rfl) : EN Y (.ListComp elt [⟨.Name n p, it, [], 0⟩] scope cpos) γ M (.lst ((l.map g).map S.d)) M1 :=
  n_comp j ((l.map g).map S.d) hc hN hI ok hj (by simp) (by have := Nat.le_of_ble_eq_true hn; simpa using this) (fun i x y M' hx hy => by
    rw [List.getElem?_map, List.getElem?_map] at hx hy
    cases e : l[i]? with
    | none => rw [e] at hx; cases hx
    | some a =>
      rw [e] at hx hy
      cases hx; cases hy
      exact turn a (List.mem_of_getElem? e) M') hg hs
end
end Mi

/-! Mi: answers of which objects are left behind; comprehensions of drawn items. -/
namespace Mi
open PySem PySem.Spec PyProof.Rows L2
section
variable {Y : Ct} {γ γ' : List S} {M M1 M2 M3 : MM} {s s1 s2 s3 : S} {e a b c o it elt : Expr} {pos p p2 : Pos} {x : Str} {i j lo hi : Int} {b1 b2 : Bool} {es : List Expr} {ss : List S} {P : Po} {body : List Stmt} {tg : Expr} {Q : S → MM → Prop} {scope : Scope} {xs : List S}
theorem EQ.gc (h : EQ Y e γ M fun s M1 => ∃ M2 : MM, M2.Sublist M1 ∧ Q s M2) : EQ Y e γ M Q :=
  ⟨PE.imp h.pe fun σ H R ⟨F, r, q, ex⟩ => ⟨F, r, fun F1 v s M1 H1 e1 r1 v1 ⟨M2, l, k⟩ => q F1 v s M2 H1 e1 ⟨r1.hm.sub l, r1.sl⟩ v1 k, ex⟩⟩
theorem EQ.imp {Q' : S → MM → Prop} (h : EQ Y e γ M Q') (k : ∀ s M1, Q' s M1 → Q s M1) : EQ Y e γ M Q :=
  ⟨PE.imp h.pe fun σ H R ⟨F, r, q, ex⟩ => ⟨F, r, fun F1 v s M1 H1 e1 r1 v1 z => q F1 v s M1 H1 e1 r1 v1 (k s M1 z), ex⟩⟩
/-- each item of l has one of r beside it, of which Pr -/
inductive Beside {α β : Type} (Pr : α → β → Prop) : List α → List β → Prop where
  | nil : Beside Pr [] []
  | snoc {l : List α} {r : List β} {a : α} {b : β} (h : Beside Pr l r) (k : Pr a b) : Beside Pr (l ++ [a]) (r ++ [b])
theorem Beside.len {α β : Type} {Pr : α → β → Prop} {l : List α} {r : List β} (h : Beside Pr l r) : r.length = l.length := by
  induction h with
  | nil => rfl
  | snoc h k ih => simp [ih]
theorem Beside.all {α β : Type} {Pr : α → β → Prop} {l : List α} {r : List β} (h : Beside Pr l r) : ∀ b ∈ r, ∃ a ∈ l, Pr a b := by
  induction h with
  | nil => intro b hb; cases hb
  | snoc h k ih =>
    intro b hb
    rcases List.mem_append.mp hb with hb | hb
    · obtain ⟨a, ha, hp⟩ := ih b hb
      exact ⟨a, List.mem_append_left _ ha, hp⟩
    · rw [List.mem_singleton.mp hb]
      exact ⟨_, List.mem_append_right _ List.mem_cons_self, k⟩
theorem q_compP {α β : Type} (j : Nat) {n : Str} {cpos : Pos} (l : List α) (f : α → PyData) (g : β → PyData) (Pr : α → β → Prop) (hc : Y.X.calm = true) (hN : Y.X.N.Nodup) (hI : EI Y (.Name n p) it γ M ((l.map f).map S.d) (fun _ => True) M1) (ok : BlkOk Y.X.N Y.X.env.scope scope [(n, j)]) (hj : j < γ.length) (hn : l.length ≤ 99999)
    (turn : ∀ a ∈ l, ∀ M' s H C cl fp, EQ (Y.blk scope s H C cl fp) elt (compG γ j (.d (f a))) M' fun y M3 => M'.Sublist M3 ∧ ∃ b, y = .d (g b) ∧ Pr a b)
    (done : ∀ (D : Addr) (r : List β), Beside Pr l r → Q (.ob D) (M1 ++ [(D, .lst ((r.map g).map S.d))]))
    (hg : ∀ (s : Shared) (H : Hp) (C : Addr) (cl : List (Str × Addr)) (fp : List Addr), PG (Y.X.blk s H scope (compEnvC scope cl C Y.X.env) fp) (.Name n p) (gName j) := by exact fun _ _ _ _ _ => pg_name (by assumption) rfl (Or.inl rfl))
    (hs : ∀ x, foldedSetIterable it Y.X.env x = pure x := by intro _; rfl) : EQ Y (.ListComp elt [⟨.Name n p, it, [], 0⟩] scope cpos) γ M Q :=
  q_comp (elt := elt) (cpos := cpos) (ifs := []) j hc hN hI ok hj (fun i M' acc => M' = M1 ∧ i ≤ l.length ∧ ∃ r : List β, Beside Pr (l.take i) r ∧ acc = (r.map g).map S.d) ⟨rfl, Nat.zero_le _, [], .nil, rfl⟩
    (fun i M' acc ⟨_, h2, r, h3, h4⟩ => ⟨by rw [h4, List.length_map, List.length_map, h3.len, List.length_take]; omega, fun _ => trivial⟩)
    (fun i x M' acc D hx ⟨h1, h2, r, h3, h4⟩ => by
      rw [List.getElem?_map, List.getElem?_map] at hx
      cases e : l[i]? with
      | none => rw [e] at hx; cases hx
      | some a =>
        rw [e] at hx
        cases hx
        refine ⟨true, M', ptsB, fun _ s H C cl fp => EQ.gc ((turn a (List.mem_of_getElem? e) _ s H C cl fp).imp fun y M3 ⟨l1, b, hy, hb⟩ => ⟨_, l1, M', rfl, h1, (List.getElem?_eq_some_iff.mp e).1, r ++ [b], ?_, ?_⟩), fun z => nomatch z⟩
        · rw [List.take_add_one, e]
          exact .snoc h3 hb
        · rw [h4, hy, List.map_append, List.map_append]
          rfl)
    (fun D M' acc ⟨h1, h2, r, h3, h4⟩ => by
      rw [List.length_map, List.length_map, List.take_length] at h3
      rw [h1, h4]
      exact done D r h3) hg hs
end
end Mi

/-! Mi: name = [.. for ..] on one line. -/
namespace Mi
open PySem PySem.Spec PyProof.Rows L2
section
variable {Y : Ct} {γ γ' : List S} {M M1 M2 M3 : MM} {s s1 s2 s3 : S} {e a b c o it elt : Expr} {pos p p2 : Pos} {x : Str} {i j lo hi : Int} {b1 b2 : Bool} {es ifs : List Expr} {ss : List S} {P : Po} {body : List Stmt} {tg : Expr} {Q : S → MM → Prop} {scope : Scope} {xs : List S}
theorem s_comp (ii j : Nat) {n y : Str} {py spos : Pos} {Sd : MM → Prop} {cpos : Pos} (hc : Y.X.calm = true) (hN : Y.X.N.Nodup) (hI : EI Y (.Name n p) it γ M xs Sd M1) (ok : BlkOk Y.X.N Y.X.env.scope scope [(n, j)]) (hj : j < γ.length)
    (Iv : Nat → MM → List S → Prop) (h0 : Iv 0 M1 []) (hS : ∀ i M' acc, Iv i M' acc → acc.length ≤ 99999 ∧ ∀ D, Sd (M' ++ [(D, .lst acc)]))
    (turn : ∀ (i : Nat) x M' acc (D : Addr), xs[i]? = some x → Iv i M' acc → ∃ b M2, (∀ s H C cl fp, PTs (Y.blk scope s H C cl fp).X ifs (tET Y.un (compG γ j x) (M' ++ [(D, .lst acc)]) b (M2 ++ [(D, .lst acc)]))) ∧
      (b = true → ∀ s H C cl fp, EQ (Y.blk scope s H C cl fp) elt (compG γ j x) (M2 ++ [(D, .lst acc)]) fun y M3 => ∃ M4, M3 = M4 ++ [(D, .lst acc)] ∧ Iv (i + 1) M4 (acc ++ [y])) ∧ (b = false → Iv (i + 1) M2 acc))
    (done : ∀ D M' acc, Iv xs.length M' acc → P.nx (γ.set ii (.ob D)) (M' ++ [(D, .lst acc)]))
    (hi : Y.X.N[ii]? = some y := by rfl) (hyl : Y.X.env.scope.names.lookup y = some .local := by rfl)
    (hsw : swapsWith (.ListComp elt [⟨.Name n p, it, ifs, 0⟩] scope cpos) (some (.Name y py)) spos.line Y.X.env = pure true := by exact sw_true rfl rfl rfl rfl)
    (hg : ∀ (s : Shared) (H : Hp) (C : Addr) (cl : List (Str × Addr)) (fp : List Addr), PG (Y.X.blk s H scope (compEnvC scope cl C Y.X.env) fp) (.Name n p) (gName j) := by exact fun _ _ _ _ _ => pg_name (by assumption) rfl (Or.inl rfl))
    (hs : ∀ x, foldedSetIterable it Y.X.env x = pure x := by intro _; rfl) : ST Y (.Assign [.Name y py] (.ListComp elt [⟨.Name n p, it, ifs, 0⟩] scope cpos) spos) γ M P := by
  obtain ⟨wi, hw, run⟩ := hI.ex
  refine ⟨PS.imp (ps_setLc (g := gName j) (tt := uTb Y.X scope ifs) (te := uEb Y.X scope elt) hc hN hi hyl hsw hw ok hg uTb_ok uEb_ok hs) fun D σ H ⟨F, r, q, ex⟩ => ?_⟩
  refine run F σ H _ r ex fun F1 H1 J e1 r1 Wk => ?_
  have hl : σ.length = γ.length := pair_len r.sl
  refine comp_core j (n := n) (wi := wi) (Qd := fun v H2 => gName ii v σ H2 D.nx) (by omega) Iv h0 hS turn e1 r1 Wk ex fun F' L M' acc H' e2 r2 w => ?_
  exact q.nx _ _ F' _ H' e2 ⟨r2.hm, pair_set (sr_or (s := .ob L) rfl) ii r2.sl⟩ (done L M' acc w)
theorem s_compI {α : Type} (ii j : Nat) {n y : Str} {py spos : Pos} {cpos : Pos} (l : List α) (f g : α → PyData) (hc : Y.X.calm = true) (hN : Y.X.N.Nodup) (hI : EI Y (.Name n p) it γ M ((l.map f).map S.d) (fun _ => True) M1) (ok : BlkOk Y.X.N Y.X.env.scope scope [(n, j)]) (hj : j < γ.length) (hn : Nat.ble l.length 99999 = true)
    (turn : ∀ a ∈ l, ∀ M' s H C cl fp, EV (Y.blk scope s H C cl fp) elt (compG γ j (.d (f a))) M' (.d (g a)) M')
    (done : ∀ D, P.nx (γ.set ii (.ob D)) (M1 ++ [(D, .lst ((l.map g).map S.d))]))
    (hg : ∀ (s : Shared) (H : Hp) (C : Addr) (cl : List (Str × Addr)) (fp : List Addr), PG (Y.X.blk s H scope (compEnvC scope cl C Y.X.env) fp) (.Name n p) (gName j) := by exact fun _ _ _ _ _ => pg_name (by assumption) rfl (Or.inl rfl))
    (hi : Y.X.N[ii]? = some y := by rfl) (hyl : Y.X.env.scope.names.lookup y = some .local := by rfl)
    (hsw : swapsWith (.ListComp elt [⟨.Name n p, it, [], 0⟩] scope cpos) (some (.Name y py)) spos.line Y.X.env = pure true := by exact sw_true rfl rfl rfl rfl)
    (hs : ∀ x, foldedSetIterable it Y.X.env x = pure x := by intro _; rfl) : ST Y (.Assign [.Name y py] (.ListComp elt [⟨.Name n p, it, [], 0⟩] scope cpos) spos) γ M P :=
  s_comp ii j hc hN hI ok hj (fun i M' acc => M' = M1 ∧ acc = ((l.take i).map g).map S.d ∧ i ≤ l.length) ⟨rfl, rfl, Nat.zero_le _⟩
    (fun i M' acc ⟨_, h2, h3⟩ => ⟨by have := Nat.le_of_ble_eq_true hn; rw [h2, List.length_map, List.length_map, List.length_take]; omega, fun _ => trivial⟩)
    (fun i x M' acc D hx ⟨h1, h2, h3⟩ => by
      rw [List.getElem?_map, List.getElem?_map] at hx
      cases e : l[i]? with
      | none => rw [e] at hx; cases hx
      | some a =>
        rw [e] at hx
        cases hx
        refine ⟨true, M', ptsB, fun _ s H C cl fp => (turn a (List.mem_of_getElem? e) _ s H C cl fp).q ⟨M', rfl, h1, ?_, (List.getElem?_eq_some_iff.mp e).1⟩, fun z => nomatch z⟩
        rw [h2, List.take_add_one, e]
        simp)
    (fun D M' acc ⟨h1, h2, _⟩ => by
      rw [List.length_map, List.length_map, List.take_length] at h2
      rw [h1, h2]
      exact done D) hi hyl hsw hg hs
theorem s_compP {α β : Type} (ii j : Nat) {n y : Str} {py spos : Pos} {cpos : Pos} (l : List α) (f : α → PyData) (g : β → PyData) (Pr : α → β → Prop) (hc : Y.X.calm = true) (hN : Y.X.N.Nodup) (hI : EI Y (.Name n p) it γ M ((l.map f).map S.d) (fun _ => True) M1) (ok : BlkOk Y.X.N Y.X.env.scope scope [(n, j)]) (hj : j < γ.length) (hn : l.length ≤ 99999)
    (turn : ∀ a ∈ l, ∀ M' s H C cl fp, EQ (Y.blk scope s H C cl fp) elt (compG γ j (.d (f a))) M' fun y M3 => M'.Sublist M3 ∧ ∃ b, y = .d (g b) ∧ Pr a b)
    (done : ∀ (D : Addr) (r : List β), Beside Pr l r → P.nx (γ.set ii (.ob D)) (M1 ++ [(D, .lst ((r.map g).map S.d))]))
    (hg : ∀ (s : Shared) (H : Hp) (C : Addr) (cl : List (Str × Addr)) (fp : List Addr), PG (Y.X.blk s H scope (compEnvC scope cl C Y.X.env) fp) (.Name n p) (gName j) := by exact fun _ _ _ _ _ => pg_name (by assumption) rfl (Or.inl rfl))
    (hi : Y.X.N[ii]? = some y := by rfl) (hyl : Y.X.env.scope.names.lookup y = some .local := by rfl)
    (hsw : swapsWith (.ListComp elt [⟨.Name n p, it, [], 0⟩] scope cpos) (some (.Name y py)) spos.line Y.X.env = pure true := by exact sw_true rfl rfl rfl rfl)
    (hs : ∀ x, foldedSetIterable it Y.X.env x = pure x := by intro _; rfl) : ST Y (.Assign [.Name y py] (.ListComp elt [⟨.Name n p, it, [], 0⟩] scope cpos) spos) γ M P :=
  s_comp ii j hc hN hI ok hj (fun i M' acc => M' = M1 ∧ i ≤ l.length ∧ ∃ r : List β, Beside Pr (l.take i) r ∧ acc = (r.map g).map S.d) ⟨rfl, Nat.zero_le _, [], .nil, rfl⟩
    (fun i M' acc ⟨_, h2, r, h3, h4⟩ => ⟨by rw [h4, List.length_map, List.length_map, h3.len, List.length_take]; omega, fun _ => trivial⟩)
    (fun i x M' acc D hx ⟨h1, h2, r, h3, h4⟩ => by
      rw [List.getElem?_map, List.getElem?_map] at hx
      cases e : l[i]? with
      | none => rw [e] at hx; cases hx
      | some a =>
        rw [e] at hx
        cases hx
        refine ⟨true, M', ptsB, fun _ s H C cl fp => EQ.gc ((turn a (List.mem_of_getElem? e) _ s H C cl fp).imp fun y M3 ⟨l1, b, hy, hb⟩ => ⟨_, l1, M', rfl, h1, (List.getElem?_eq_some_iff.mp e).1, r ++ [b], ?_, ?_⟩), fun z => nomatch z⟩
        · rw [List.take_add_one, e]
          exact .snoc h3 hb
        · rw [h4, hy, List.map_append, List.map_append]
          rfl)
    (fun D M' acc ⟨h1, h2, r, h3, h4⟩ => by
      rw [List.length_map, List.length_map, List.take_length] at h3
      rw [h1, h4]
      exact done D r h3) hi hyl hsw hg hs
end
end Mi

/-! Mi: zip. -/
namespace Mi
open PySem PySem.Spec PyProof.Rows L2 RZ
def zipS (ds es : List PyData) : List S := (ds.zip es).map fun p => S.d (.tuple [p.1, p.2])
theorem zipS_at {ds es : List PyData} {i : Nat} {x : S} (h : (zipS ds es)[i]? = some x) : ∃ d e, ds[i]? = some d ∧ es[i]? = some e ∧ x = .d (.tuple [d, e]) := by
  unfold zipS at h
  rw [List.getElem?_map] at h
  cases e : (ds.zip es)[i]? with
  | none => rw [e] at h; cases h
  | some p =>
    rw [e] at h
    have h2 := List.getElem?_zip_eq_some.mp e
    exact ⟨p.1, p.2, h2.1, h2.2, (Option.some.inj h).symm⟩
theorem zipS_len (ds es : List PyData) : (zipS ds es).length = min ds.length es.length := by simp [zipS]
theorem walks_zt {K : PySem.W.Frag} {F1 : Hp} {a b : Addr} {vs ws : List V} {ds es : List PyData} (h1 : SqT K F1 a vs) (h2 : DpAll K F1 vs ds) (g1 : SqT K F1 b ws) (g2 : DpAll K F1 ws es) : Walks K (ItzT K a b) F1 (zipS ds es) (fun _ => True) := by
  have hl : vs.length = ds.length := dps_len h2
  have gl : ws.length = es.length := dps_len g2
  refine ⟨fun i H' F' M' e hm _ hi => ?_, fun i H' v H'' x F' γ' M' σ' hx e r _ y => ?_, fun i H' F' M' e hm _ hi => ?_⟩
  · rw [zipS_len] at hi
    exact ⟨vs, ws, vs[i]'(by omega), ws[i]'(by omega), same_t (e.trans hm.fh) h1, same_t (e.trans hm.fh) g1, by simp, by simp⟩
  · obtain ⟨T, x1, y1, rfl, hT, rfl, hx1, hy1⟩ := y
    have e4 := hx1 vs (same_t (e.trans r.hm.fh) h1)
    have e5 := hy1 ws (same_t (e.trans r.hm.fh) g1)
    obtain ⟨d, e', hd, he, rfl⟩ := zipS_at hx
    obtain ⟨d2, hd2, dp1⟩ := dps_getV h2 e4
    obtain ⟨d3, hd3, dp2⟩ := dps_getV g2 e5
    rw [hd] at hd2; cases hd2
    rw [he] at hd3; cases hd3
    obtain ⟨e6, h6⟩ := r.hm.newF hT (.tup [x1, y1])
    exact ⟨_, e6, r.ext e6 h6, .tup (.inl (.inl upd_same)) (.cons (dp_mono (e.trans e6) _ _ dp1) (.cons (dp_mono (e.trans e6) _ _ dp2) .nil))⟩
  · rw [zipS_len] at hi
    exact ⟨vs, ws, same_t (e.trans hm.fh) h1, same_t (e.trans hm.fh) g1, by omega⟩
theorem walks_zl {K : PySem.W.Frag} {F1 : Hp} {a b : Addr} {vs ws : List V} {ds es : List PyData} (h1 : SqL K F1 a vs) (h2 : DpAll K F1 vs ds) (g1 : SqL K F1 b ws) (g2 : DpAll K F1 ws es) : Walks K (Itz K a b) F1 (zipS ds es) (fun _ => True) := by
  have hl : vs.length = ds.length := dps_len h2
  have gl : ws.length = es.length := dps_len g2
  refine ⟨fun i H' F' M' e hm _ hi => ?_, fun i H' v H'' x F' γ' M' σ' hx e r _ y => ?_, fun i H' F' M' e hm _ hi => ?_⟩
  · rw [zipS_len] at hi
    exact ⟨vs, ws, vs[i]'(by omega), ws[i]'(by omega), (e.trans hm.fh).seq h1, (e.trans hm.fh).seq g1, by simp, by simp⟩
  · obtain ⟨T, x1, y1, rfl, hT, rfl, hx1, hy1⟩ := y
    have e4 := hx1 vs ((e.trans r.hm.fh).seq h1)
    have e5 := hy1 ws ((e.trans r.hm.fh).seq g1)
    obtain ⟨d, e', hd, he, rfl⟩ := zipS_at hx
    obtain ⟨d2, hd2, dp1⟩ := dps_getV h2 e4
    obtain ⟨d3, hd3, dp2⟩ := dps_getV g2 e5
    rw [hd] at hd2; cases hd2
    rw [he] at hd3; cases hd3
    obtain ⟨e6, h6⟩ := r.hm.newF hT (.tup [x1, y1])
    exact ⟨_, e6, r.ext e6 h6, .tup (.inl (.inl upd_same)) (.cons (dp_mono (e.trans e6) _ _ dp1) (.cons (dp_mono (e.trans e6) _ _ dp2) .nil))⟩
  · rw [zipS_len] at hi
    exact ⟨vs, ws, (e.trans hm.fh).seq h1, (e.trans hm.fh).seq g1, by omega⟩
section
variable {Y : Ct} {γ γ' : List S} {M M1 M2 M3 : MM} {s s1 s2 s3 : S} {e a b c o it elt : Expr} {pos p p2 tpos : Pos} {x : Str} {es elts : List Expr} {ss : List S}
theorem i_zipT {kk : Nat} {ds es : List PyData} (hg : Gl Y.X "zip" := by rfl) (hm : Y.X.mg "zip" = none) (ha : EA Y [a, b] γ M [.d (.tuple ds), .d (.tuple es)] M1)
    (hs : starEach [a, b] Y.X.env = (false, eval a Y.X.env) :: starEach [b] Y.X.env := by rfl) (hpl : (backTo pos (starEach [b] Y.X.env)).any (·.1) = false := by rfl) :
    EI Y (.Tuple elts kk tpos) (.Call (.Name "zip" p) [a, b] [] pos) γ M (zipS ds es) (fun _ => True) M1 :=
  ⟨_, pi_zipA hg hm ha.pa hs hpl, fun F σ H R r ex k => ⟨F, r, fun F1 vs H1 e1 r1 v1 => by
    obtain ⟨v, w, rfl, h1, h2⟩ := pair_two v1
    cases h1 with
    | tup g1 g2 =>
      cases h2 with
      | tup g3 g4 => exact ⟨_, _, _, _, rfl, .inr ⟨same_t r1.hm.fh g1, same_t r1.hm.fh g3, k F1 H1 _ e1 r1 (walks_zt g1 g2 g3 g4)⟩⟩, ex⟩⟩
theorem i_zipL {kk : Nat} {ds es : List PyData} (hg : Gl Y.X "zip" := by rfl) (hm : Y.X.mg "zip" = none) (ha : EA Y [a, b] γ M [.d (.list ds), .d (.list es)] M1)
    (hs : starEach [a, b] Y.X.env = (false, eval a Y.X.env) :: starEach [b] Y.X.env := by rfl) (hpl : (backTo pos (starEach [b] Y.X.env)).any (·.1) = false := by rfl) :
    EI Y (.Tuple elts kk tpos) (.Call (.Name "zip" p) [a, b] [] pos) γ M (zipS ds es) (fun _ => True) M1 :=
  ⟨_, pi_zipA hg hm ha.pa hs hpl, fun F σ H R r ex k => ⟨F, r, fun F1 vs H1 e1 r1 v1 => by
    obtain ⟨v, w, rfl, h1, h2⟩ := pair_two v1
    cases h1 with
    | lst g1 g2 =>
      cases h2 with
      | lst g3 g4 => exact ⟨_, _, _, _, rfl, .inl ⟨r1.hm.fh.seq g1, r1.hm.fh.seq g3, k F1 H1 _ e1 r1 (walks_zl g1 g2 g3 g4)⟩⟩, ex⟩⟩
end
end Mi

/-! Mi: a < b < c. -/
namespace Mi
open PySem PySem.Spec PyProof.Rows L2
section
variable {Y : Ct} {γ γ' : List S} {M M1 M2 M3 : MM} {a b c : Expr} {pos : Pos} {i j l : Int}
theorem t_chain {op op' : CmpOp} {f g : Int → Int → Bool} (ho : OpR Y.X (compareOp op) (rI0 fun i j => .bl (f i j))) (ho' : OpR Y.X (compareOp op') (rI0 fun i j => .bl (g i j))) (ha : EV Y a γ M (.d (.int i)) M1) (hb : EV Y b γ M1 (.d (.int j)) M2) (hc : EV Y c γ M2 (.d (.int l)) M2)
    (hm : lastMarks [op, op'] [b, c] = false := by with_unfolding_all rfl) : ET Y (.Compare a [op, op'] [b, c] pos) γ M (f i j && g j l) M2 :=
  ⟨PT.imp (pt_chain ho ho' ha.pe hb.pe hc.pe hm) fun σ H Q ⟨F, rl, q, ex⟩ => ⟨F, rl, fun F1 v H1 e1 r1 v1 => ⟨F1, r1, fun F2 w H2 e2 r2 v2 => by
    cases v1
    cases v2
    refine ⟨i, j, rfl, rfl, f i j, rfl, ?_⟩
    cases hf : f i j with
    | true =>
      rw [if_pos rfl]
      refine ⟨F2, r2, fun F3 u H3 e3 r3 v3 => ?_, ex.mono (e1.trans e2)⟩
      cases v3
      rw [hf] at q
      exact ⟨j, l, rfl, rfl, g j l, rfl, q F3 H3 ((e1.trans e2).trans e3) r3⟩
    | false =>
      rw [if_neg (by decide)]
      rw [hf] at q
      exact ⟨false, rfl, q F2 H2 (e1.trans e2) r2⟩, ex.mono e1⟩, ex⟩⟩
/-- a call's answer that is told by one term, objects left behind -/
theorem EV.ofQ {e : Expr} {s : S} (h : EQ Y e γ M fun s' M3 => s' = s ∧ M1.Sublist M3) : EV Y e γ M s M1 :=
  ⟨PE.imp h.pe fun σ H Q ⟨F, r, q, ex⟩ => ⟨F, r, fun F1 v s' M3 H1 e1 r1 v1 ⟨h1, l⟩ => by
    subst h1
    exact q F1 v H1 e1 ⟨r1.hm.sub l, r1.sl⟩ v1, ex⟩⟩
end
end Mi

/-! Mi: an item of an answer that is not told by one term. -/
namespace Mi
open PySem PySem.Spec PyProof.Rows L2
section
variable {Y : Ct} {γ γ' : List S} {M M1 M2 M3 : MM} {a b c : Expr} {pos : Pos} {i j l : Int} {Q : S → MM → Prop}
theorem q_ix (h : EQ Y a γ M fun s M1 => ∃ (d d' : PyData) (i : Int), s = .d d ∧ EV Y b γ M1 (.d (.int i)) M1 ∧ itD d i = some d' ∧ Q (.d d') M1) (hs : PlainIx b := by exact fun _ _ => rfl) : EQ Y (.Subscript a b pos) γ M Q :=
  ⟨PE.imp (pe_ix ix_seq h.pe uE_ok hs) fun σ H R ⟨F, r, q, ex⟩ => ⟨F, r, fun F1 v s M1 H1 e1 r1 v1 ⟨d, d', i, hd, hb, hi, hQ⟩ => by
    subst hd
    exact ⟨_, hb.pe, F1, r1, fun F2 w H2 e2 r2 v2 => (rv_ix (M := M1) hi).run F2 v w H2 _ r2.hm (v1.mono e2) v2 fun F3 u H3 e3 h3 v3 => q F3 u (.d d') M1 H3 ((e1.trans e2).trans e3) (r2.ext e3 h3) v3 hQ, ex.mono e1⟩, ex⟩⟩
end
end Mi

/-! Mi: slices of tuples, tuples of whole numbers compared. -/
namespace Mi
open PySem PySem.Spec PyProof.Rows L2
theorem dps_cut {K : PySem.W.Frag} {F : Hp} {vs : List V} {ds : List PyData} {l h : Option Int} (g : DpAll K F vs ds) : DpAll K F (cutV vs l h) (cutL ds l h) := by
  have := pair_cut (l := l) (h := h) (d_all g)
  rw [cutL_map] at this
  exact all_d this
theorem ints_of {K : PySem.W.Frag} {F : Hp} : ∀ {vs : List V} {ns : List Int}, DpAll K F vs (ns.map PyData.int) → vs = ns.map V.int
  | _, [], h => by cases h; rfl
  | _, n :: ns, h => by
    cases h with
    | cons h1 h2 =>
      cases h1
      rw [ints_of h2]
      rfl
section
variable {Y : Ct} {γ γ' : List S} {M M1 M2 M3 : MM} {a b c : Expr} {pos p2 : Pos} {i j : Int}
theorem e_sliceT {ds : List PyData} {lo hi : Option Expr} {l h : Option Int} (ha : EV Y a γ M (.d (.tuple ds)) M1) (h1 : EO Y lo γ M1 l) (h2 : EO Y hi γ M1 h) (hw : ¬ (HT.sIx ds.length 0 l = 0 ∧ HT.sIx ds.length ds.length h = ds.length)) :
    EV Y (.Subscript a (.Slice lo hi none p2) pos) γ M (.d (.tuple (cutL ds l h))) M1 := by
  obtain ⟨tl, pl, ql⟩ := h1.ex
  obtain ⟨th, ph, qh⟩ := h2.ex
  refine ⟨PE.imp (pe_slice sl_tup ha.pe pl ph) fun σ H Q ⟨F, r, q, ex⟩ => ⟨F, r, fun F1 v H1 e1 r1 w1 => ql F1 σ H1 _ r1 (ex.mono e1) fun F2 H2 e2 r2 => qh F2 σ H2 _ r2 (ex.mono (e1.trans e2)) fun F3 H3 e3 r3 => ?_, ex⟩⟩
  have w3 := w1.mono (e2.trans e3)
  cases w3 with
  | tup g1 g2 =>
    refine ⟨_, _, rfl, same_t r3.hm.fh g1, by rw [dps_len g2]; exact hw, fun p hp => ?_⟩
    obtain ⟨e5, h5⟩ := r3.hm.newF hp (.tup _)
    exact q _ _ _ (((e1.trans e2).trans e3).trans e5) (r3.ext e5 h5) (.tup (.inl (.inl upd_same)) (dps_mono e5 _ _ (dps_cut g2)))
theorem t_leT {k : Nat} (hr : Room k Y.X.A) {ns ms : List Int} {z : Bool} (ha : EV Y a γ M (.d (.tuple (ns.map PyData.int))) M1) (hb : EV Y b γ M1 (.d (.tuple (ms.map PyData.int))) M2)
    (hz : Ob.lexAt (fun j => decide (ns.getD j 0 = ms.getD j 0)) (fun j => decide (ns.getD j 0 ≤ ms.getD j 0)) (decide (ns.length ≤ ms.length)) 0 (min ns.length ms.length) = z) :
    ET Y (.Compare a [.LtE] [b] pos) γ M z M2 :=
  t_bin (fun h1 h2 => pt_cmpR (op_leT (Nat.lt_of_le_of_lt (Nat.le_add_right _ _) hr.units)) h1 h2 (nomark _)) ha hb ⟨fun F v w H Q hm r1 r2 q => by
    cases r1 with
    | tup g1 g2 =>
      cases r2 with
      | tup g3 g4 =>
        have e1 := ints_of g2
        have e2 := ints_of g4
        subst e1 e2
        exact ⟨_, _, ns, ms, rfl, rfl, same_t hm.fh g1, same_t hm.fh g3, q F _ H (Same.refl F) hm (hz ▸ .bl _)⟩⟩
end
end Mi

/-! Mi: loops over drawn lists; defs that are handed a caught error. -/
namespace Mi
open PySem PySem.Spec PyProof.Rows L2
section
variable {Y : Ct} {γ γ' : List S} {M M1 M2 M3 : MM} {s s1 s2 s3 : S} {e a b c o it tg : Expr} {pos p p2 : Pos} {x : Str} {es : List Expr} {ss : List S} {P : Po} {body : List Stmt}
/-- for x in a list that is not told by one term -/
theorem s_forQ (hp : PassesOwn (model Y.X.prog Y.X.w) Y.X.A Y.X.env Y.X.xe) (hc : Y.X.calm = true)
    (hQ : EQ Y it γ M fun s M1 => ∃ (ds : List PyData) (Iv : Nat → List S → MM → Prop), s = .d (.list ds) ∧ Iv 0 γ M1 ∧
      (∀ (i : Nat) x γ' M', (ds.map S.d)[i]? = some x → Iv i γ' M' → ∃ γ2, GT Y tg γ' x M' γ2 ∧ BL Y body γ2 M' { P with nx := Iv (i + 1), ct := Iv (i + 1), bk := P.nx }) ∧ (∀ γ' M', Iv ds.length γ' M' → P.nx γ' M'))
    (hf : ∀ x, foldedSetIterable it Y.X.env x = pure x := by intro _; rfl) : ST Y (.For tg it body [] pos) γ M P := by
  refine ⟨PS.imp (ps_for hp hc (pi_list hQ.pe) uG_ok uS_ok hf) fun D σ H ⟨F, r, q, ex⟩ => ?_⟩
  refine ⟨F, r, fun F1 v s M1 H1 e1 r1 v1 ⟨ds, Iv, hs, h0, hS, hd⟩ => ?_, ex⟩
  subst hs
  cases v1 with
  | lst h1 h2 =>
    rename_i l vs
    have Wk := walks_l h1 h2
    have hlen : (ds.map S.d).length = ds.length := List.length_map ..
    refine ⟨l, rfl, ⟨_, r1.hm.fh.seq h1⟩, fun i m σ' H' => m = ds.length - i ∧ i ≤ ds.length ∧ ∃ γ' M' F', Iv i γ' M' ∧ Same F1 F' ∧ Rl Y.X.K γ' M' F' σ' H', ⟨ds.length, by simp, Nat.zero_le _, γ, M1, F1, h0, Same.refl F1, r1⟩, ?_⟩
    rintro i m σ' H' ⟨rfl, hi, γ', M', F', w, e2, r2⟩
    by_cases hlt : i < ds.length
    · refine .inr ⟨Wk.go i H' F' M' e2 r2.hm trivial (by omega), fun σ3 H3 => ∃ γ' M' F', Iv (i + 1) γ' M' ∧ Same F1 F' ∧ Rl Y.X.K γ' M' F' σ3 H3, fun σ3 H3 z => ⟨ds.length - (i + 1), by omega, rfl, hlt, z⟩, fun v H'' y => ?_⟩
      obtain ⟨x, hx⟩ : ∃ x, (ds.map S.d)[i]? = some x := ⟨(ds.map S.d)[i]'(by omega), by simp⟩
      obtain ⟨γ2, hg, hb⟩ := hS i x γ' M' hx w
      obtain ⟨F2, e3, r3, sv⟩ := Wk.yld i H' v H'' x F' γ' M' σ' hx e2 r2 trivial y
      obtain ⟨gg, hpg, hq⟩ := hg.ex
      refine ⟨gg, hpg, hq F2 σ' H'' v _ r3 sv fun σ3 r4 => ⟨_, hb.ps, F2, r4, ⟨?_, ?_, ?_, ?_⟩, ex.mono ((e1.trans e2).trans e3)⟩⟩
      · exact fun γ5 M5 F5 σ5 H5 e5 r5 w5 => ⟨γ5, M5, F5, w5, (e2.trans e3).trans e5, r5⟩
      · exact fun s M' F' v H' e5 => q.rt s M' F' v H' (((e1.trans e2).trans e3).trans e5)
      · exact fun γ5 M5 F5 σ5 H5 e5 => q.nx γ5 M5 F5 σ5 H5 (((e1.trans e2).trans e3).trans e5)
      · exact fun γ5 M5 F5 σ5 H5 e5 r5 w5 => ⟨γ5, M5, F5, w5, (e2.trans e3).trans e5, r5⟩
    · have hil : i = ds.length := by omega
      subst hil
      exact .inl ⟨Wk.stop _ H' F' M' e2 r2.hm trivial (by omega), q.nx γ' M' F' σ' H' (e1.trans e2) r2 (hd γ' M' w)⟩
theorem fa_nil {Pr : PyData → Prop} : ∀ d ∈ ([] : List PyData), Pr d := fun _ h => nomatch h
theorem fa_cons {Pr : PyData → Prop} {a : PyData} {l : List PyData} (h : Pr a) (t : ∀ d ∈ l, Pr d) : ∀ d ∈ a :: l, Pr d := fun d hd => by
  rcases List.mem_cons.mp hd with rfl | hd
  · exact h
  · exact t d hd
theorem all_items {Pr : PyData → Prop} {l : List PyData} {i : Nat} {x : S} (hx : (l.map S.d)[i]? = some x) (h : ∀ d ∈ l, Pr d) : ∃ d, x = .d d ∧ Pr d := by
  rw [List.getElem?_map] at hx
  cases e : l[i]? with
  | none => rw [e] at hx; cases hx
  | some d => rw [e] at hx; exact ⟨d, (Option.some.inj hx).symm, h d (List.mem_of_getElem? e)⟩
end
end Mi

/-! Mi: lists put together where the second one is not told by one term. -/
namespace Mi
open PySem PySem.Spec PyProof.Rows L2
section
variable {Y : Ct} {γ γ' : List S} {M M1 M2 M3 : MM} {s s1 s2 s3 : S} {e a b c o it tg : Expr} {pos p p2 : Pos} {x : Str} {es : List Expr} {ss : List S} {P : Po} {body : List Stmt} {Q : S → MM → Prop}
theorem q_cat (ha : EV Y a γ M s1 M1) (hb : EQ Y b γ M1 fun s2 M2 => ∃ xs zs, VL M2 s1 xs ∧ VL M2 s2 zs ∧ xs.length + zs.length ≤ 100000 ∧ ∀ p, Q (.ob p) (M2 ++ [(p, .lst (xs ++ zs))])) : EQ Y (.BinOp a .Add b pos) γ M Q :=
  ⟨PE.imp (pe_op op_catL ha.pe hb.pe) fun σ H R ⟨F, rl, q, ex⟩ => ⟨F, rl, fun F1 v H1 e1 r1 w1 => ⟨F1, r1, fun F2 w s2 M2 H2 e2 r2 w2 ⟨xs, zs, v1, v2, hl, hQ⟩ => by
    obtain ⟨l, vs, rfl, h1, h2⟩ := v1.ok r2.hm (w1.mono e2)
    obtain ⟨b, us, rfl, h3, h4⟩ := v2.ok r2.hm w2
    refine ⟨l, b, vs, us, rfl, rfl, h1, h3, by rw [pair_len h2, pair_len h4]; exact Nat.le_trans hl (by decide), fun p hp => ?_⟩
    have h5 := r2.hm.newM hp (o := .lst (vs ++ us)) (m := .lst (xs ++ zs)) ⟨_, upd_same, pair_app h2 h4⟩
    exact q F2 _ (.ob p) _ _ (e1.trans e2) ⟨h5, r2.sl⟩ rfl (hQ p), ex.mono e1⟩, ex⟩⟩
/-- .. of data, not changed any more -/
theorem q_catF (ha : EV Y a γ M s1 M1) (hb : EQ Y b γ M1 fun s2 M2 => ∃ xs zs : List PyData, VL M2 s1 (xs.map S.d) ∧ VL M2 s2 (zs.map S.d) ∧ xs.length + zs.length ≤ 100000 ∧ Q (.d (.list (xs ++ zs))) M2) : EQ Y (.BinOp a .Add b pos) γ M Q :=
  ⟨PE.imp (pe_op op_catL ha.pe hb.pe) fun σ H R ⟨F, rl, q, ex⟩ => ⟨F, rl, fun F1 v H1 e1 r1 w1 => ⟨F1, r1, fun F2 w s2 M2 H2 e2 r2 w2 ⟨xs, zs, v1, v2, hl, hQ⟩ => by
    obtain ⟨l, vs, rfl, h1, h2⟩ := v1.ok r2.hm (w1.mono e2)
    obtain ⟨b, us, rfl, h3, h4⟩ := v2.ok r2.hm w2
    refine ⟨l, b, vs, us, rfl, rfl, h1, h3, by rw [pair_len h2, pair_len h4, List.length_map, List.length_map]; exact Nat.le_trans hl (by decide), fun p hp => ?_⟩
    obtain ⟨e3, h5⟩ := r2.hm.newF hp (.lst (vs ++ us))
    have h6 : DpAll Y.X.K F2 (vs ++ us) (xs ++ zs) := all_d (by rw [List.map_append]; exact pair_app h2 h4)
    exact q _ _ (.d (.list (xs ++ zs))) _ _ ((e1.trans e2).trans e3) (r2.ext e3 h5) (.lst (.inl (.inl upd_same)) (dps_mono e3 _ _ h6)) hQ, ex.mono e1⟩, ex⟩⟩
/-- the first one not told by one term -/
theorem q_catA (ha : EQ Y a γ M fun s1 M1 => ∃ s2 M2, EV Y b γ M1 s2 M2 ∧ ∃ xs zs : List PyData, VL M2 s1 (xs.map S.d) ∧ VL M2 s2 (zs.map S.d) ∧ xs.length + zs.length ≤ 100000 ∧ Q (.d (.list (xs ++ zs))) M2) : EQ Y (.BinOp a .Add b pos) γ M Q :=
  ⟨PE.imp (pe_op op_catL ha.pe uE_ok) fun σ H R ⟨F, rl, q, ex⟩ => ⟨F, rl, fun F1 v s1 M1 H1 e1 r1 w1 ⟨s2, M2, hb, xs, zs, v1, v2, hl, hQ⟩ => ⟨_, hb.pe, F1, r1, fun F2 w H2 e2 r2 w2 => by
    obtain ⟨l, vs, rfl, h1, h2⟩ := v1.ok r2.hm (w1.mono e2)
    obtain ⟨b, us, rfl, h3, h4⟩ := v2.ok r2.hm w2
    refine ⟨l, b, vs, us, rfl, rfl, h1, h3, by rw [pair_len h2, pair_len h4, List.length_map, List.length_map]; exact Nat.le_trans hl (by decide), fun p hp => ?_⟩
    obtain ⟨e3, h5⟩ := r2.hm.newF hp (.lst (vs ++ us))
    have h6 : DpAll Y.X.K F2 (vs ++ us) (xs ++ zs) := all_d (by rw [List.map_append]; exact pair_app h2 h4)
    exact q _ _ (.d (.list (xs ++ zs))) _ _ ((e1.trans e2).trans e3) (r2.ext e3 h5) (.lst (.inl (.inl upd_same)) (dps_mono e3 _ _ h6)) hQ, ex.mono e1⟩, ex⟩⟩
end
end Mi

/-! Mi: constants of the module; calls without arguments. -/
namespace Mi
open PySem PySem.Spec PyProof.Rows L2
theorem kt_nil {K : PySem.W.Frag} {F : Hp} : DpAll K F [] [] := .nil
theorem kt_cons {K : PySem.W.Frag} {F : Hp} {v : V} {vs : List V} {d : PyData} {ds : List PyData} (h : Dp K F v d) (t : DpAll K F vs ds) : DpAll K F (v :: vs) (d :: ds) := .cons h t
theorem rv_int (i : Int) (t : Tok) : RelV (.int i) (.int i t) := ⟨t, rfl⟩
theorem rv_str (i : Str) (t : Tok) : RelV (.str i) (.str i t) := ⟨t, rfl⟩
theorem rv_bl (i : Bool) : RelV (.bl i) (.bool i) := rfl
theorem rv_ref (i : Addr) : RelV (.ref i) (.ref i) := rfl
theorem kv_nil : Vals [] [] := .nil
theorem kv_cons {v : V} {u : Value} {vs : List V} {us : List Value} (h : RelV v u) (t : Vals vs us) : Vals (v :: vs) (u :: us) := .cons h t
/-- a tuple that the module made -/
theorem kt_tup {K : PySem.W.Frag} {F : Hp} {a : Addr} {o : Obj} {its : Array Value} {n : Nat} {vs : List V} {ds : List PyData} (h : K.lookup a = some o) (hc : o.cls = .type "tuple") (hd : o.data = .seq its n) (hn : Nat.ble its.size 100000 = true) (hv : Vals vs its.toList) (h2 : DpAll K F vs ds) : Dp K F (.ref a) (.tuple ds) :=
  .tup (.inr ⟨o, its, n, h, hc, hd, small hn, hv⟩) h2
section
variable {Y : Ct} {γ γ' : List S} {M M1 M2 M3 : MM} {s s1 s2 s3 : S} {pos p : Pos} {x : Str}
theorem e_con {u : Value} {v : V} {d : PyData} (hm : Y.X.mg x = some u) (r : RelV v u) (hv : ∀ F, Dp Y.X.K F v d) (hg : Gl Y.X x := by rfl) (hd : (x == ("__debug__" : Str)) = false := by decide) : EV Y (.Name x pos) γ M (.d d) M :=
  e_c (pe_glob hg hm r hd) hv
theorem e_call0 {k : Nat} {f : Addr} {fd : FuncData} {ps : List Str} {cn : Con} (G : FnOk Y.X.prog Y.X.w Y.X.K Y.X.mg Y.X.base (L2.CX Y.X.prog Y.X.w) k f fd ps (spD Y.X.K cn)) (hr : Room k Y.X.A) (hm : Y.X.mg x = some (.ref f)) (hk : PySem.W.keepIn Y.X.K (.ref f) = true) (hb : Binds Y.X.K fd ps [])
    (tk : Takes Y.X Y.Er) (h : cn [] M (fun r M' => r = s ∧ M' = M2) (fun _ _ => False)) (hg : Gl Y.X x := by rfl) (hdb : (x == ("__debug__" : Str)) = false := by decide) : EV Y (.Call (.Name x p) [] [] pos) γ M s M2 :=
  ⟨PE.imp (pe_call0 G hr hg hm hk hb .nil (E := fun _ _ _ => False) (fun pins σ H s e s' => passes_call tk (fun _ _ _ _ z => z.elim) pins σ H s e s') hdb) fun σ H Q ⟨F, rl, q, ex⟩ => by
    refine ⟨F, M, [], _, _, .nil, rl.hm, h, fun F' v r M' H' e2 h2 v2 hR => ?_, fun cls M' F' H' e2 h2 hR => hR⟩
    obtain ⟨rfl, rfl⟩ := hR
    exact q F' v H' e2 (rl.ext e2 h2) v2⟩
end
end Mi

/-! Mi: in ranges, in lists. -/
namespace Mi
open PySem PySem.Spec PyProof.Rows L2
section
variable {X : Cx}
theorem op_notin_rng : OpR X (compareOp .NotIn) (fun x y H Q => ∃ i a lo hi, x = V.int i ∧ y = V.ref a ∧ H a = some (.rng lo hi) ∧ Q (.bl (!decide (lo ≤ i ∧ i < hi))) H) := by
  intro pins s σ H x y v u Q I rx ry h
  obtain ⟨i, a, lo, hi, rfl, rfl, ha, q⟩ := h
  obtain ⟨k, rfl⟩ := rx
  cases (show u = Value.ref a from ry)
  obtain ⟨t1, t2, t3, ho⟩ := I.hok a _ ha
  refine wpAny_bind (wpAny_contains_slot (T := "range") ⟨_, ho, rfl⟩ F.slot_range_contains (call_meets F.slot_range_contains ⟨_, ho, rfl⟩ F.entry_range_contains (F.args_range_contains_2 _ _) (q_contains a lo hi i t1 t2 t3 k) ⟨ho, wpAny_truthy_bool (wpAny_pure ⟨.bl _, H, I, rfl, ?_⟩)⟩))
  rw [place1]
  exact q
theorem cr_range1 : CallR X (.type "range") (fun vs H Q => ∃ j, vs = [V.int j] ∧ ∀ p, H p = none → Q (.ref p) (upd H p (.rng 0 j))) := by
  intro pins s σ H vs us Q I r h
  obtain ⟨j, rfl, q⟩ := h
  cases r with
  | cons rj rr =>
    cases rr
    obtain ⟨t, rfl⟩ := rj
    refine call_range_1 ⟨.ref s.heap.objs.size, upd H s.heap.objs.size (.rng 0 j), I.laid (t' := s.toks + 1 + 1) (fun b o e => Heap.get?_push_of_some _ e) (Nat.le_refl _) ?_, rfl, q _ (I.hok.fresh (Nat.le_refl _))⟩
    exact ⟨s.toks, t, s.toks + 1, Heap.get?_push_size _ rfl⟩
end
section
variable {Y : Ct} {γ γ' : List S} {M M1 M2 M3 : MM} {s s1 s2 s3 : S} {a b c : Expr} {pos p p2 : Pos} {i n : Int}
theorem t_notinR (ha : EV Y a γ M (.d (.int i)) M1) (hb : EA Y [b] γ M1 [.d (.int n)] M2) (hm : Y.X.mg "range" = none) (hg : Gl Y.X "range" := by rfl) (he : starEach [b] Y.X.env = (false, eval b Y.X.env) :: starEach [] Y.X.env := by rfl) (hpl : (backTo p2 (starEach [] Y.X.env)).any (·.1) = false := by rfl) (hmk : behindInMarks .NotIn (.Call (.Name "range" p) [b] [] p2) = false := by with_unfolding_all rfl) :
    ET Y (.Compare a [.NotIn] [.Call (.Name "range" p) [b] [] p2] pos) γ M (!decide (0 ≤ i ∧ i < n)) M2 :=
  ⟨PT.imp (pt_cmpR op_notin_rng ha.pe (pe_callTy cr_range1 hg hm (by decide +kernel) hb.pa (by decide) (by decide) he hpl) hmk) fun σ H Q ⟨F, rl, q, ex⟩ => ⟨F, rl, fun F1 v H1 e1 r1 v1 => ⟨F1, r1, fun F2 vs H2 e2 r2 v2 => by
    cases v1
    obtain ⟨w, rfl, w1⟩ := pair_one v2
    cases w1
    refine ⟨n, rfl, fun l hl => ⟨i, l, 0, n, rfl, rfl, upd_same, _, rfl, ?_⟩⟩
    obtain ⟨e3, h3⟩ := r2.hm.newF hl (.rng 0 n)
    exact q _ _ ((e1.trans e2).trans e3) (r2.ext e3 h3), ex.mono e1⟩, ex⟩⟩
theorem rv_inD {K : PySem.W.Frag} {d : PyData} {ds : List PyData} {z : Bool} (v1 : Vw M s1 d) (v2 : Vw M s2 (.list ds)) (h1 : SeqAt.shaped d = true) (h2 : SeqAt.shaped (.list ds) = true) (hz : ds.any (fun z => PyData.eqv z d) = z) : RV K (rInD K) s1 s2 M (.d (.bool z)) M :=
  ⟨fun F v w H Q hm r1 r2 q => ⟨d, ds, v1.ok hm r1, v2.ok hm r2, h1, h2, q F _ H (Same.refl F) hm (hz ▸ .bl _)⟩⟩
theorem rv_notInD {K : PySem.W.Frag} {d : PyData} {ds : List PyData} {z : Bool} (v1 : Vw M s1 d) (v2 : Vw M s2 (.list ds)) (h1 : SeqAt.shaped d = true) (h2 : SeqAt.shaped (.list ds) = true) (hz : ds.any (fun z => PyData.eqv z d) = z) : RV K (rNotInD K) s1 s2 M (.d (.bool (!z))) M :=
  ⟨fun F v w H Q hm r1 r2 q => ⟨d, ds, v1.ok hm r1, v2.ok hm r2, h1, h2, q F _ H (Same.refl F) hm (hz ▸ .bl _)⟩⟩
theorem room65 {k : Nat} {A : Around} (hr : Room k A) : A.units + 65 < cLine := by have := hr.un; omega
theorem t_inD {k : Nat} (hr : Room k Y.X.A) {d : PyData} {ds : List PyData} {z : Bool} (ha : EV Y a γ M s1 M1) (hb : EV Y b γ M1 s2 M2) (v1 : Vw M2 s1 d) (v2 : Vw M2 s2 (.list ds)) (h1 : SeqAt.shaped d = true) (h2 : SeqAt.shaped (.list ds) = true) (hz : ds.any (fun z => PyData.eqv z d) = z) (hmk : behindInMarks .In b = false := by with_unfolding_all rfl) :
    ET Y (.Compare a [.In] [b] pos) γ M z M2 := t_bin (fun h1 h2 => pt_cmpR (op_inD (room65 hr)) h1 h2 hmk) ha hb (rv_inD v1 v2 h1 h2 hz)
theorem t_notInD {k : Nat} (hr : Room k Y.X.A) {d : PyData} {ds : List PyData} {z : Bool} (ha : EV Y a γ M s1 M1) (hb : EV Y b γ M1 s2 M2) (v1 : Vw M2 s1 d) (v2 : Vw M2 s2 (.list ds)) (h1 : SeqAt.shaped d = true) (h2 : SeqAt.shaped (.list ds) = true) (hz : ds.any (fun z => PyData.eqv z d) = z) (hmk : behindInMarks .NotIn b = false := by with_unfolding_all rfl) :
    ET Y (.Compare a [.NotIn] [b] pos) γ M (!z) M2 := t_bin (fun h1 h2 => pt_cmpR (op_notInD (room65 hr)) h1 h2 hmk) ha hb (rv_notInD v1 v2 h1 h2 hz)
end
end Mi

/-! Mi: tuples put together, slices of tuples of any kind. -/
namespace Mi
open PySem PySem.Spec PyProof.Rows L2
section
variable {Y : Ct} {γ γ' : List S} {M M1 M2 M3 : MM} {s s1 s2 s3 : S} {a b c : Expr} {pos p p2 : Pos}
theorem e_catT {xs ys : List PyData} (ha : EV Y a γ M (.d (.tuple xs)) M1) (hb : EV Y b γ M1 (.d (.tuple ys)) M2) (hl : xs.length + ys.length ≤ 100000) : EV Y (.BinOp a .Add b pos) γ M (.d (.tuple (xs ++ ys))) M2 :=
  ⟨PE.imp (pe_op op_catA ha.pe hb.pe) fun σ H Q ⟨F, rl, q, ex⟩ => ⟨F, rl, fun F1 v H1 e1 r1 w1 => ⟨F1, r1, fun F2 w H2 e2 r2 w2 => by
    have w1' := w1.mono e2
    cases w1' with
    | tup h1 h2 =>
      rename_i l vs
      cases w2 with
      | tup h3 h4 =>
        rename_i l2 us
        have e5 := dps_len h2
        have e6 := dps_len h4
        refine ⟨l, l2, vs, us, rfl, rfl, same_t r2.hm.fh h1, same_t r2.hm.fh h3, by rw [e5, e6]; exact Nat.le_trans hl (by decide), fun hv => ?_, fun hv hu => ?_, fun hv hu p hp => ?_⟩
        · subst hv
          cases h2
          exact q F2 _ H2 (e1.trans e2) r2 (.tup h3 h4)
        · subst hu
          cases h4
          rw [List.append_nil] at q
          exact q F2 _ H2 (e1.trans e2) r2 (.tup h1 h2)
        · obtain ⟨e7, h7⟩ := r2.hm.newF hp (.tup (vs ++ us))
          have h8 : DpAll Y.X.K F2 (vs ++ us) (xs ++ ys) := all_d (by rw [List.map_append]; exact pair_app (d_all h2) (d_all h4))
          exact q _ _ _ ((e1.trans e2).trans e7) (r2.ext e7 h7) (.tup (.inl (.inl upd_same)) (dps_mono e7 _ _ h8)), ex.mono e1⟩, ex⟩⟩
theorem cutL_all {α : Type} {ds : List α} {l h : Option Int} (z : HT.sIx ds.length 0 l = 0 ∧ HT.sIx ds.length ds.length h = ds.length) : cutL ds l h = ds := by
  unfold cutL
  rw [z.1, z.2]
  simp
theorem e_sliceA {ds : List PyData} {lo hi : Option Expr} {l h : Option Int} (ha : EV Y a γ M (.d (.tuple ds)) M1) (h1 : EO Y lo γ M1 l) (h2 : EO Y hi γ M1 h) :
    EV Y (.Subscript a (.Slice lo hi none p2) pos) γ M (.d (.tuple (cutL ds l h))) M1 := by
  obtain ⟨tl, pl, ql⟩ := h1.ex
  obtain ⟨th, ph, qh⟩ := h2.ex
  refine ⟨PE.imp (pe_slice sl_tupA ha.pe pl ph) fun σ H Q ⟨F, r, q, ex⟩ => ⟨F, r, fun F1 v H1 e1 r1 w1 => ql F1 σ H1 _ r1 (ex.mono e1) fun F2 H2 e2 r2 => qh F2 σ H2 _ r2 (ex.mono (e1.trans e2)) fun F3 H3 e3 r3 => ?_, ex⟩⟩
  have w3 := w1.mono (e2.trans e3)
  cases w3 with
  | tup g1 g2 =>
    have e5 := dps_len g2
    refine ⟨_, _, rfl, same_t r3.hm.fh g1, fun z => ?_, fun z p hp => ?_⟩
    · rw [e5] at z
      rw [cutL_all z] at q
      exact q F3 _ H3 ((e1.trans e2).trans e3) r3 (.tup g1 g2)
    · obtain ⟨e5, h5⟩ := r3.hm.newF hp (.tup _)
      exact q _ _ _ (((e1.trans e2).trans e3).trans e5) (r3.ext e5 h5) (.tup (.inl (.inl upd_same)) (dps_mono e5 _ _ (dps_cut g2)))
end
end Mi

/-! Mi: appended what is not told by one term; lists put together, both so. -/
namespace Mi
open PySem PySem.Spec PyProof.Rows L2
section
variable {Y : Ct} {γ γ' : List S} {M M1 M2 M3 : MM} {s s1 s2 s3 : S} {e a b c o it tg : Expr} {pos p p2 : Pos} {x : Str} {es : List Expr} {ss : List S} {P : Po} {Q : S → MM → Prop}
theorem q_append {q : Addr} {apos : Pos} (ho : EV Y o γ M (.ob q) M1) (hk1 : ∃ (k1 : Nat) (ys : List S), M1[k1]? = some (q, MO.lst ys))
    (he : EQ Y e γ M1 fun s M2 => ∃ (k : Nat) (xs : List S), M2[k]? = some (q, .lst xs) ∧ xs.length < 100000 ∧ Q (.d .none) (M2.set k (q, .lst (xs ++ [s]))))
    (hbase : attributeBase o "append" Y.X.env (eval o Y.X.env) = eval o Y.X.env := by rfl)
    (hfew : ((backTo pos (starEach [e] Y.X.env)).all (fun x => !x.1) && (backToKw pos (keywordEach [] Y.X.env)).all (fun x => x.1.isSome)
      && decide ([e].length + ([] : List Keyword).length + (if ([] : List Keyword).isEmpty then 0 else 1) < 30)) = true := by rfl)
    (hline : (apos.endLine == pos.line) = true := by rfl) (hs : starEach [e] Y.X.env = (false, eval e Y.X.env) :: starEach [] Y.X.env := by rfl) (hplain : (backTo pos (starEach [] Y.X.env)).any (·.1) = false := by rfl) :
    EQ Y (.Call (.Attribute o "append" apos) [e] [] pos) γ M Q :=
  ⟨PE.imp (pe_bm PySem.F.plainAttrs_list PySem.F.slot_list_append PySem.F.type_list_append mt_append ho.pe (pa_cons he.pe pa_nil hs) hbase hfew hline hs hplain) fun σ H R ⟨F, r, qq, ex⟩ => ⟨F, r, fun F1 v H1 e1 r1 v1 => by
    cases v1
    obtain ⟨k1, ys, hk1⟩ := hk1
    obtain ⟨_, ws, g1, _⟩ := r1.hm.mo _ _ (List.mem_of_getElem? hk1)
    refine ⟨Or.inl ⟨rfl, ws, .of g1⟩, F1, r1, fun F2 v s M2 H2 e2 r2 sv ⟨k, xs, hk, hl, hQ⟩ => ?_, ex.mono e1⟩
    obtain ⟨_, us, f1, f2⟩ := r2.hm.mo _ _ (List.mem_of_getElem? hk)
    refine ⟨q, us, v, rfl, rfl, f1, by rw [pair_len f2]; exact Nat.lt_of_lt_of_le hl (by decide), ?_⟩
    have hM := r2.hm.setM hk (o := .lst (us ++ [v])) (m := .lst (xs ++ [s])) ⟨_, upd_same, pair_app f2 (.cons sv .nil)⟩
    exact qq F2 .non (.d .none) _ _ (e1.trans e2) ⟨hM, r2.sl⟩ Dp.non hQ, ex⟩⟩
theorem q_cat2 (ha : EQ Y a γ M fun s1 M1 => EQ Y b γ M1 fun s2 M2 => ∃ xs zs, VL M2 s1 xs ∧ VL M2 s2 zs ∧ xs.length + zs.length ≤ 100000 ∧ ∀ p, Q (.ob p) (M2 ++ [(p, .lst (xs ++ zs))])) : EQ Y (.BinOp a .Add b pos) γ M Q :=
  ⟨PE.imp (pe_op op_catL ha.pe uE_ok) fun σ H R ⟨F, rl, q, ex⟩ => ⟨F, rl, fun F1 v s1 M1 H1 e1 r1 w1 hb => ⟨_, hb.pe, F1, r1, fun F2 w s2 M2 H2 e2 r2 w2 ⟨xs, zs, v1, v2, hl, hQ⟩ => by
    obtain ⟨l, vs, rfl, h1, h2⟩ := v1.ok r2.hm (w1.mono e2)
    obtain ⟨b, us, rfl, h3, h4⟩ := v2.ok r2.hm w2
    refine ⟨l, b, vs, us, rfl, rfl, h1, h3, by rw [pair_len h2, pair_len h4]; exact Nat.le_trans hl (by decide), fun p hp => ?_⟩
    have h5 := r2.hm.newM hp (o := .lst (vs ++ us)) (m := .lst (xs ++ zs)) ⟨_, upd_same, pair_app h2 h4⟩
    exact q F2 _ (.ob p) _ _ (e1.trans e2) ⟨h5, r2.sl⟩ rfl (hQ p), ex.mono e1⟩, ex⟩⟩
end
end Mi

/-! Mi: which of two data is ahead; the greater and the lesser of two. -/
namespace Mi
open PySem PySem.Spec PyProof.Rows L2
def rOrdD (f : PyData → PyData → Bool) (K : PySem.W.Frag) : R2 := fun x y H Q => ∃ d e, Dp K H x d ∧ Dp K H y e ∧ PySem.W.alike d e = true ∧ d ≠ .none ∧ min d.depth e.depth ≤ 60 ∧ Q (.bl (f d e)) H
section
variable {X : Cx}
theorem op_ltD (hu : X.A.units + 64 < cLine) : OpR X (compareOp .Lt) (rOrdD (fun d e => PySem.W.dataLt d e) X.K) := by
  intro pins s σ H x y v u Q I rx ry h
  obtain ⟨d, e, hd, he, al, nn, dp, q⟩ := h
  obtain ⟨as, r1⟩ := Dp.reads I d x v hd rx
  obtain ⟨bs, r2⟩ := Dp.reads I e y u he ry
  exact PySem.W.lt_data r1 r2 al nn (by omega) ⟨.bl _, H, I, rfl, q⟩
theorem op_gtD (hu : X.A.units + 64 < cLine) : OpR X (compareOp .Gt) (rOrdD (fun d e => PySem.W.dataLt e d) X.K) := by
  intro pins s σ H x y v u Q I rx ry h
  obtain ⟨d, e, hd, he, al, nn, dp, q⟩ := h
  obtain ⟨as, r1⟩ := Dp.reads I d x v hd rx
  obtain ⟨bs, r2⟩ := Dp.reads I e y u he ry
  exact PySem.W.gt_data r1 r2 al nn (by omega) ⟨.bl _, H, I, rfl, q⟩
theorem op_leD (hu : X.A.units + 64 < cLine) : OpR X (compareOp .LtE) (rOrdD (fun d e => !PySem.W.dataLt e d) X.K) := by
  intro pins s σ H x y v u Q I rx ry h
  obtain ⟨d, e, hd, he, al, nn, dp, q⟩ := h
  obtain ⟨as, r1⟩ := Dp.reads I d x v hd rx
  obtain ⟨bs, r2⟩ := Dp.reads I e y u he ry
  exact PySem.W.le_data r1 r2 al nn (by omega) ⟨.bl _, H, I, rfl, q⟩
theorem op_geD (hu : X.A.units + 64 < cLine) : OpR X (compareOp .GtE) (rOrdD (fun d e => !PySem.W.dataLt d e) X.K) := by
  intro pins s σ H x y v u Q I rx ry h
  obtain ⟨d, e, hd, he, al, nn, dp, q⟩ := h
  obtain ⟨as, r1⟩ := Dp.reads I d x v hd rx
  obtain ⟨bs, r2⟩ := Dp.reads I e y u he ry
  exact PySem.W.ge_data r1 r2 al nn (by omega) ⟨.bl _, H, I, rfl, q⟩
end
section
variable {prog : Program} {w : World} {A : Around} {E : Value → Shared → Prop} {s : Shared} {a b : Value} {k : Bool} {Q : Value → Shared → Prop}
/-- of two values, the second one taken where it compares so: two turns of the loop, then its end -/
theorem max_pair (hh : A.handled = none) (hc : ∀ (g : Heap) (tk : Nat) (Q' E' : Value → Shared → Prop), (∀ c o, s.heap.get? c = some o → g.get? c = some o) → Q' (.bool k) { s with heap := g, toks := tk } → wpAny (model prog w) A.in1 (richCompare .Gt b a) Q' E' { s with heap := g, toks := tk })
    (h : ∀ (g : Heap) (tk : Nat), (∀ c o, s.heap.get? c = some o → g.get? c = some o) → Q (if k = true then b else a) { s with heap := g, toks := tk }) : wpAny (model prog w) A (call (.builtin "max") [a, b]) Q E s := by
  have nm2 : (toString "max" ++ toString ".loop" : String) = "max.loop" := by decide
  have tup : (s.heap.push { cls := .type "tuple", data := .seq #[a, b] }).IsTuple s.heap.objs.size #[a, b] := ⟨_, Heap.get?_push_size _ rfl, rfl, 0, rfl⟩
  have none2 : Builtin.Builtins.bindParams "max" ["key", "default"] 0 ⟨[], []⟩ = pure [none, none] := rfl
  refine call_function_tree F.kind_max F.plain_max F.entry_max (F.args_max2 a b) ?_
  show wpAny (model prog w) A.in1 (Builtin.Builtins.bindParams "max" ["key", "default"] 0 ⟨[], []⟩ >>= _) _ _ s
  refine wpAny_bind (wpAny_of_eq none2 ?_)
  show wpAny (model prog w) A.in1 (newTuple [a, b] >>= _) _ _ s
  refine wpAny_bind (wpAny_newObj_type (wpAny_bind (wpAny_pyIter_tuple tup ?_)))
  have k1 : ∀ c o, s.heap.get? c = some o → (s.heap.push { cls := .type "tuple", data := .seq #[a, b] }).get? c = some o := fun c o e => Heap.get?_push_of_some _ e
  have lt0 : ∀ c o, s.heap.get? c = some o → c < s.heap.objs.size := fun c o e => Heap.lt_size e
  have z1 : (s.heap.push { cls := .type "tuple", data := .seq #[a, b] }).objs.size = s.heap.objs.size + 1 := Heap.size_push ..
  generalize s.heap.objs.size = t at *
  generalize s.heap.push { cls := .type "tuple", data := .seq #[a, b] } = g1 at *
  have Wk := Walks.tuple (prog := prog) (w := w) (A := A.in1) hh (t + 1) t (Nat.ne_of_lt (Nat.lt_succ_self t)) #[a, b]
  refine wpAny_bind (wpAny_newObj_type ?_)
  rw [z1, nm2]
  have q2 : (g1.push { cls := .type "tuple_iterator", data := .fields #[.ref t, .int 0 0] }).get? (t + 1) = some { cls := .type "tuple_iterator", data := .fields #[.ref t, .int 0 0] } := by rw [← z1]; exact Heap.get?_push_size _ rfl
  have k2 : ∀ c o, g1.get? c = some o → (g1.push { cls := .type "tuple_iterator", data := .fields #[.ref t, .int 0 0] }).get? c = some o := fun c o e => Heap.get?_push_of_some _ e
  have z2 : (g1.push { cls := .type "tuple_iterator", data := .fields #[.ref t, .int 0 0] }).objs.size = t + 2 := (Heap.size_push ..).trans (by rw [z1])
  have it2 : (g1.push { cls := .type "tuple_iterator", data := .fields #[.ref t, .int 0 0] }).IsTupleIter (t + 1) t 0 := ⟨_, q2, rfl, rfl⟩
  have tup2 := tup.push { cls := .type "tuple_iterator", data := .fields #[.ref t, .int 0 0] }
  generalize g1.push { cls := .type "tuple_iterator", data := .fields #[.ref t, .int 0 0] } = g2 at *
  refine wpAny_pure ⟨plainId_quiet F.plain_max_loop _, ?_⟩
  have q3 : (g2.push { cls := .type "list", data := .seq #[] }).get? (t + 2) = some { cls := .type "list", dict := none, data := .seq #[] 0, slots := #[] } := by rw [← z2]; exact Heap.get?_push_size _ rfl
  have k3 : ∀ c o, g2.get? c = some o → (g2.push { cls := .type "list", data := .seq #[] }).get? c = some o := fun c o e => Heap.get?_push_of_some _ e
  show codeAny (model prog w) A (.builtin "max.loop" ⟨[.ref (t + 1), .none, .ref g2.objs.size], []⟩) _ { s with heap := g2.push { cls := .type "list", data := .seq #[] } }
  rw [z2]
  have st3 : (g2.push { cls := .type "list", data := .seq #[] }).IsTupleIter (t + 1) t 0 ∧ (g2.push { cls := .type "list", data := .seq #[] }).IsTuple t #[a, b] := ⟨it2.at fun o e => k3 _ o e, tup2.push _⟩
  have n1 : t + 2 ∉ [t + 1] := fun z => by have := List.mem_singleton.mp z; exact absurd (Nat.add_left_cancel this) (by decide)
  have o3 : ∀ c o, s.heap.get? c = some o → (g2.push { cls := .type "list", data := .seq #[] }).get? c = some o := fun c o e => k3 c o (k2 c o (k1 c o e))
  have far1 : ∀ c o, s.heap.get? c = some o → c ∉ [t + 1] := fun c o e z => by
    have h1 := List.mem_singleton.mp z
    have h2 := lt0 c o e
    rw [h1] at h2
    exact absurd h2 (Nat.not_lt.mpr (Nat.le_succ t))
  have far2 : ∀ c o, s.heap.get? c = some o → t + 2 ≠ c := fun c o e z => by
    have h2 := lt0 c o e
    rw [← z] at h2
    exact absurd h2 (Nat.not_lt.mpr (Nat.le_add_right t 2))
  generalize g2.push { cls := .type "list", data := .seq #[] } = g3 at *
  -- the first item
  refine codeAny_builtin (F.entry_max_loop) ?_; rw [Around.under_plainId (F.plain_max_loop) _]
  show wpAny (model prog w) A.in1 (seqItems? (.ref (t + 2)) >>= _) _ _ _
  refine wpAny_bind (wpAny_seqItems q3 rfl ?_)
  show wpAny (model prog w) A.in1 (tryCatch (pyNext (.ref (t + 1))) _ >>= _) _ _ _
  refine wpAny_bind (wpAny_tryCatch (Wk.item 0 _ _ _ (show (0 : Nat) < 2 by decide) st3 fun v1 g4 tk4 p1 st4 k4 => ?_))
  obtain rfl : a = v1 := Option.some.inj p1
  have q4 := k4 _ _ n1 q3
  show wpAny (model prog w) A.in1 (updateSeq (t + 2) (fun _ => #[a, a]) >>= _) _ _ _
  refine wpAny_bind (wpAny_updateSeq q4 rfl ?_); rw [nm2]
  have q5 := Heap.get?_update_self (Obj.mapSeq fun _ => #[a, a]) q4 rfl
  have k5 : ∀ c o, c ≠ t + 2 → g4.get? c = some o → (g4.update (t + 2) (Obj.mapSeq fun _ => #[a, a])).get? c = some o := fun c o e z => (Heap.get?_update_other _ _ (Ne.symm e)).trans z
  generalize g4.update (t + 2) (Obj.mapSeq fun _ => #[a, a]) = g5 at *
  have st5 : g5.IsTupleIter (t + 1) t 1 ∧ g5.IsTuple t #[a, b] := ⟨st4.1.at fun o e => k5 _ o (Nat.ne_of_lt (Nat.lt_succ_self (t + 1))) e, st4.2.at fun o e => k5 _ o (Nat.ne_of_lt (Nat.lt_add_of_pos_right (by decide))) e⟩
  have o5 : ∀ c o, s.heap.get? c = some o → g5.get? c = some o := fun c o e => k5 c o (Ne.symm (far2 c o e)) (k4 c o (far1 c o e) (o3 c o e))
  refine wpAny_pure ⟨plainId_quiet (F.plain_max_loop) _, ?_⟩
  -- the second item
  refine codeAny_builtin (F.entry_max_loop) ?_; rw [Around.under_plainId (F.plain_max_loop) _]
  show wpAny (model prog w) A.in1 (seqItems? (.ref (t + 2)) >>= _) _ _ _
  refine wpAny_bind (wpAny_seqItems q5 rfl ?_)
  show wpAny (model prog w) A.in1 (tryCatch (pyNext (.ref (t + 1))) _ >>= _) _ _ _
  refine wpAny_bind (wpAny_tryCatch (Wk.item 1 _ _ _ (show (1 : Nat) < 2 by decide) st5 fun v2 g6 tk6 p2 st6 k6 => ?_))
  obtain rfl : b = v2 := Option.some.inj p2
  have q6 := k6 _ _ n1 q5
  have o6 : ∀ c o, s.heap.get? c = some o → g6.get? c = some o := fun c o e => k6 c o (far1 c o e) (o5 c o e)
  show wpAny (model prog w) A.in1 (tryCatch (holding [b, b] (richCompare .Gt b a >>= _)) _ >>= _) _ _ _
  refine wpAny_bind (wpAny_tryCatch (wpAny_holding (wpAny_bind (hc g6 tk6 _ _ o6 (wpAny_bind (wpAny_holding (wpAny_truthy_bool ?_)))))))
  refine wpAny_bind (wpAny_letGo (wpAny_pure ?_))
  have last : ∀ (u : Value) (g7 : Heap), (∀ c o, s.heap.get? c = some o → g7.get? c = some o) → g7.IsTupleIter (t + 1) t 2 ∧ g7.IsTuple t #[a, b] → (∃ n, g7.get? (t + 2) = some { cls := .type "list", dict := none, data := .seq #[u, u] n, slots := #[] }) →
      (∀ (g : Heap) (tk : Nat), (∀ c o, s.heap.get? c = some o → g.get? c = some o) → Q u { s with heap := g, toks := tk }) →
      codeAny (model prog w) A (.builtin "max.loop" ⟨[.ref (t + 1), .none, .ref (t + 2)], []⟩) (fun r s' => match r with | .ok (.ret v) => Q v s' | .ok _ => False | .error e => E e s') { s with heap := g7, toks := tk6 } := by
    intro u g7 o7 st7 ⟨n, q7⟩ hQ
    refine codeAny_builtin (F.entry_max_loop) ?_; rw [Around.under_plainId (F.plain_max_loop) _]
    show wpAny (model prog w) A.in1 (seqItems? (.ref (t + 2)) >>= _) _ _ _
    refine wpAny_bind (wpAny_seqItems q7 rfl ?_)
    show wpAny (model prog w) A.in1 (tryCatch (pyNext (.ref (t + 1))) _ >>= _) _ _ _
    refine wpAny_bind (wpAny_tryCatch (Wk.done _ _ _ st7 fun g8 tk8 k8 => ?_))
    have q8 := k8 _ _ n1 q7
    show wpAny (model prog w) A.in1 (updateSeq (t + 2) (fun _ => #[]) >>= _) _ _ _
    refine wpAny_bind (wpAny_updateSeq q8 rfl (wpAny_bind (wpAny_letGo (wpAny_pure ?_))))
    exact hQ _ _ fun c o e => (Heap.get?_update_other _ _ (far2 c o e)).trans (k8 c o (far1 c o e) (o7 c o e))
  cases k with
  | true =>
    simp only [if_true]
    refine wpAny_bind (wpAny_updateSeq q6 rfl (wpAny_bind (wpAny_letGo ?_))); rw [nm2]
    have q7 := Heap.get?_update_self (Obj.mapSeq fun _ => #[b, b]) q6 rfl
    have k7 : ∀ c o, c ≠ t + 2 → g6.get? c = some o → (g6.update (t + 2) (Obj.mapSeq fun _ => #[b, b])).get? c = some o := fun c o e z => (Heap.get?_update_other _ _ (Ne.symm e)).trans z
    generalize g6.update (t + 2) (Obj.mapSeq fun _ => #[b, b]) = g7 at *
    refine wpAny_pure ⟨plainId_quiet (F.plain_max_loop) _, ?_⟩
    exact last b g7 (fun c o e => k7 c o (Ne.symm (far2 c o e)) (o6 c o e)) ⟨st6.1.at fun o e => k7 _ o (Nat.ne_of_lt (Nat.lt_succ_self (t + 1))) e, st6.2.at fun o e => k7 _ o (Nat.ne_of_lt (Nat.lt_add_of_pos_right (by decide))) e⟩ ⟨_, q7⟩ h
  | false =>
    simp only [Bool.false_eq_true, if_false] at h ⊢
    refine wpAny_bind (wpAny_letGo ?_); rw [nm2]
    refine wpAny_pure ⟨plainId_quiet (F.plain_max_loop) _, ?_⟩
    exact last a g6 o6 st6 ⟨_, q6⟩ h
/-- of two values, the second one taken where it compares so: two turns of the loop, then its end -/
theorem min_pair (hh : A.handled = none) (hc : ∀ (g : Heap) (tk : Nat) (Q' E' : Value → Shared → Prop), (∀ c o, s.heap.get? c = some o → g.get? c = some o) → Q' (.bool k) { s with heap := g, toks := tk } → wpAny (model prog w) A.in1 (richCompare .Lt b a) Q' E' { s with heap := g, toks := tk })
    (h : ∀ (g : Heap) (tk : Nat), (∀ c o, s.heap.get? c = some o → g.get? c = some o) → Q (if k = true then b else a) { s with heap := g, toks := tk }) : wpAny (model prog w) A (call (.builtin "min") [a, b]) Q E s := by
  have nm2 : (toString "min" ++ toString ".loop" : String) = "min.loop" := by decide
  have tup : (s.heap.push { cls := .type "tuple", data := .seq #[a, b] }).IsTuple s.heap.objs.size #[a, b] := ⟨_, Heap.get?_push_size _ rfl, rfl, 0, rfl⟩
  have none2 : Builtin.Builtins.bindParams "min" ["key", "default"] 0 ⟨[], []⟩ = pure [none, none] := rfl
  refine call_function_tree F.kind_min F.plain_min F.entry_min (F.args_min2 a b) ?_
  show wpAny (model prog w) A.in1 (Builtin.Builtins.bindParams "min" ["key", "default"] 0 ⟨[], []⟩ >>= _) _ _ s
  refine wpAny_bind (wpAny_of_eq none2 ?_)
  show wpAny (model prog w) A.in1 (newTuple [a, b] >>= _) _ _ s
  refine wpAny_bind (wpAny_newObj_type (wpAny_bind (wpAny_pyIter_tuple tup ?_)))
  have k1 : ∀ c o, s.heap.get? c = some o → (s.heap.push { cls := .type "tuple", data := .seq #[a, b] }).get? c = some o := fun c o e => Heap.get?_push_of_some _ e
  have lt0 : ∀ c o, s.heap.get? c = some o → c < s.heap.objs.size := fun c o e => Heap.lt_size e
  have z1 : (s.heap.push { cls := .type "tuple", data := .seq #[a, b] }).objs.size = s.heap.objs.size + 1 := Heap.size_push ..
  generalize s.heap.objs.size = t at *
  generalize s.heap.push { cls := .type "tuple", data := .seq #[a, b] } = g1 at *
  have Wk := Walks.tuple (prog := prog) (w := w) (A := A.in1) hh (t + 1) t (Nat.ne_of_lt (Nat.lt_succ_self t)) #[a, b]
  refine wpAny_bind (wpAny_newObj_type ?_)
  rw [z1, nm2]
  have q2 : (g1.push { cls := .type "tuple_iterator", data := .fields #[.ref t, .int 0 0] }).get? (t + 1) = some { cls := .type "tuple_iterator", data := .fields #[.ref t, .int 0 0] } := by rw [← z1]; exact Heap.get?_push_size _ rfl
  have k2 : ∀ c o, g1.get? c = some o → (g1.push { cls := .type "tuple_iterator", data := .fields #[.ref t, .int 0 0] }).get? c = some o := fun c o e => Heap.get?_push_of_some _ e
  have z2 : (g1.push { cls := .type "tuple_iterator", data := .fields #[.ref t, .int 0 0] }).objs.size = t + 2 := (Heap.size_push ..).trans (by rw [z1])
  have it2 : (g1.push { cls := .type "tuple_iterator", data := .fields #[.ref t, .int 0 0] }).IsTupleIter (t + 1) t 0 := ⟨_, q2, rfl, rfl⟩
  have tup2 := tup.push { cls := .type "tuple_iterator", data := .fields #[.ref t, .int 0 0] }
  generalize g1.push { cls := .type "tuple_iterator", data := .fields #[.ref t, .int 0 0] } = g2 at *
  refine wpAny_pure ⟨plainId_quiet F.plain_min_loop _, ?_⟩
  have q3 : (g2.push { cls := .type "list", data := .seq #[] }).get? (t + 2) = some { cls := .type "list", dict := none, data := .seq #[] 0, slots := #[] } := by rw [← z2]; exact Heap.get?_push_size _ rfl
  have k3 : ∀ c o, g2.get? c = some o → (g2.push { cls := .type "list", data := .seq #[] }).get? c = some o := fun c o e => Heap.get?_push_of_some _ e
  show codeAny (model prog w) A (.builtin "min.loop" ⟨[.ref (t + 1), .none, .ref g2.objs.size], []⟩) _ { s with heap := g2.push { cls := .type "list", data := .seq #[] } }
  rw [z2]
  have st3 : (g2.push { cls := .type "list", data := .seq #[] }).IsTupleIter (t + 1) t 0 ∧ (g2.push { cls := .type "list", data := .seq #[] }).IsTuple t #[a, b] := ⟨it2.at fun o e => k3 _ o e, tup2.push _⟩
  have n1 : t + 2 ∉ [t + 1] := fun z => by have := List.mem_singleton.mp z; exact absurd (Nat.add_left_cancel this) (by decide)
  have o3 : ∀ c o, s.heap.get? c = some o → (g2.push { cls := .type "list", data := .seq #[] }).get? c = some o := fun c o e => k3 c o (k2 c o (k1 c o e))
  have far1 : ∀ c o, s.heap.get? c = some o → c ∉ [t + 1] := fun c o e z => by
    have h1 := List.mem_singleton.mp z
    have h2 := lt0 c o e
    rw [h1] at h2
    exact absurd h2 (Nat.not_lt.mpr (Nat.le_succ t))
  have far2 : ∀ c o, s.heap.get? c = some o → t + 2 ≠ c := fun c o e z => by
    have h2 := lt0 c o e
    rw [← z] at h2
    exact absurd h2 (Nat.not_lt.mpr (Nat.le_add_right t 2))
  generalize g2.push { cls := .type "list", data := .seq #[] } = g3 at *
  -- the first item
  refine codeAny_builtin (F.entry_min_loop) ?_; rw [Around.under_plainId (F.plain_min_loop) _]
  show wpAny (model prog w) A.in1 (seqItems? (.ref (t + 2)) >>= _) _ _ _
  refine wpAny_bind (wpAny_seqItems q3 rfl ?_)
  show wpAny (model prog w) A.in1 (tryCatch (pyNext (.ref (t + 1))) _ >>= _) _ _ _
  refine wpAny_bind (wpAny_tryCatch (Wk.item 0 _ _ _ (show (0 : Nat) < 2 by decide) st3 fun v1 g4 tk4 p1 st4 k4 => ?_))
  obtain rfl : a = v1 := Option.some.inj p1
  have q4 := k4 _ _ n1 q3
  show wpAny (model prog w) A.in1 (updateSeq (t + 2) (fun _ => #[a, a]) >>= _) _ _ _
  refine wpAny_bind (wpAny_updateSeq q4 rfl ?_); rw [nm2]
  have q5 := Heap.get?_update_self (Obj.mapSeq fun _ => #[a, a]) q4 rfl
  have k5 : ∀ c o, c ≠ t + 2 → g4.get? c = some o → (g4.update (t + 2) (Obj.mapSeq fun _ => #[a, a])).get? c = some o := fun c o e z => (Heap.get?_update_other _ _ (Ne.symm e)).trans z
  generalize g4.update (t + 2) (Obj.mapSeq fun _ => #[a, a]) = g5 at *
  have st5 : g5.IsTupleIter (t + 1) t 1 ∧ g5.IsTuple t #[a, b] := ⟨st4.1.at fun o e => k5 _ o (Nat.ne_of_lt (Nat.lt_succ_self (t + 1))) e, st4.2.at fun o e => k5 _ o (Nat.ne_of_lt (Nat.lt_add_of_pos_right (by decide))) e⟩
  have o5 : ∀ c o, s.heap.get? c = some o → g5.get? c = some o := fun c o e => k5 c o (Ne.symm (far2 c o e)) (k4 c o (far1 c o e) (o3 c o e))
  refine wpAny_pure ⟨plainId_quiet (F.plain_min_loop) _, ?_⟩
  -- the second item
  refine codeAny_builtin (F.entry_min_loop) ?_; rw [Around.under_plainId (F.plain_min_loop) _]
  show wpAny (model prog w) A.in1 (seqItems? (.ref (t + 2)) >>= _) _ _ _
  refine wpAny_bind (wpAny_seqItems q5 rfl ?_)
  show wpAny (model prog w) A.in1 (tryCatch (pyNext (.ref (t + 1))) _ >>= _) _ _ _
  refine wpAny_bind (wpAny_tryCatch (Wk.item 1 _ _ _ (show (1 : Nat) < 2 by decide) st5 fun v2 g6 tk6 p2 st6 k6 => ?_))
  obtain rfl : b = v2 := Option.some.inj p2
  have q6 := k6 _ _ n1 q5
  have o6 : ∀ c o, s.heap.get? c = some o → g6.get? c = some o := fun c o e => k6 c o (far1 c o e) (o5 c o e)
  show wpAny (model prog w) A.in1 (tryCatch (holding [b, b] (richCompare .Lt b a >>= _)) _ >>= _) _ _ _
  refine wpAny_bind (wpAny_tryCatch (wpAny_holding (wpAny_bind (hc g6 tk6 _ _ o6 (wpAny_bind (wpAny_holding (wpAny_truthy_bool ?_)))))))
  refine wpAny_bind (wpAny_letGo (wpAny_pure ?_))
  have last : ∀ (u : Value) (g7 : Heap), (∀ c o, s.heap.get? c = some o → g7.get? c = some o) → g7.IsTupleIter (t + 1) t 2 ∧ g7.IsTuple t #[a, b] → (∃ n, g7.get? (t + 2) = some { cls := .type "list", dict := none, data := .seq #[u, u] n, slots := #[] }) →
      (∀ (g : Heap) (tk : Nat), (∀ c o, s.heap.get? c = some o → g.get? c = some o) → Q u { s with heap := g, toks := tk }) →
      codeAny (model prog w) A (.builtin "min.loop" ⟨[.ref (t + 1), .none, .ref (t + 2)], []⟩) (fun r s' => match r with | .ok (.ret v) => Q v s' | .ok _ => False | .error e => E e s') { s with heap := g7, toks := tk6 } := by
    intro u g7 o7 st7 ⟨n, q7⟩ hQ
    refine codeAny_builtin (F.entry_min_loop) ?_; rw [Around.under_plainId (F.plain_min_loop) _]
    show wpAny (model prog w) A.in1 (seqItems? (.ref (t + 2)) >>= _) _ _ _
    refine wpAny_bind (wpAny_seqItems q7 rfl ?_)
    show wpAny (model prog w) A.in1 (tryCatch (pyNext (.ref (t + 1))) _ >>= _) _ _ _
    refine wpAny_bind (wpAny_tryCatch (Wk.done _ _ _ st7 fun g8 tk8 k8 => ?_))
    have q8 := k8 _ _ n1 q7
    show wpAny (model prog w) A.in1 (updateSeq (t + 2) (fun _ => #[]) >>= _) _ _ _
    refine wpAny_bind (wpAny_updateSeq q8 rfl (wpAny_bind (wpAny_letGo (wpAny_pure ?_))))
    exact hQ _ _ fun c o e => (Heap.get?_update_other _ _ (far2 c o e)).trans (k8 c o (far1 c o e) (o7 c o e))
  cases k with
  | true =>
    simp only [if_true]
    refine wpAny_bind (wpAny_updateSeq q6 rfl (wpAny_bind (wpAny_letGo ?_))); rw [nm2]
    have q7 := Heap.get?_update_self (Obj.mapSeq fun _ => #[b, b]) q6 rfl
    have k7 : ∀ c o, c ≠ t + 2 → g6.get? c = some o → (g6.update (t + 2) (Obj.mapSeq fun _ => #[b, b])).get? c = some o := fun c o e z => (Heap.get?_update_other _ _ (Ne.symm e)).trans z
    generalize g6.update (t + 2) (Obj.mapSeq fun _ => #[b, b]) = g7 at *
    refine wpAny_pure ⟨plainId_quiet (F.plain_min_loop) _, ?_⟩
    exact last b g7 (fun c o e => k7 c o (Ne.symm (far2 c o e)) (o6 c o e)) ⟨st6.1.at fun o e => k7 _ o (Nat.ne_of_lt (Nat.lt_succ_self (t + 1))) e, st6.2.at fun o e => k7 _ o (Nat.ne_of_lt (Nat.lt_add_of_pos_right (by decide))) e⟩ ⟨_, q7⟩ h
  | false =>
    simp only [Bool.false_eq_true, if_false] at h ⊢
    refine wpAny_bind (wpAny_letGo ?_); rw [nm2]
    refine wpAny_pure ⟨plainId_quiet (F.plain_min_loop) _, ?_⟩
    exact last a g6 o6 st6 ⟨_, q6⟩ h
end
section
variable {X : Cx}
/-- max(x, y), min(x, y) of data that can be compared -/
def rMaxD (K : PySem.W.Frag) : List V → Hp → VK → Prop := fun xs H Q => ∃ x y d e, xs = [x, y] ∧ Dp K H x d ∧ Dp K H y e ∧ PySem.W.alike e d = true ∧ e ≠ .none ∧ min e.depth d.depth ≤ 60 ∧ Q (if PySem.W.dataLt d e = true then y else x) H
def rMinD (K : PySem.W.Frag) : List V → Hp → VK → Prop := fun xs H Q => ∃ x y d e, xs = [x, y] ∧ Dp K H x d ∧ Dp K H y e ∧ PySem.W.alike e d = true ∧ e ≠ .none ∧ min e.depth d.depth ≤ 60 ∧ Q (if PySem.W.dataLt e d = true then y else x) H
theorem call_maxD (hu : X.A.units + 70 < cLine) (hh : X.A.handled = none) : CallR X (.builtin "max") (rMaxD X.K) := by
  rintro pins s σ H xs us Q I r ⟨x, y, d, e, rfl, hd, he, al, nn, dp, q⟩
  obtain ⟨u1, u2, rfl, r1, r2⟩ := vals2 r
  obtain ⟨as, q1⟩ := Dp.reads I d x u1 hd r1
  obtain ⟨bs, q2⟩ := Dp.reads I e y u2 he r2
  refine max_pair (k := PySem.W.dataLt d e) hh (fun g tk Q' E' kp hq => PySem.W.rcGt_alike e d X.A.in1 _ u2 u1 bs as (Reads.keeps kp q2) (Reads.keeps kp q1) al nn (by rw [Around.in1_units]; omega) _ _ _ _ hq) fun g tk kp => ⟨_, H, I.kept kp, ?_, q⟩
  cases PySem.W.dataLt d e
  · exact r1
  · exact r2
theorem call_minD (hu : X.A.units + 70 < cLine) (hh : X.A.handled = none) : CallR X (.builtin "min") (rMinD X.K) := by
  rintro pins s σ H xs us Q I r ⟨x, y, d, e, rfl, hd, he, al, nn, dp, q⟩
  obtain ⟨u1, u2, rfl, r1, r2⟩ := vals2 r
  obtain ⟨as, q1⟩ := Dp.reads I d x u1 hd r1
  obtain ⟨bs, q2⟩ := Dp.reads I e y u2 he r2
  refine min_pair (k := PySem.W.dataLt e d) hh (fun g tk Q' E' kp hq => PySem.SeqAt.RcOp.of_lt (PySem.W.rcLt_alike e d X.A.in1 _ u2 u1 bs as (Reads.keeps kp q2) (Reads.keeps kp q1) al nn (by rw [Around.in1_units]; omega)) _ _ _ _ hq) fun g tk kp => ⟨_, H, I.kept kp, ?_, q⟩
  cases PySem.W.dataLt e d
  · exact r1
  · exact r2
end
section
variable {Y : Ct} {γ γ' : List S} {M M1 M2 M3 : MM} {s s1 s2 s3 : S} {e a b c it tg : Expr} {pos p p2 : Pos} {es : List Expr} {d d1 d2 : PyData} {z : Bool}
theorem rv_ordD {K : PySem.W.Frag} {f : PyData → PyData → Bool} (v1 : Vw M s1 d1) (v2 : Vw M s2 d2) (h1 : PySem.W.alike d1 d2 = true) (h2 : d1 ≠ .none) (h3 : min d1.depth d2.depth ≤ 60) (hz : f d1 d2 = z) : RV K (rOrdD f K) s1 s2 M (.d (.bool z)) M :=
  ⟨fun F v w H Q hm r1 r2 q => ⟨d1, d2, v1.ok hm r1, v2.ok hm r2, h1, h2, h3, q F _ H (Same.refl F) hm (hz ▸ .bl _)⟩⟩
theorem t_gtD {k : Nat} (hr : Room k Y.X.A) (ha : EV Y a γ M s1 M1) (hb : EV Y b γ M1 s2 M2) (v1 : Vw M2 s1 d1) (v2 : Vw M2 s2 d2) (h1 : PySem.W.alike d1 d2 = true) (h2 : d1 ≠ .none) (h3 : min d1.depth d2.depth ≤ 60) (hz : PySem.W.dataLt d2 d1 = z) : ET Y (.Compare a [.Gt] [b] pos) γ M z M2 :=
  t_bin (fun h1 h2 => pt_cmpR (op_gtD hr.units) h1 h2 (nomark _)) ha hb (rv_ordD (f := fun d e => PySem.W.dataLt e d) v1 v2 h1 h2 h3 hz)
theorem t_ltD {k : Nat} (hr : Room k Y.X.A) (ha : EV Y a γ M s1 M1) (hb : EV Y b γ M1 s2 M2) (v1 : Vw M2 s1 d1) (v2 : Vw M2 s2 d2) (h1 : PySem.W.alike d1 d2 = true) (h2 : d1 ≠ .none) (h3 : min d1.depth d2.depth ≤ 60) (hz : PySem.W.dataLt d1 d2 = z) : ET Y (.Compare a [.Lt] [b] pos) γ M z M2 :=
  t_bin (fun h1 h2 => pt_cmpR (op_ltD hr.units) h1 h2 (nomark _)) ha hb (rv_ordD (f := fun d e => PySem.W.dataLt d e) v1 v2 h1 h2 h3 hz)
theorem e_max2D {k : Nat} {z : PyData} (hr : Room k Y.X.A) (hg : Gl Y.X "max" := by rfl) (hm : Y.X.mg "max" = none) (ha : EA Y (e :: es) γ M [.d d1, .d d2] M1) (h1 : PySem.W.alike d2 d1 = true) (h2 : d2 ≠ .none) (h3 : min d2.depth d1.depth ≤ 60) (hz : (if PySem.W.dataLt d1 d2 = true then d2 else d1) = z)
    (he : starEach (e :: es) Y.X.env = (false, eval e Y.X.env) :: starEach es Y.X.env := by rfl) (hpl : (backTo pos (starEach es Y.X.env)).any (·.1) = false := by rfl) : EV Y (.Call (.Name "max" p) (e :: es) [] pos) γ M (.d z) M1 :=
  e_callB (call_maxD (by have := hr.un; omega) hr.hd) hg hm (by decide +kernel) ha (he := he) (hpl := hpl) (hr := ⟨fun F vs H Q hm' g q => by
    obtain ⟨v, w, rfl, g1, g2⟩ := pair_two g
    refine ⟨v, w, d1, d2, rfl, dp_mono hm'.fh _ _ g1, dp_mono hm'.fh _ _ g2, h1, h2, h3, q F _ H (Same.refl F) hm' ?_⟩
    subst hz
    cases PySem.W.dataLt d1 d2
    · exact g1
    · exact g2⟩)
theorem e_min2D {k : Nat} {z : PyData} (hr : Room k Y.X.A) (hg : Gl Y.X "min" := by rfl) (hm : Y.X.mg "min" = none) (ha : EA Y (e :: es) γ M [.d d1, .d d2] M1) (h1 : PySem.W.alike d2 d1 = true) (h2 : d2 ≠ .none) (h3 : min d2.depth d1.depth ≤ 60) (hz : (if PySem.W.dataLt d2 d1 = true then d2 else d1) = z)
    (he : starEach (e :: es) Y.X.env = (false, eval e Y.X.env) :: starEach es Y.X.env := by rfl) (hpl : (backTo pos (starEach es Y.X.env)).any (·.1) = false := by rfl) : EV Y (.Call (.Name "min" p) (e :: es) [] pos) γ M (.d z) M1 :=
  e_callB (call_minD (by have := hr.un; omega) hr.hd) hg hm (by decide +kernel) ha (he := he) (hpl := hpl) (hr := ⟨fun F vs H Q hm' g q => by
    obtain ⟨v, w, rfl, g1, g2⟩ := pair_two g
    refine ⟨v, w, d1, d2, rfl, dp_mono hm'.fh _ _ g1, dp_mono hm'.fh _ _ g2, h1, h2, h3, q F _ H (Same.refl F) hm' ?_⟩
    subst hz
    cases PySem.W.dataLt d2 d1
    · exact g1
    · exact g2⟩)
/-- two tuples of two numbers -/
theorem lt_int (a b : Int) : PySem.W.dataLt (.int a) (.int b) = decide (a < b) := by
  unfold PySem.W.dataLt PySem.W.keyToks
  by_cases h : a = b
  · subst h
    rw [lex_self (O := itemOrd)]
    rw [decide_eq_false (Int.lt_irrefl a)]
    rfl
  · rw [lex_diff (O := itemOrd) (fun z => h (Sum.inl.inj z))]
    rfl
theorem lt_tcons {x y : PyData} (xs ys : List PyData) (h : PySem.W.alike x y = true) : PySem.W.dataLt (.tuple (x :: xs)) (.tuple (y :: ys)) = if PyData.eqv x y = true then PySem.W.dataLt (.tuple xs) (.tuple ys) else PySem.W.dataLt x y := by
  obtain ⟨h1, h2⟩ := PySem.W.toks_eqv x y h
  unfold PySem.W.dataLt
  rw [PySem.W.keyToks, PySem.W.keyToks, PySem.W.keyToks, PySem.W.keyToks, PySem.W.toks_all_cons, PySem.W.toks_all_cons, lex_self (O := itemOrd)]
  cases e : PyData.eqv x y with
  | true => rw [h1 e, PySem.W.lex_pre]; rfl
  | false => rw [h2 e]; rfl
theorem lt_tnil : PySem.W.dataLt (.tuple []) (.tuple []) = false := by decide +kernel
theorem lt_tone (y : PyData) (ys : List PyData) : PySem.W.dataLt (.tuple []) (.tuple (y :: ys)) = true := by
  unfold PySem.W.dataLt
  rw [PySem.W.keyToks, PySem.W.keyToks, PySem.W.keyToksAll, PySem.W.keyToksAll, lex_diff (O := itemOrd) (by decide)]
  rfl
theorem lt_tone' (y : PyData) (ys : List PyData) : PySem.W.dataLt (.tuple (y :: ys)) (.tuple []) = false := by
  unfold PySem.W.dataLt
  rw [PySem.W.keyToks, PySem.W.keyToks, PySem.W.keyToksAll, PySem.W.keyToksAll, lex_diff (O := itemOrd) (by decide)]
  rfl
theorem lt_ints (a b c d : Int) : PySem.W.dataLt (.tuple [.int a, .int b]) (.tuple [.int c, .int d]) = (decide (a < c) || (decide (a = c) && decide (b < d))) := by
  rw [lt_tcons _ _ rfl, lt_tcons _ _ rfl, lt_tnil, lt_int, lt_int, eqv_int, eqv_int]
  by_cases h1 : a = c <;> by_cases h2 : b = d <;> simp [h1, h2]
/-- a target of a comprehension: what it does to the slots -/
structure TgOk (Y : Ct) (g : TG) (js : List Nat) (γ : List S) (x : S) (γ2 : List S) : Prop where
  run : ∀ M F σ H v (Q : L2.St → Hp → Prop), Rl Y.X.K γ M F σ H → SR Y.X.K F v x → (∀ σ2, wipe σ2 js = wipe σ js → Rl Y.X.K γ2 M F σ2 H → Q σ2 H) → g v (wipe σ js) H Q
def compG2 (γ : List S) (i j : Nat) (x y : S) : List S := (((γ.set j .no).set i .no).set i x).set j y
theorem tg_pair (i j : Nat) (hij : i ≠ j) {d1 d2 : PyData} : TgOk Y (gTup Y.X.K 2 (gCons (gName i) (gCons (gName j) gNil))) [i, j] γ (.d (.tuple [d1, d2])) (compG2 γ i j (.d d1) (.d d2)) := by
  refine ⟨fun M F σ H v Q r sv q => ?_⟩
  cases sv with
  | @tup _ _ ws h1 h2 =>
    cases h2 with
    | @cons v1 t1 _ _ z1 h3 =>
      cases h3 with
      | @cons v2 t2 _ _ z2 h4 =>
        cases h4
        refine ⟨_, _, rfl, same_t r.hm.fh h1, rfl, v1, _, rfl, v2, _, rfl, rfl, ?_⟩
        refine q _ ?_ ⟨r.hm, pair_set (sr_or (s := .d d2) z2) j (pair_set (sr_or (s := .d d1) z1) i (pair_set (R := OR Y.X.K F) (y := S.no) trivial i (pair_set (R := OR Y.X.K F) (y := S.no) trivial j r.sl)))⟩
        show (((((σ.set j none).set i none).set i (some v1)).set j (some v2)).set j none).set i none = (σ.set j none).set i none
        rw [List.set_set, List.set_comm _ _ hij, List.set_set, List.set_comm _ _ hij, List.set_set, List.set_set]
section
variable {Y : Ct} {γ : List S} {M M1 : MM} {elt it tg : Expr} {ifs : List Expr} {xs : List S} {scope : Scope}
/-- [elt for tg in it if ifs], tg any target -/
theorem q_compG {own : List (Str × Nat)} {g : TG} {G : Nat → S → List S} {Sd : MM → Prop} {Q : S → MM → Prop} {cpos : Pos} (hc : Y.X.calm = true) (hN : Y.X.N.Nodup) (hI : EI Y tg it γ M xs Sd M1) (ok : BlkOk Y.X.N Y.X.env.scope scope own)
    (hg : ∀ (s : Shared) (H : Hp) (C : Addr) (cl : List (Str × Addr)) (fp : List Addr), PG (Y.X.blk s H scope (compEnvC scope cl C Y.X.env) fp) tg g)
    (ht : ∀ (i : Nat) x, xs[i]? = some x → TgOk Y g (own.map (·.2)) γ x (G i x))
    (Iv : Nat → MM → List S → Prop) (h0 : Iv 0 M1 []) (hS : ∀ i M' acc, Iv i M' acc → acc.length ≤ 99999 ∧ ∀ D, Sd (M' ++ [(D, .lst acc)]))
    (turn : ∀ (i : Nat) x M' acc (D : Addr), xs[i]? = some x → Iv i M' acc → ∃ b M2, (∀ s H C cl fp, PTs (Y.blk scope s H C cl fp).X ifs (tET Y.un (G i x) (M' ++ [(D, .lst acc)]) b (M2 ++ [(D, .lst acc)]))) ∧
      (b = true → ∀ s H C cl fp, EQ (Y.blk scope s H C cl fp) elt (G i x) (M2 ++ [(D, .lst acc)]) fun y M3 => ∃ M4, M3 = M4 ++ [(D, .lst acc)] ∧ Iv (i + 1) M4 (acc ++ [y])) ∧ (b = false → Iv (i + 1) M2 acc))
    (done : ∀ D M' acc, Iv xs.length M' acc → Q (.ob D) (M' ++ [(D, .lst acc)]))
    (hs : ∀ x, foldedSetIterable it Y.X.env x = pure x := by intro _; rfl) : EQ Y (.ListComp elt [⟨tg, it, ifs, 0⟩] scope cpos) γ M Q := by
  obtain ⟨wi, hw, run⟩ := hI.ex
  refine ⟨PE.imp (pe_lc (g := g) (tt := uTb Y.X scope ifs) (te := uEb Y.X scope elt) hc hN hw ok hg uTb_ok uEb_ok hs) fun σ H R ⟨F, r, q, ex⟩ => ?_⟩
  refine run F σ H _ r ex fun F1 H1 J e1 r1 Wk => ?_
  intro D hD
  have r0 : Rl Y.X.K γ (M1 ++ [(D, .lst [])]) F1 σ (upd H1 D (.lst [])) := ⟨r1.hm.newM hD ⟨[], upd_same, .nil⟩, r1.sl⟩
  refine ⟨fun i m H' => m = xs.length - i ∧ i ≤ xs.length ∧ ∃ M' acc F', Iv i M' acc ∧ Same F1 F' ∧ Rl Y.X.K γ (M' ++ [(D, .lst acc)]) F' σ H', ⟨xs.length, by simp, Nat.zero_le _, M1, [], F1, h0, Same.refl F1, r0⟩, ?_⟩
  rintro i m H' ⟨rfl, hi, M', acc, F', w, e2, r2⟩
  obtain ⟨hacc, hSd⟩ := hS i M' acc w
  by_cases hlt : i < xs.length
  · refine .inr ⟨Wk.go i H' F' _ e2 r2.hm (hSd D) hlt, fun H3 => ∃ M' acc F', Iv (i + 1) M' acc ∧ Same F1 F' ∧ Rl Y.X.K γ (M' ++ [(D, .lst acc)]) F' σ H3, fun H3 z => ⟨xs.length - (i + 1), by omega, rfl, hlt, z⟩, fun v H'' y => ?_⟩
    obtain ⟨x, hx⟩ : ∃ x, xs[i]? = some x := ⟨xs[i], by simp [hlt]⟩
    obtain ⟨F2, e3, r3, sv⟩ := Wk.yld i H' v H'' x F' γ _ σ hx e2 r2 (hSd D) y
    obtain ⟨b, M2, ht2, hyes, hno⟩ := turn i x M' acc D hx w
    refine (ht i x hx).run _ F2 σ H'' v _ r3 sv fun σ2 hw2 r4 => ?_
    have back : ∀ {F' M' H'}, Same F2 F' → Rl Y.X.K (G i x) M' F' σ2 H' → Rl Y.X.K γ M' F' σ H' := fun {F' M' H'} e r => ⟨r.hm, sl_mono e r3.sl⟩
    refine ⟨hw2, tET ⟨Y.X, fun _ _ _ _ => False, fun _ _ _ => False⟩ (G i x) (M' ++ [(D, MO.lst acc)]) b (M2 ++ [(D, MO.lst acc)]), fun s H C cl fp => ht2 s H C cl fp, F2, r4, fun F3 H3 e4 r5 => ?_, fun _ _ _ _ _ _ _ _ z => z.elim⟩
    cases b with
    | true =>
      refine iteT ?_
      refine ⟨tEQ ⟨Y.X, fun _ _ _ _ => False, fun _ _ _ => False⟩ (G i x) (M2 ++ [(D, MO.lst acc)]) (fun y M3 => ∃ M4, M3 = M4 ++ [(D, MO.lst acc)] ∧ Iv (i + 1) M4 (acc ++ [y])), fun s H C cl fp => (hyes rfl s H C cl fp).pe, F3, r5, fun F4 y' s' M5 H4 e5 r6 sy ⟨M4, e6, w4⟩ => ?_, fun _ _ _ _ _ _ _ _ z => z.elim⟩
      subst e6
      have hk : (M4 ++ [(D, MO.lst acc)])[M4.length]? = some (D, .lst acc) := by simp
      obtain ⟨_, vs, g1, g2⟩ := r6.hm.mo _ _ (List.mem_of_getElem? hk)
      refine ⟨vs, g1, by rw [pair_len g2]; exact Nat.lt_of_le_of_lt hacc (by decide), M4, acc ++ [s'], F4, w4, ((e2.trans e3).trans e4).trans e5, ?_⟩
      have hM := r6.hm.setM hk (o := .lst (vs ++ [y'])) (m := .lst (acc ++ [s'])) ⟨_, upd_same, pair_app g2 (.cons sy .nil)⟩
      have eM : (M4 ++ [(D, MO.lst acc)]).set M4.length (D, MO.lst (acc ++ [s'])) = M4 ++ [(D, MO.lst (acc ++ [s']))] := by simp
      rw [eM] at hM
      exact ⟨hM, (back (e4.trans e5) r6).sl⟩
    | false =>
      refine iteF ?_
      exact ⟨M2, acc, F3, hno rfl, (e2.trans e3).trans e4, back e4 r5⟩
  · have hil : i = xs.length := by omega
    subst hil
    exact .inl ⟨Wk.stop _ H' F' _ e2 r2.hm (hSd D) (Nat.le_refl _), q F' (.ref D) (.ob D) _ H' (e1.trans e2) r2 rfl (done D M' acc w)⟩
/-- .. over pairs, to two names; each element changes nothing; ys what is made -/
theorem n_compT {α : Type} (i j : Nat) {n1 n2 : Str} {p1 p2 tp cpos : Pos} {kt : Nat} (l : List α) (f1 f2 : α → PyData) (h : α → PyData) (hij : i ≠ j) (hc : Y.X.calm = true) (hN : Y.X.N.Nodup) (hI : EI Y (.Tuple [.Name n1 p1, .Name n2 p2] kt tp) it γ M ((l.map fun a => .tuple [f1 a, f2 a]).map S.d) (fun _ => True) M1) (ok : BlkOk Y.X.N Y.X.env.scope scope [(n1, i), (n2, j)]) (hn : Nat.ble l.length 99999 = true)
    (turn : ∀ a ∈ l, ∀ M' s H C cl fp, EV (Y.blk scope s H C cl fp) elt (compG2 γ i j (.d (f1 a)) (.d (f2 a))) M' (.d (h a)) M')
    (hg : ∀ (s : Shared) (H : Hp) (C : Addr) (cl : List (Str × Addr)) (fp : List Addr), PG (Y.X.blk s H scope (compEnvC scope cl C Y.X.env) fp) (.Tuple [.Name n1 p1, .Name n2 p2] kt tp) (gTup Y.X.K 2 (gCons (gName i) (gCons (gName j) gNil))) := by exact fun _ _ _ _ _ => pg_tup rfl (pgs_cons (pg_name (by assumption) rfl (Or.inl rfl)) (pgs_cons (pg_name (by assumption) rfl (Or.inl rfl)) pgs_nil)))
    (hs : ∀ x, foldedSetIterable it Y.X.env x = pure x := by intro _; rfl) : EN Y (.ListComp elt [⟨.Tuple [.Name n1 p1, .Name n2 p2] kt tp, it, [], 0⟩] scope cpos) γ M (.lst ((l.map h).map S.d)) M1 := by
  have hz : ∀ (k : Nat) x, ((l.map fun a => PyData.tuple [f1 a, f2 a]).map S.d)[k]? = some x → ∃ a, l[k]? = some a ∧ x = S.d (.tuple [f1 a, f2 a]) := fun k x hx => by
    rw [List.getElem?_map, List.getElem?_map] at hx
    cases e : l[k]? with
    | none => rw [e] at hx; cases hx
    | some a => rw [e] at hx; cases hx; exact ⟨a, rfl, rfl⟩
  have hq := q_compG (Q := fun s M' => ∃ q, s = .ob q ∧ M' = M1 ++ [(q, .lst ((l.map h).map S.d))]) (elt := elt) (cpos := cpos) (ifs := []) (own := [(n1, i), (n2, j)]) (G := fun k _ => match l[k]? with | some a => compG2 γ i j (.d (f1 a)) (.d (f2 a)) | none => γ) hc hN hI ok hg
    (fun k x hx => by
      obtain ⟨a, ha, rfl⟩ := hz k x hx
      rw [ha]
      exact tg_pair i j hij)
    (fun k M' acc => M' = M1 ∧ acc = ((l.take k).map h).map S.d ∧ k ≤ l.length) ⟨rfl, rfl, Nat.zero_le _⟩
    (fun k M' acc ⟨_, h2, h3⟩ => ⟨by rw [h2, List.length_map, List.length_map, List.length_take]; have := Nat.le_of_ble_eq_true hn; omega, fun _ => trivial⟩)
    (fun k x M' acc D hx ⟨h1, h2, h3⟩ => by
      obtain ⟨a, ha, rfl⟩ := hz k x hx
      obtain ⟨hlt, _⟩ := List.getElem?_eq_some_iff.mp ha
      refine ⟨true, M', ptsB, fun _ s H C cl fp => ?_, fun z => nomatch z⟩
      rw [ha]
      refine (turn a (List.mem_of_getElem? ha) _ s H C cl fp).q ⟨M', rfl, h1, ?_, hlt⟩
      rw [h2, List.take_add_one, ha, List.map_append, List.map_append]
      rfl)
    (fun D M' acc ⟨h1, h2, _⟩ => ⟨D, rfl, by rw [List.length_map, List.length_map, List.take_length] at h2; rw [h1, h2]⟩) hs
  exact ⟨PE.imp hq.pe fun σ H Q ⟨F, r, q, ex⟩ => ⟨F, r, fun F' v s M' H' e1 r1 sv ⟨a, h1, h2⟩ => by
    subst h1 h2
    cases sv
    exact q F' a H' e1 r1, ex⟩⟩
end
section
variable {Y : Ct} {γ : List S} {M : MM} {e o a : Expr} {pos tp : Pos} {P : Po}
/-- o[i] = e, e not told by one term -/
theorem s_setIQ (he : EQ Y e γ M fun s M1 => ∃ (q : Addr) (j : Int) (k jj : Nat) (xs : List S) (M2 M3 : MM), EV Y o γ M1 (.ob q) M2 ∧ EV Y a γ M2 (.d (.int j)) M3 ∧ M3[k]? = some (q, .lst xs) ∧ ixN xs.length j = some jj ∧ P.nx γ (M3.set k (q, .lst (xs.set jj s))))
    (hs : swapsWithSole [.Subscript o a tp] e pos.line Y.X.env = pure false := by rfl) (hw : swappedStores [.Subscript o a tp] e Y.X.env = pure none := by rfl)
    (h1 : (assignEach [.Subscript o a tp] Y.X.env).map (·.2) = [assign (.Subscript o a tp) Y.X.env] := by rfl)
    (ha : ∀ v, assign (.Subscript o a tp) Y.X.env v = (do
      let ov ← holding [v] (eval o Y.X.env); let iv ← holding [v, ov] (eval a Y.X.env)
      standAt tp; holding [v, ov, iv] (setItem ov iv v)
      release [v, ov, iv] []) := by intro _; rfl) : ST Y (.Assign [.Subscript o a tp] e pos) γ M P :=
  ⟨PS.imp (ps_asg he.pe uG_ok hs hw h1) fun D σ H ⟨F, r, qq, ex⟩ => ⟨F, r, fun F1 v s M1 H1 e1 r1 v1 ⟨q, j, k, jj, xs, M2, M3, ho, hi, hk, hj, kk⟩ => ⟨_, pg_sub ho.pe hi.pe set_list ha, F1, r1, fun F2 v2 H2 e2 r2 sv2 => ⟨F2, r2, fun F3 v3 H3 e3 r3 sv3 => by
    cases sv2; cases sv3
    obtain ⟨_, us, f1, f2⟩ := r3.hm.mo _ _ (List.mem_of_getElem? hk)
    refine ⟨q, us, j, jj, rfl, rfl, f1, by rw [pair_len f2]; exact hj, ?_⟩
    have hM := r3.hm.setM hk (o := .lst (us.set jj v)) (m := .lst (xs.set jj s)) ⟨_, upd_same, pair_set ((v1.mono e2).mono e3) jj f2⟩
    exact qq.nx γ _ F3 σ _ ((e1.trans e2).trans e3) ⟨hM, r3.sl⟩ kk, (ex.mono e1).mono e2⟩, ex.mono e1⟩, ex⟩⟩
end
theorem alike_ints (a b c d : Int) : PySem.W.alike (.tuple [.int a, .int b]) (.tuple [.int c, .int d]) = true := rfl
end
end Mi

/-! Mi: instances: fields, methods, new ones; defaults. -/
namespace Mi
open PySem PySem.Spec PyProof.Rows L2
theorem HM.other {K : PySem.W.Frag} {F H : Hp} {M : MM} (h : HM K F M H) {p : Addr} (hp : H p = none) (o : HO) : HM K F M (upd H p o) := by
  refine ⟨fun b u q => ?_, fun a o' m => ?_, h.nd⟩
  · rw [upd_ne (ne_of_none q (h.fh.free hp))]; exact h.fh b u q
  · obtain ⟨h1, h2⟩ := h.mo a o' m
    obtain ⟨u, hu⟩ := h2.there
    exact ⟨h1, h2.mono (Same.refl F) (upd_ne (ne_of_none hu hp))⟩
theorem HM.inst {K : PySem.W.Frag} {F H : Hp} {M : MM} (h : HM K F M H) {x dx C : Addr} (hx : H x = none) (hd : H dx = none) (hne : dx ≠ x) : HM K F (M ++ [(x, .ins C [])]) (upd (upd H dx (.own x)) x (.ins C dx [])) :=
  (h.other hd (.own x)).newM (p := x) (by rw [upd_ne hne.symm]; exact hx) ⟨dx, [], upd_same, .nil⟩
def putS (f : Str) (s : S) : List (Str × S) → List (Str × S)
  | [] => [(f, s)]
  | (g, x) :: r => if g = f then (g, s) :: r else (g, x) :: putS f s r
abbrev FR (K : PySem.W.Frag) (F : Hp) : List (Str × V) → List (Str × S) → Prop := Paired (fun (p : Str × V) (q : Str × S) => p.1 = q.1 ∧ SR K F p.2 q.2)
theorem fr_some {K : PySem.W.Frag} {F : Hp} {f : Str} {s : S} : ∀ {vs : List (Str × V)} {fs : List (Str × S)}, FR K F vs fs → fs.lookup f = some s → ∃ v, vs.lookup f = some v ∧ SR K F v s
  | _, _, .nil, h => nomatch h
  | (a, v) :: vs, (b, x) :: fs, .cons ⟨h1, h2⟩ t, h => by
    cases (show a = b from h1)
    rw [List.lookup_cons] at h ⊢
    cases e : f == a with
    | true => rw [e] at h; cases h; exact ⟨v, rfl, h2⟩
    | false => rw [e] at h; exact fr_some t h
theorem fr_none {K : PySem.W.Frag} {F : Hp} {f : Str} : ∀ {vs : List (Str × V)} {fs : List (Str × S)}, FR K F vs fs → fs.lookup f = none → vs.lookup f = none
  | _, _, .nil, h => rfl
  | (a, v) :: vs, (b, x) :: fs, .cons ⟨h1, h2⟩ t, h => by
    cases (show a = b from h1)
    rw [List.lookup_cons] at h ⊢
    cases e : f == a with
    | true => rw [e] at h; cases h
    | false => rw [e] at h; exact fr_none t h
theorem fr_put {K : PySem.W.Frag} {F : Hp} {f : Str} {v : V} {s : S} (r : SR K F v s) : ∀ {vs : List (Str × V)} {fs : List (Str × S)}, FR K F vs fs → FR K F (putF f v vs) (putS f s fs)
  | _, _, .nil => .cons ⟨rfl, r⟩ .nil
  | (a, w) :: vs, (b, x) :: fs, .cons ⟨h1, h2⟩ t => by
    cases (show a = b from h1)
    unfold putF putS
    split
    · exact .cons ⟨rfl, r⟩ t
    · exact .cons ⟨rfl, h2⟩ (fr_put r t)
section
variable {Y : Ct} {γ γ' : List S} {M M1 M2 M3 : MM} {s : S} {e o : Expr} {pos apos p : Pos} {f m x : Str} {q C : Addr} {fs : List (Str × S)} {P : Po} {es : List Expr} {Q : S → MM → Prop} {k n : Nat}
/-- o.f -/
theorem e_fld (h : EV Y o γ M (.ob q) M1) (hk : M1[n]? = some (q, .ins C fs)) (c : Cls Y.X.K C) (na : NoAttr Y.X.K C f) (hl : fs.lookup f = some s) (hb : attributeBase o f Y.X.env (eval o Y.X.env) = eval o Y.X.env := by rfl) : EV Y (.Attribute o f pos) γ M s M1 :=
  ⟨PE.imp (pe_fld h.pe hb) fun σ H R ⟨F, r, qq, ex⟩ => ⟨F, r, fun F1 v H1 e1 r1 v1 => by
    cases v1
    obtain ⟨_, dx, vs, g1, g2⟩ := r1.hm.mo _ _ (List.mem_of_getElem? hk)
    obtain ⟨w, g3, g4⟩ := fr_some g2 hl
    exact ⟨q, C, dx, vs, w, rfl, g1, c, na, g3, qq F1 w H1 e1 r1 g4⟩, ex⟩⟩
/-- o.f = e -/
theorem s_fldQ {fp : Pos} (h : EQ Y e γ M fun s M1 => ∃ (q C : Addr) (n : Nat) (fs : List (Str × S)) (M2 : MM), EV Y o γ M1 (.ob q) M2 ∧ M2[n]? = some (q, .ins C fs) ∧ Cls Y.X.K C ∧ NoAttr Y.X.K C f ∧ fs.length < 1000 ∧ P.nx γ (M2.set n (q, .ins C (putS f s fs))))
    (hs : swapsWith e (some (.Attribute o f fp)) pos.line Y.X.env = pure false := by rfl) : ST Y (.Assign [.Attribute o f fp] e pos) γ M P :=
  ⟨PS.imp (ps_fld uE_ok h.pe hs) fun D σ H ⟨F, r, qq, ex⟩ => ⟨F, r, fun F1 v s M1 H1 e1 r1 v1 ⟨q, C, n, fs, M2, ho, hk, c, na, hl, kk⟩ => ⟨_, ho.pe, F1, r1, fun F2 v2 H2 e2 r2 sv2 => by
    cases sv2
    obtain ⟨_, dx, vs, g1, g2⟩ := r2.hm.mo _ _ (List.mem_of_getElem? hk)
    refine ⟨q, C, dx, vs, rfl, g1, c, na, by rw [pair_len g2]; exact hl, ?_⟩
    have hM := r2.hm.setM hk (o := .ins C dx (putF f v vs)) (m := .ins C (putS f s fs)) ⟨dx, _, upd_same, fr_put (v1.mono e2) g2⟩
    exact qq.nx γ _ F2 σ _ (e1.trans e2) ⟨hM, r2.sl⟩ kk, ex.mono e1⟩, ex⟩⟩
theorem s_fld {fp : Pos} (h : EV Y e γ M s M1) (ho : EV Y o γ M1 (.ob q) M2) (hk : M2[n]? = some (q, .ins C fs)) (c : Cls Y.X.K C) (na : NoAttr Y.X.K C f) (kk : P.nx γ (M2.set n (q, .ins C (putS f s fs)))) (hl : fs.length < 1000 := by decide)
    (hs : swapsWith e (some (.Attribute o f fp)) pos.line Y.X.env = pure false := by rfl) : ST Y (.Assign [.Attribute o f fp] e pos) γ M P :=
  s_fldQ (h.q ⟨q, C, n, fs, M2, ho, hk, c, na, hl, kk⟩) hs
end
section
variable {X : Cx} {CX : CXT} {k : Nat} {f C : Addr} {fd : FuncData} {ps : List Str} {sp : Sp} {E : L2.St → XK} {x m : Str} {p pos apos : Pos} {e o : Expr} {es : List Expr} {ta : TE} {t : TA} {dvs : List V} {ds : List Value}
/-- o.m(e, ..), what is raised wished for at the caller's slots -/
theorem pe_methX {pl : Sem Bool} (he : PE X o ta) (c : Cls X.K C) (hm : Meth X.K C m f) (F : FnOk X.prog X.w X.K X.mg X.base CX k f fd ps sp) (hr : Room k X.A) (hb : Binds X.K fd ps []) (hx : ∀ σ, PassesAt CX X σ (E σ)) (ha : PA X (e :: es) t)
    (hst : starEach (e :: es) X.env = (false, eval e X.env) :: starEach es X.env := by rfl) (hpl : (backTo pos (starEach es X.env)).any (·.1) = false := by rfl)
    (ht : eval (.Call (.Attribute o m apos) (e :: es) [] pos) X.env = (do let ov ← eval o X.env; standAt apos.atName; let (f, first) ← holding [ov] (getMethod ov m pl); callWith pos f first (backTo pos (starEach (e :: es) X.env)) (backToKw pos (keywordEach [] X.env))) := by rfl) :
    PE X (.Call (.Attribute o m apos) (e :: es) [] pos) (fun σ H Q => ta σ H fun x H1 => ∃ a dx fs, x = .ref a ∧ H1 a = some (.ins C dx fs) ∧ fs.lookup m = none ∧ t σ H1 fun vs H2 => sp (x :: vs) H2 Q (E σ)) := by
  refine ⟨fun pins s σ H Q I h => PySem.W.methodCall_KW (pl := pl) (thn (he.run pins s σ H _ I h) fun u s1 ⟨x, H1, I1, rx, a, dx, fs, ex, ea, l, q⟩ => ?_) ht⟩
  subst ex
  cases (show u = Value.ref a from rx)
  refine getmeth_ok I1 ea c hm l (PySem.W.callWith_K (first := [.ref a]) (h₀ := X.base) I1.ok.mod.kin hm.kp (thn (ha.run pos pins s1 σ H1 _ I1 q) fun us s2 ⟨vs, H2, I2, r, q2⟩ => ⟨I2.kIn, ?_⟩) hst hpl)
  exact run_fnS (us := .ref a :: us) (vs := .ref a :: vs) F hr hb (hx σ) I2 (.cons rfl r) q2
theorem pe_methX0 {pl : Sem Bool} (he : PE X o ta) (c : Cls X.K C) (hm : Meth X.K C m f) (F : FnOk X.prog X.w X.K X.mg X.base CX k f fd ps sp) (hr : Room k X.A) (hb : Binds X.K fd ps []) (hx : ∀ σ, PassesAt CX X σ (E σ))
    (ht : eval (.Call (.Attribute o m apos) [] [] pos) X.env = (do let ov ← eval o X.env; standAt apos.atName; let (f, first) ← holding [ov] (getMethod ov m pl); callWith pos f first (backTo pos (starEach [] X.env)) (backToKw pos (keywordEach [] X.env))) := by rfl) :
    PE X (.Call (.Attribute o m apos) [] [] pos) (fun σ H Q => ta σ H fun x H1 => ∃ a dx fs, x = .ref a ∧ H1 a = some (.ins C dx fs) ∧ fs.lookup m = none ∧ sp [x] H1 Q (E σ)) := by
  refine ⟨fun pins s σ H Q I h => PySem.W.methodCall_KW (pl := pl) (thn (he.run pins s σ H _ I h) fun u s1 ⟨x, H1, I1, rx, a, dx, fs, ex, ea, l, q⟩ => ?_) ht⟩
  subst ex
  cases (show u = Value.ref a from rx)
  exact getmeth_ok I1 ea c hm l (PySem.W.callWith_K0 (first := [.ref a]) I1.kIn hm.kp (run_fnS (us := [.ref a]) (vs := [.ref a]) F hr hb (hx σ) I1 (.cons rfl .nil) q))
end
section
variable {Y : Ct} {γ γ' : List S} {M M1 M2 M3 : MM} {s : S} {e o : Expr} {pos apos p : Pos} {m x : Str} {q C f : Addr} {P : Po} {es : List Expr} {Q : S → MM → Prop} {k : Nat} {fd : FuncData} {ps : List Str} {cn : Con}
/-- o.m(e, ..) -/
theorem q_meth {pl : Sem Bool} (G : FnOk Y.X.prog Y.X.w Y.X.K Y.X.mg Y.X.base (L2.CX Y.X.prog Y.X.w) k f fd ps (spD Y.X.K cn)) (hr : Room k Y.X.A) (c : Cls Y.X.K C) (hm : Meth Y.X.K C m f) (hb : Binds Y.X.K fd ps []) (tk : Takes Y.X Y.Er)
    (ho : EQ Y o γ M fun s M1 => ∃ (q : Addr) (n : Nat) (fs : List (Str × S)), s = .ob q ∧ M1[n]? = some (q, .ins C fs) ∧ fs.lookup m = none ∧ EAQ Y (e :: es) γ M1 fun ss M2 => cn (.ob q :: ss) M2 Q (fun cls M' => Y.Rx cls γ M'))
    (hst : starEach (e :: es) Y.X.env = (false, eval e Y.X.env) :: starEach es Y.X.env := by rfl) (hpl : (backTo pos (starEach es Y.X.env)).any (·.1) = false := by rfl)
    (ht : eval (.Call (.Attribute o m apos) (e :: es) [] pos) Y.X.env = (do let ov ← eval o Y.X.env; standAt apos.atName; let (f, first) ← holding [ov] (getMethod ov m pl); callWith pos f first (backTo pos (starEach (e :: es) Y.X.env)) (backToKw pos (keywordEach [] Y.X.env))) := by rfl) : EQ Y (.Call (.Attribute o m apos) (e :: es) [] pos) γ M Q :=
  ⟨PE.imp (pe_methX (pl := pl) ho.pe c hm G hr hb (fun σ => passAt tk σ) uA_ok hst hpl ht) fun σ H R ⟨F, rl, qq, ex⟩ => ⟨F, rl, fun F1 v s M1 H1 e1 r1 v1 ⟨q, n, fs, hs, hk, hl, ha⟩ => by
    subst hs
    cases v1
    obtain ⟨_, dx, vs, g1, g2⟩ := r1.hm.mo _ _ (List.mem_of_getElem? hk)
    refine ⟨q, dx, vs, rfl, g1, fr_none g2 hl, _, ha.pa, F1, r1, fun F2 us ss M2 H2 e2 r2 v2 h => ?_, ex.mono e1⟩
    refine ⟨F2, M2, .ob q :: ss, _, _, .cons rfl v2, r2.hm, h, fun F' v r M' H' e3 h3 v3 hR => qq F' v r M' H' ((e1.trans e2).trans e3) (r2.ext e3 h3) v3 hR, fun cls M' F' H' e3 h3 hR => ex cls γ M' F' σ H' ((e1.trans e2).trans e3) (r2.ext e3 h3) hR⟩, ex⟩⟩
theorem q_meth0 {pl : Sem Bool} (G : FnOk Y.X.prog Y.X.w Y.X.K Y.X.mg Y.X.base (L2.CX Y.X.prog Y.X.w) k f fd ps (spD Y.X.K cn)) (hr : Room k Y.X.A) (c : Cls Y.X.K C) (hm : Meth Y.X.K C m f) (hb : Binds Y.X.K fd ps []) (tk : Takes Y.X Y.Er)
    (ho : EQ Y o γ M fun s M1 => ∃ (q : Addr) (n : Nat) (fs : List (Str × S)), s = .ob q ∧ M1[n]? = some (q, .ins C fs) ∧ fs.lookup m = none ∧ cn [.ob q] M1 Q (fun cls M' => Y.Rx cls γ M'))
    (ht : eval (.Call (.Attribute o m apos) [] [] pos) Y.X.env = (do let ov ← eval o Y.X.env; standAt apos.atName; let (f, first) ← holding [ov] (getMethod ov m pl); callWith pos f first (backTo pos (starEach [] Y.X.env)) (backToKw pos (keywordEach [] Y.X.env))) := by rfl) : EQ Y (.Call (.Attribute o m apos) [] [] pos) γ M Q :=
  ⟨PE.imp (pe_methX0 (pl := pl) ho.pe c hm G hr hb (fun σ => passAt tk σ) ht) fun σ H R ⟨F, rl, qq, ex⟩ => ⟨F, rl, fun F1 v s M1 H1 e1 r1 v1 ⟨q, n, fs, hs, hk, hl, h⟩ => by
    subst hs
    cases v1
    obtain ⟨_, dx, vs, g1, g2⟩ := r1.hm.mo _ _ (List.mem_of_getElem? hk)
    refine ⟨q, dx, vs, rfl, g1, fr_none g2 hl, F1, M1, [.ob q], _, _, .cons rfl .nil, r1.hm, h, fun F' v r M' H' e3 h3 v3 hR => qq F' v r M' H' (e1.trans e3) (r1.ext e3 h3) v3 hR, fun cls M' F' H' e3 h3 hR => ex cls γ M' F' σ H' (e1.trans e3) (r1.ext e3 h3) hR⟩, ex⟩⟩
/-- C(e, ..), nothing raised in __init__ -/
theorem q_make (Mk0 : Mk Y.X.K C f) (G : FnOk Y.X.prog Y.X.w Y.X.K Y.X.mg Y.X.base (L2.CX Y.X.prog Y.X.w) k f fd ps (spD Y.X.K cn)) (hr : Room (k + 1) Y.X.A) (hm : Y.X.mg x = some (.ref C)) (hb : Binds Y.X.K fd ps []) (tk : Takes Y.X Y.Er)
    (ha : EAQ Y (e :: es) γ M fun ss M1 => ∀ a, cn (.ob a :: ss) (M1 ++ [(a, .ins C [])]) (fun r M' => r = .d .none ∧ Q (.ob a) M') (fun _ _ => False)) (hg : Gl Y.X x := by rfl) (hdb : (x == ("__debug__" : Str)) = false := by decide)
    (he : starEach (e :: es) Y.X.env = (false, eval e Y.X.env) :: starEach es Y.X.env := by rfl) (hpl : (backTo pos (starEach es Y.X.env)).any (·.1) = false := by rfl) : EQ Y (.Call (.Name x p) (e :: es) [] pos) γ M Q :=
  ⟨PE.imp (pe_make Mk0 G hr hg hm hb .nil (E := fun _ _ _ => False) (fun pins σ H s e s' => passes_call tk (fun _ _ _ _ z => z.elim) pins σ H s e s') ha.pa hdb he hpl) fun σ H R ⟨F, rl, qq, ex⟩ => ⟨F, rl, fun F1 vs ss M1 H1 e1 r1 v1 h a dx hx hd hne => by
    refine ⟨F1, M1 ++ [(a, .ins C [])], .ob a :: ss, _, _, .cons rfl (by rw [List.append_nil]; exact v1), r1.hm.inst hx hd hne, h a, fun F' v r M' H' e3 h3 v3 hR => ?_, fun cls M' F' H' e3 h3 hR => hR⟩
    obtain ⟨rfl, hQ⟩ := hR
    cases v3
    exact ⟨rfl, qq F' (.ref a) (.ob a) M' H' (e1.trans e3) (r1.ext e3 h3) rfl hQ⟩, ex⟩⟩
theorem q_make0 (Mk0 : Mk Y.X.K C f) (G : FnOk Y.X.prog Y.X.w Y.X.K Y.X.mg Y.X.base (L2.CX Y.X.prog Y.X.w) k f fd ps (spD Y.X.K cn)) (hr : Room (k + 1) Y.X.A) (hm : Y.X.mg x = some (.ref C)) (hb : Binds Y.X.K fd ps []) (tk : Takes Y.X Y.Er)
    (h : ∀ a, cn [.ob a] (M ++ [(a, .ins C [])]) (fun r M' => r = .d .none ∧ Q (.ob a) M') (fun _ _ => False)) (hg : Gl Y.X x := by rfl) (hdb : (x == ("__debug__" : Str)) = false := by decide) : EQ Y (.Call (.Name x p) [] [] pos) γ M Q :=
  ⟨PE.imp (pe_make0 Mk0 G hr hg hm hb .nil (E := fun _ _ _ => False) (fun pins σ H s e s' => passes_call tk (fun _ _ _ _ z => z.elim) pins σ H s e s') hdb) fun σ H R ⟨F, rl, qq, ex⟩ => by
    intro a dx hx hd hne
    refine ⟨F, M ++ [(a, .ins C [])], [.ob a], _, _, .cons rfl .nil, rl.hm.inst hx hd hne, h a, fun F' v r M' H' e3 h3 v3 hR => ?_, fun cls M' F' H' e3 h3 hR => hR⟩
    obtain ⟨rfl, hQ⟩ := hR
    cases v3
    exact ⟨rfl, qq F' (.ref a) (.ob a) M' H' e3 (rl.ext e3 h3) rfl hQ⟩⟩
/-- a new list that isn't changed any more -/
theorem EQ.frz (h : EQ Y e γ M fun s M1 => ∃ (q : Addr) (ds : List PyData) (M2 : MM), s = .ob q ∧ M1 = M2 ++ [(q, .lst (ds.map S.d))] ∧ Q (.d (.list ds)) M2) : EQ Y e γ M Q :=
  ⟨PE.imp h.pe fun σ H R ⟨F, r, qq, ex⟩ => ⟨F, r, fun F1 v s M1 H1 e1 r1 v1 ⟨q, ds, M2, hs, hM, k⟩ => by
    subst hs hM
    cases v1
    obtain ⟨vs, g1, g2, g3, g4⟩ := r1.hm.frz
    exact qq _ (.ref q) (.d (.list ds)) M2 H1 (e1.trans g3) (r1.ext g3 g4) (.lst (.inl (.inl upd_same)) (dps_mono g3 _ _ g2)) k, ex⟩⟩
theorem q_extend (ho : EV Y o γ M (.ob q) M1) (hk1 : ∃ (k1 : Nat) (ys : List S), M1[k1]? = some (q, MO.lst ys))
    (he : EQ Y e γ M1 fun s M2 => ∃ (q2 : Addr) (k k2 : Nat) (xs zs : List S), s = .ob q2 ∧ M2[k]? = some (q, .lst xs) ∧ M2[k2]? = some (q2, .lst zs) ∧ xs.length + zs.length ≤ 100000 ∧ Q (.d .none) (M2.set k (q, .lst (xs ++ zs))))
    (hbase : attributeBase o "extend" Y.X.env (eval o Y.X.env) = eval o Y.X.env := by rfl)
    (hfew : ((backTo pos (starEach [e] Y.X.env)).all (fun x => !x.1) && (backToKw pos (keywordEach [] Y.X.env)).all (fun x => x.1.isSome) && decide ([e].length + ([] : List Keyword).length + (if ([] : List Keyword).isEmpty then 0 else 1) < 30)) = true := by rfl)
    (hline : (apos.endLine == pos.line) = true := by rfl) (hs : starEach [e] Y.X.env = (false, eval e Y.X.env) :: starEach [] Y.X.env := by rfl) (hplain : (backTo pos (starEach [] Y.X.env)).any (·.1) = false := by rfl) :
    EQ Y (.Call (.Attribute o "extend" apos) [e] [] pos) γ M Q :=
  ⟨PE.imp (pe_bm PySem.F.plainAttrs_list PySem.F.slot_list_extend PySem.F.type_list_extend mt_extend ho.pe (pa_cons he.pe pa_nil hs) hbase hfew hline hs hplain) fun σ H R ⟨F, r, qq, ex⟩ => ⟨F, r, fun F1 v H1 e1 r1 v1 => by
    cases v1
    obtain ⟨k1, ys, hk1⟩ := hk1
    obtain ⟨_, ws, g1, _⟩ := r1.hm.mo _ _ (List.mem_of_getElem? hk1)
    refine ⟨Or.inl ⟨rfl, ws, .of g1⟩, F1, r1, fun F2 v s M2 H2 e2 r2 sv ⟨q2, k, k2, xs, zs, hs2, hk, hkz, hl, hQ⟩ => ?_, ex.mono e1⟩
    subst hs2
    cases sv
    obtain ⟨_, us, f1, f2⟩ := r2.hm.mo _ _ (List.mem_of_getElem? hk)
    obtain ⟨_, ts, f3, f4⟩ := r2.hm.mo _ _ (List.mem_of_getElem? hkz)
    refine ⟨q, q2, us, ts, rfl, rfl, f1, f3, by rw [pair_len f2, pair_len f4]; exact Nat.le_trans hl (by decide), ?_⟩
    have hM := r2.hm.setM hk (o := .lst (us ++ ts)) (m := .lst (xs ++ zs)) ⟨_, upd_same, pair_app f2 f4⟩
    exact qq F2 .non (.d .none) _ _ (e1.trans e2) ⟨hM, r2.sl⟩ Dp.non hQ, ex⟩⟩
/-- f(e, ..), the last parameters by their defaults -/
theorem q_callD {ds : List Value} {dvs : List V} {dd : List S} (G : FnOk Y.X.prog Y.X.w Y.X.K Y.X.mg Y.X.base (L2.CX Y.X.prog Y.X.w) k f fd ps (spD Y.X.K cn)) (hr : Room k Y.X.A) (hm : Y.X.mg x = some (.ref f)) (hk : PySem.W.keepIn Y.X.K (.ref f) = true) (hb : Binds Y.X.K fd ps ds) (hd : Vals dvs ds) (hdd : ∀ F, Paired (SR Y.X.K F) dvs dd)
    (tk : Takes Y.X Y.Er) (ha : EAQ Y (e :: es) γ M fun ss M1 => cn (ss ++ dd) M1 Q (fun cls M' => Y.Rx cls γ M')) (hg : Gl Y.X x := by rfl) (hdb : (x == ("__debug__" : Str)) = false := by decide)
    (he : starEach (e :: es) Y.X.env = (false, eval e Y.X.env) :: starEach es Y.X.env := by rfl) (hpl : (backTo pos (starEach es Y.X.env)).any (·.1) = false := by rfl) : EQ Y (.Call (.Name x p) (e :: es) [] pos) γ M Q :=
  ⟨PE.imp (pe_callSD G hr hg hm hk hb hd (fun σ => passAt tk σ) ha.pa hdb he hpl) fun σ H R ⟨F, rl, q, ex⟩ => ⟨F, rl, fun F1 vs ss M1 H1 e1 r1 v1 h => by
    refine ⟨F1, M1, ss ++ dd, _, _, pair_app v1 (hdd F1), r1.hm, h, fun F' v r M' H' e2 h2 v2 hR => ?_, fun cls M' F' H' e2 h2 hR => ex cls γ M' F' σ H' (e1.trans e2) (r1.ext e2 h2) hR⟩
    exact q F' v r M' H' (e1.trans e2) (r1.ext e2 h2) v2 hR, ex⟩⟩
end
end Mi

/-! Mi: in tuples. -/
namespace Mi
open PySem PySem.Spec PyProof.Rows L2
section
variable {X : Cx}
def rInT (K : PySem.W.Frag) : R2 := fun x y H Q => ∃ d ds, Dp K H x d ∧ Dp K H y (.tuple ds) ∧ SeqAt.shaped d = true ∧ SeqAt.shaped (.tuple ds) = true ∧ Q (.bl (ds.any fun z => PyData.eqv z d)) H
def rNotInT (K : PySem.W.Frag) : R2 := fun x y H Q => ∃ d ds, Dp K H x d ∧ Dp K H y (.tuple ds) ∧ SeqAt.shaped d = true ∧ SeqAt.shaped (.tuple ds) = true ∧ Q (.bl (!ds.any fun z => PyData.eqv z d)) H
theorem op_inT (hu : X.A.units + 65 < cLine) : OpR X (compareOp .In) (rInT X.K) := by
  intro pins s σ H x y v u Q I rx ry h
  obtain ⟨d, ds, hd, he, sd, se, q⟩ := h
  obtain ⟨as, r1⟩ := Dp.reads I d x v hd rx
  obtain ⟨bs, r2⟩ := Dp.reads I (.tuple ds) y u he ry
  exact SeqAt.in_tuple_reads r2 r1 (SeqAt.canLay_of_shaped se) (SeqAt.canLay_of_shaped sd) (room_in_shaped sd hu) ⟨.bl _, H, I, rfl, q⟩
theorem op_notInT (hu : X.A.units + 65 < cLine) : OpR X (compareOp .NotIn) (rNotInT X.K) := by
  intro pins s σ H x y v u Q I rx ry h
  obtain ⟨d, ds, hd, he, sd, se, q⟩ := h
  obtain ⟨as, r1⟩ := Dp.reads I d x v hd rx
  obtain ⟨bs, r2⟩ := Dp.reads I (.tuple ds) y u he ry
  exact SeqAt.notIn_tuple_reads r2 r1 (SeqAt.canLay_of_shaped se) (SeqAt.canLay_of_shaped sd) (room_in_shaped sd hu) ⟨.bl _, H, I, rfl, q⟩
end
section
variable {Y : Ct} {γ γ' : List S} {M M1 M2 M3 : MM} {s s1 s2 s3 : S} {a b c : Expr} {pos p p2 : Pos} {i n : Int}
theorem rv_inT {K : PySem.W.Frag} {d : PyData} {ds : List PyData} {z : Bool} (v1 : Vw M s1 d) (v2 : Vw M s2 (.tuple ds)) (h1 : SeqAt.shaped d = true) (h2 : SeqAt.shaped (.tuple ds) = true) (hz : ds.any (fun z => PyData.eqv z d) = z) : RV K (rInT K) s1 s2 M (.d (.bool z)) M :=
  ⟨fun F v w H Q hm r1 r2 q => ⟨d, ds, v1.ok hm r1, v2.ok hm r2, h1, h2, q F _ H (Same.refl F) hm (hz ▸ .bl _)⟩⟩
theorem rv_notInT {K : PySem.W.Frag} {d : PyData} {ds : List PyData} {z : Bool} (v1 : Vw M s1 d) (v2 : Vw M s2 (.tuple ds)) (h1 : SeqAt.shaped d = true) (h2 : SeqAt.shaped (.tuple ds) = true) (hz : ds.any (fun z => PyData.eqv z d) = z) : RV K (rNotInT K) s1 s2 M (.d (.bool (!z))) M :=
  ⟨fun F v w H Q hm r1 r2 q => ⟨d, ds, v1.ok hm r1, v2.ok hm r2, h1, h2, q F _ H (Same.refl F) hm (hz ▸ .bl _)⟩⟩
section
variable {k : Nat} (hr : Room k Y.X.A) {d : PyData} {ds : List PyData} {z : Bool} (ha : EV Y a γ M s1 M1) (hb : EV Y b γ M1 s2 M2) (v1 : Vw M2 s1 d) (h1 : SeqAt.shaped d = true)
include hr ha hb v1 h1
theorem t_inT (v2 : Vw M2 s2 (.tuple ds)) (h2 : SeqAt.shaped (.tuple ds) = true) (hz : ds.any (fun z => PyData.eqv z d) = z) (hmk : behindInMarks .In b = false := by with_unfolding_all rfl) : ET Y (.Compare a [.In] [b] pos) γ M z M2 :=
  t_bin (fun h1 h2 => pt_cmpR (op_inT (room65 hr)) h1 h2 hmk) ha hb (rv_inT v1 v2 h1 h2 hz)
theorem t_notInT (v2 : Vw M2 s2 (.tuple ds)) (h2 : SeqAt.shaped (.tuple ds) = true) (hz : ds.any (fun z => PyData.eqv z d) = z) (hmk : behindInMarks .NotIn b = false := by with_unfolding_all rfl) : ET Y (.Compare a [.NotIn] [b] pos) γ M (!z) M2 :=
  t_bin (fun h1 h2 => pt_cmpR (op_notInT (room65 hr)) h1 h2 hmk) ha hb (rv_notInT v1 v2 h1 h2 hz)
theorem e_inT (v2 : Vw M2 s2 (.tuple ds)) (h2 : SeqAt.shaped (.tuple ds) = true) (hz : ds.any (fun z => PyData.eqv z d) = z) (hmk : behindInMarks .In b = false := by with_unfolding_all rfl) : EV Y (.Compare a [.In] [b] pos) γ M (.d (.bool z)) M2 :=
  e_bin (f := fun _ _ => pure .none) (fun h1 h2 => pe_cmpR (op_inT (room65 hr)) h1 h2 hmk) ha hb (rv_inT v1 v2 h1 h2 hz)
theorem e_inD (v2 : Vw M2 s2 (.list ds)) (h2 : SeqAt.shaped (.list ds) = true) (hz : ds.any (fun z => PyData.eqv z d) = z) (hmk : behindInMarks .In b = false := by with_unfolding_all rfl) : EV Y (.Compare a [.In] [b] pos) γ M (.d (.bool z)) M2 :=
  e_bin (f := fun _ _ => pure .none) (fun h1 h2 => pe_cmpR (op_inD (room65 hr)) h1 h2 hmk) ha hb (rv_inD v1 v2 h1 h2 hz)
end
end
/-! ### enumerate; name += i; is True -/
def enumS (ds : List PyData) : List S := ds.mapIdx fun k d => S.d (.tuple [.int (k : Nat), d])
theorem enumS_at {ds : List PyData} {i : Nat} {x : S} (h : (enumS ds)[i]? = some x) : ∃ d, ds[i]? = some d ∧ x = .d (.tuple [.int (i : Nat), d]) := by
  unfold enumS at h
  rw [List.getElem?_mapIdx] at h
  cases e : ds[i]? with
  | none => rw [e] at h; cases h
  | some d => rw [e] at h; cases h; exact ⟨d, rfl, rfl⟩
theorem enumS_len (ds : List PyData) : (enumS ds).length = ds.length := by simp [enumS]
theorem walks_el {K : PySem.W.Frag} {F1 : Hp} {a : Addr} {vs : List V} {ds : List PyData} (h1 : SqL K F1 a vs) (h2 : DpAll K F1 vs ds) : Walks K (Ite K a) F1 (enumS ds) (fun _ => True) := by
  have hl : vs.length = ds.length := dps_len h2
  refine ⟨fun i H' F' M' e hm _ hi => ?_, fun i H' v H'' x F' γ' M' σ' hx e r _ y => ?_, fun i H' F' M' e hm _ hi => ?_⟩
  · rw [enumS_len] at hi
    exact ⟨vs, vs[i]'(by omega), (e.trans hm.fh).seq h1, by simp⟩
  · obtain ⟨T, x1, rfl, hT, rfl, hx1⟩ := y
    have e4 := hx1 vs ((e.trans r.hm.fh).seq h1)
    obtain ⟨d, hd, rfl⟩ := enumS_at hx
    obtain ⟨d2, hd2, dp1⟩ := dps_getV h2 e4
    rw [hd] at hd2; cases hd2
    obtain ⟨e6, h6⟩ := r.hm.newF hT (.tup [.int (i : Nat), x1])
    exact ⟨_, e6, r.ext e6 h6, .tup (.inl (.inl upd_same)) (.cons (.int _) (.cons (dp_mono (e.trans e6) _ _ dp1) .nil))⟩
  · rw [enumS_len] at hi
    exact ⟨vs, (e.trans hm.fh).seq h1, by omega⟩
section
variable {X : Cx}
theorem rel_true {x : V} {v : Value} (r : RelV x v) : (v == Value.bool true) = decide (x = .bl true) := by
  cases x with
  | non => cases r; rfl
  | bl b => cases r; cases b <;> rfl
  | int _ => obtain ⟨t, rfl⟩ := r; rfl
  | str _ => obtain ⟨t, rfl⟩ := r; rfl
  | byt _ => obtain ⟨t, rfl⟩ := r; rfl
  | flt _ => obtain ⟨t, rfl⟩ := r; rfl
  | ref _ => cases r; rfl
  | ty _ => cases r; rfl
theorem is_true_rel {M : Model} {A : Around} {E : Value → Shared → Prop} {s : Shared} {Q : Value → Shared → Prop} {x : V} {v : Value} (r : RelV x v) (h : Q (.bool (v == .bool true)) s) : wpAny M A (compareOp .Is v (.bool true)) Q E s := by
  cases x with
  | non => cases r; exact wpAny_pure h
  | bl b => cases r; exact wpAny_pure h
  | int _ => obtain ⟨t, rfl⟩ := r; exact wpAny_pure h
  | str _ => obtain ⟨t, rfl⟩ := r; exact wpAny_pure h
  | byt _ => obtain ⟨t, rfl⟩ := r; exact wpAny_pure h
  | flt _ => obtain ⟨t, rfl⟩ := r; exact wpAny_pure h
  | ref _ => cases r; exact wpAny_pure h
  | ty _ => cases r; exact wpAny_pure h
theorem pc_isT {a : Expr} {ta : TE} {j : Nat} {pos' : Pos} (ha : PE X a ta) : PC X .Is a (.Constant (.bool true) j pos') (fun σ H Q => ta σ H fun x H1 => Q (.bl (decide (x = .bl true))) H1) := by
  refine ⟨fun pins s σ H Q I h => ?_⟩
  refine thn (ha.run pins s σ H _ I h) fun v s1 ⟨x, H1, I1, r1, q1⟩ => ?_
  exact Constant_bool (is_true_rel r1 ⟨.bl _, H1, I1, by rw [rel_true r1]; rfl, q1⟩)
end
def isTru : PyData → Bool
  | .bool b => b
  | _ => false
theorem dp_tru {K : PySem.W.Frag} {F : Hp} {v : V} {d : PyData} (h : Dp K F v d) : decide (v = .bl true) = isTru d := by
  cases h with
  | bl b => cases b <;> rfl
  | _ => exact decide_eq_false (fun z => nomatch z)
section
variable {Y : Ct} {γ γ' : List S} {M M1 M2 M3 : MM} {s s1 s2 s3 : S} {a b c e : Expr} {pos p p2 tpos : Pos} {i n : Int} {elts : List Expr} {P : Po} {x : Str}
theorem i_enumL {kk : Nat} {ds : List PyData} (hg : Gl Y.X "enumerate" := by rfl) (hm : Y.X.mg "enumerate" = none) (ha : EA Y [a] γ M [.d (.list ds)] M1) (hs : starEach [a] Y.X.env = [(false, eval a Y.X.env)] := by rfl) :
    EI Y (.Tuple elts kk tpos) (.Call (.Name "enumerate" p) [a] [] pos) γ M (enumS ds) (fun _ => True) M1 :=
  ⟨_, pi_enum hg hm ha.pa hs, fun F σ H R r ex k => ⟨F, r, fun F1 vs H1 e1 r1 v1 => by
    obtain ⟨v, rfl, h1⟩ := pair_one v1
    cases h1 with
    | lst g1 g2 => exact ⟨_, _, rfl, r1.hm.fh.seq g1, k F1 H1 _ e1 r1 (walks_el g1 g2)⟩, ex⟩⟩
theorem t_isT {d : PyData} {k : Nat} (ha : EV Y a γ M (.d d) M1) : ET Y (.Compare a [.Is] [.Constant (.bool true) k p2] pos) γ M (isTru d) M1 :=
  ⟨PT.imp (pt_cmp (pc_isT ha.pe) rfl) fun σ H Q ⟨F, r, q, ex⟩ => ⟨F, r, fun F1 v H1 e1 r1 v1 => ⟨_, rfl, by rw [dp_tru v1]; exact q F1 H1 e1 r1⟩, ex⟩⟩
/-- name += e, of ints -/
theorem s_augI (j : Nat) {pos' : Pos} {m : Int} (hN : Y.X.N.Nodup) (hs : γ[j]? = some (.d (.int i))) (he : EV Y e γ M (.d (.int m)) M1) (h : P.nx (γ.set j (.d (.int (i + m)))) M1) (hi : Y.X.N[j]? = some x := by rfl) (hx : Loc Y.X.env.scope x := by first | exact Or.inl rfl | exact Or.inr rfl)
    (hf : Y.X.fn x = true ∨ Y.X.env.scope.names.lookup x = some .local := by first | exact .inl rfl | exact .inr rfl) : ST Y (.AugAssign (.Name x pos') .Add e pos) γ M P :=
  ⟨PS.imp (ps_aug hN hi hx he.pe ip_add hf) fun D σ H ⟨F, r, q, ex⟩ => by
    obtain ⟨o, h1, h2⟩ := pair_get r.sl hs
    obtain ⟨v, rfl, h3⟩ := h2.val rfl
    cases h3
    refine ⟨_, h1, F, r, fun F1 w H1 e1 r1 w1 => ?_, ex⟩
    cases w1
    refine ⟨i, m, rfl, rfl, ?_⟩
    exact q.nx _ _ F1 _ H1 e1 ⟨r1.hm, pair_set (sr_or (s := .d (.int (i + m))) (Dp.int _)) j r1.sl⟩ h⟩
end
end Mi

/-! Mi: a tuple that holds a list which may change. -/
namespace Mi
open PySem PySem.Spec PyProof.Rows L2
section
variable {Y : Ct} {γ γ' : List S} {M M1 M2 M3 : MM} {s s1 s2 s3 : S} {ss : List S} {a b c : Expr} {es : List Expr} {pos p p2 : Pos} {i n : Int}
theorem n_tup {k} (h : EA Y es γ M ss M1) (hn : Nat.ble ss.length 100000 = true := by rfl) : EN Y (.Tuple es k pos) γ M (.tup ss) M1 :=
  ⟨PE.imp (pe_tup h.pa) fun σ H Q ⟨F, r, q, ex⟩ => ⟨F, r, fun F1 vs H1 e1 r1 v1 => ⟨by rw [pair_len v1]; exact small hn, fun p hp => by
    have h2 := r1.hm.newM hp (o := .tup vs) (m := .tup ss) ⟨vs, upd_same, v1⟩
    exact q F1 p _ e1 ⟨h2, r1.sl⟩⟩, ex⟩⟩
theorem rv_ixU {K : PySem.W.Frag} {k : Nat} {q : Addr} {xs : List S} (hk : M[k]? = some (q, .tup xs)) (h : atI xs i = some s) : RV K (rIx K) (.ob q) (.d (.int i)) M s M :=
  ⟨fun F v w H Q hm h1 h2 qq => by
    cases h2
    cases h1
    obtain ⟨_, vs, g1, g2⟩ := hm.mo _ _ (List.mem_of_getElem? hk)
    obtain ⟨v', j, e1, e2, e3⟩ := atI_of (pair_len g2) h fun j hj => let ⟨v, hv, _⟩ := pair_get g2 hj; ⟨v, hv⟩
    obtain ⟨v'', f1, f2⟩ := pair_get g2 e3
    rw [e2] at f1; cases f1
    exact .inr (.inl ⟨_, _, i, v', rfl, rfl, .inl (.inl g1), e1, qq F _ H (Same.refl F) hm f2⟩)⟩
theorem e_ixU {k : Nat} {q : Addr} {xs : List S} (ha : EV Y a γ M (.ob q) M1) (hb : EV Y b γ M1 (.d (.int i)) M2) (hk : M2[k]? = some (q, .tup xs)) (h : atI xs i = some s) (hs : PlainIx b := by exact fun _ _ => rfl) : EV Y (.Subscript a b pos) γ M s M2 :=
  e_bin (f := fun _ _ => pure .none) (fun h1 h2 => pe_ix ix_seq h1 h2 hs) ha hb (rv_ixU hk h)
end
end Mi

/-! Mi: dicts with text keys (the module's, and new ones); any changing list is left as it is; calls with defaults. -/
namespace Mi
open PySem PySem.Spec PyProof.Rows L2
section
variable {Y : Ct} {γ γ' : List S} {M M1 M2 M3 : MM} {s s1 s2 s3 : S} {ss : List S} {a b c o e : Expr} {es : List Expr} {pos p p2 tp : Pos} {i n : Int} {P : Po} {Q : S → MM → Prop} {x : Str}
/-! ### the module's -/
theorem rv_kd {K : PySem.W.Frag} {w : World} {C : Addr} {esD : Array DictEntry} {nD : Nat} {u : Value} {v : V} {d : PyData} {z : Str} (D : KDict K w C esD nD) (hz : PySem.W.nsIn K C z = some (some u)) (r : RelV v u) (hv : ∀ F, Dp K F v d) : RV K (rIxD K w) (.ob C) (.d (.str z)) M (.d d) M :=
  ⟨fun F v1 w1 H Q hm h1 h2 q => by
    cases h2
    cases h1
    exact ⟨C, z, v, rfl, rfl, ⟨esD, nD, u, D.at_, D.lit, hz, r⟩, q F v H (Same.refl F) hm (hv F)⟩⟩
/-- D[text], D a dict of the module -/
theorem e_ixKD {C : Addr} {esD : Array DictEntry} {nD : Nat} {u : Value} {v : V} {d : PyData} {z : Str} (D : KDict Y.X.K Y.X.w C esD nD) (hz : PySem.W.nsIn Y.X.K C z = some (some u)) (r : RelV v u) (hv : ∀ F, Dp Y.X.K F v d)
    (ho : EV Y o γ M (.ob C) M1) (ha : EV Y a γ M1 (.d (.str z)) M2) (hs : PlainIx a := by exact fun _ _ => rfl) : EV Y (.Subscript o a pos) γ M (.d d) M2 :=
  e_bin (f := fun _ _ => pure .none) (fun h1 h2 => pe_ix ix_kdict h1 h2 hs) ho ha (rv_kd D hz r hv)
theorem rv_kdIn {K : PySem.W.Frag} {C : Addr} {z : Str} {r : Option Value} (hz : PySem.W.nsIn K C z = some r) : RV K (fun x y H Q => ∃ (z : Str) (r : Option Value), x = .str z ∧ y = .ref C ∧ PySem.W.nsIn K C z = some r ∧ Q (.bl r.isSome) H) (.d (.str z)) (.ob C) M (.d (.bool r.isSome)) M :=
  ⟨fun F v1 w1 H Q hm h1 h2 q => by
    cases h1
    cases h2
    exact ⟨z, r, rfl, rfl, hz, q F _ H (Same.refl F) hm (.bl _)⟩⟩
theorem rv_kdNotIn {K : PySem.W.Frag} {C : Addr} {z : Str} {r : Option Value} (hz : PySem.W.nsIn K C z = some r) : RV K (fun x y H Q => ∃ (z : Str) (r : Option Value), x = .str z ∧ y = .ref C ∧ PySem.W.nsIn K C z = some r ∧ Q (.bl (!r.isSome)) H) (.d (.str z)) (.ob C) M (.d (.bool (!r.isSome))) M :=
  ⟨fun F v1 w1 H Q hm h1 h2 q => by
    cases h1
    cases h2
    exact ⟨z, r, rfl, rfl, hz, q F _ H (Same.refl F) hm (.bl _)⟩⟩
section
variable {C : Addr} {esD : Array DictEntry} {nD : Nat} {z : Str} {r : Option Value} (D : KDict Y.X.K Y.X.w C esD nD) (hz : PySem.W.nsIn Y.X.K C z = some r) (ha : EV Y a γ M (.d (.str z)) M1) (hb : EV Y b γ M1 (.ob C) M2)
include D hz ha hb
theorem t_inKD (hmk : behindInMarks .In b = false := by with_unfolding_all rfl) : ET Y (.Compare a [.In] [b] pos) γ M r.isSome M2 :=
  t_bin (fun h1 h2 => pt_cmpR (op_in_kd D) h1 h2 hmk) ha hb (rv_kdIn hz)
theorem t_notInKD (hmk : behindInMarks .NotIn b = false := by with_unfolding_all rfl) : ET Y (.Compare a [.NotIn] [b] pos) γ M (!r.isSome) M2 :=
  t_bin (fun h1 h2 => pt_cmpR (op_notIn_kd D) h1 h2 hmk) ha hb (rv_kdNotIn hz)
end
/-! ### new ones -/
def valS (kvs : List (Key × S)) (k : Key) : Option S := (kvs.find? fun kv => decide (kv.1 = k)).map (·.2)
abbrev KR (K : PySem.W.Frag) (F : Hp) : List (Key × V) → List (Key × S) → Prop := Paired (fun (p : Key × V) (q : Key × S) => p.1 = q.1 ∧ SR K F p.2 q.2)
theorem kr_val {K : PySem.W.Frag} {F : Hp} {k : Key} : ∀ {vs : List (Key × V)} {kvs : List (Key × S)}, KR K F vs kvs → (∀ s, valS kvs k = some s → ∃ v, valV vs k = some v ∧ SR K F v s) ∧ (valS kvs k = none → valV vs k = none)
  | _, _, .nil => ⟨fun s h => (nomatch h), fun _ => rfl⟩
  | (a, v) :: vs, (b, x) :: kvs, .cons ⟨h1, h2⟩ t => by
    cases (show a = b from h1)
    obtain ⟨g1, g2⟩ := kr_val (k := k) t
    by_cases e : a = k
    · refine ⟨fun s h => ⟨v, valV_pos e, ?_⟩, fun h => ?_⟩
      · have e2 : valS ((a, x) :: kvs) k = some x := by simp [valS, List.find?_cons, e]
        rw [e2] at h; cases h; exact h2
      · have e2 : valS ((a, x) :: kvs) k = some x := by simp [valS, List.find?_cons, e]
        rw [e2] at h; cases h
    · have e2 : valS ((a, x) :: kvs) k = valS kvs k := by simp [valS, List.find?_cons, e]
      have e3 : valV ((a, v) :: vs) k = valV vs k := valV_neg e
      rw [e2, e3]
      exact ⟨g1, g2⟩
theorem kr_keys {K : PySem.W.Frag} {F : Hp} : ∀ {vs : List (Key × V)} {kvs : List (Key × S)}, KR K F vs kvs → vs.map (·.1) = kvs.map (·.1)
  | _, _, .nil => rfl
  | _, _, .cons h t => by rw [List.map_cons, List.map_cons, kr_keys t, h.1]
theorem valV_none {k : Key} : ∀ {vs : List (Key × V)}, k ∉ vs.map (·.1) → valV vs k = none
  | [], _ => rfl
  | p :: r, h => by
    rw [List.map_cons, List.mem_cons, not_or] at h
    rw [valV_neg (fun z => h.1 z.symm)]
    exact valV_none h.2
theorem merge_nd : ∀ (more kvs : List (Key × V)), ((kvs ++ more).map (·.1)).Nodup → mergeK kvs more = kvs ++ more
  | [], kvs, _ => by rw [List.append_nil]; rfl
  | p :: r, kvs, h => by
    have h1 : p.1 ∉ kvs.map (·.1) := fun hm => by
      rw [List.map_append, List.map_cons] at h
      exact (List.nodup_append.mp h).2.2 _ hm _ List.mem_cons_self rfl
    show mergeK (putK kvs p.1 p.2) r = _
    rw [putK_new p.2 (valV_none h1)]
    have e : kvs ++ [(p.1, p.2)] ++ r = kvs ++ p :: r := by rw [List.append_assoc]; rfl
    rw [merge_nd r _ (by rw [e]; exact h), e]
/-- the pairs of a display, keys written texts -/
structure ED (Y : Ct) (pos : Pos) (keys : List (Option Expr)) (values : List Expr) (trs : List (TE × TE)) (γ : List S) (M : MM) (kvs : List (Str × S)) (M' : MM) : Prop where
  pp : PPs Y.X pos keys values trs
  run : ∀ F σ H (Q : List (V × V) → Hp → Prop), Rl Y.X.K γ M F σ H → ExOk Y F →
    (∀ F' ps H', Same F F' → Rl Y.X.K γ M' F' σ H' → Paired (fun (p : V × V) (q : Str × S) => p.1 = .str q.1 ∧ SR Y.X.K F' p.2 q.2) ps kvs → Q ps H') → tPairs trs σ H Q
theorem ed_nil : ED Y pos [] [] [] γ M [] M := ⟨pps_nil, fun F σ H Q r _ q => q F [] H (Same.refl F) r .nil⟩
theorem ed_cons {k : Str} {j : Nat} {v : Expr} {ks : List (Option Expr)} {vs : List Expr} {trs : List (TE × TE)} {kvs : List (Str × S)} (h : EV Y v γ M s M1) (t : ED Y pos ks vs trs γ M1 kvs M2) :
    ED Y pos (some (.Constant (.str k) j p) :: ks) (v :: vs) ((tC (.str k), uE Y.X v) :: trs) γ M ((k, s) :: kvs) M2 :=
  ⟨pps_cons pe_str uE_ok t.pp, fun F σ H Q r ex q => ⟨_, h.pe, F, r, fun F1 y H1 e1 r1 v1 =>
    t.run F1 σ H1 _ r1 (ex.mono e1) fun F2 ps H2 e2 r2 v2 => q F2 _ H2 (e1.trans e2) r2 (.cons ⟨rfl, v1.mono e2⟩ v2), ex⟩⟩
def keyd (kvs : List (Str × S)) : List (Key × S) := kvs.map fun q => (.inr q.1, q.2)
theorem keyd_of {K : PySem.W.Frag} {F : Hp} : ∀ {ps : List (V × V)} {kvs : List (Str × S)}, Paired (fun (p : V × V) (q : Str × S) => p.1 = .str q.1 ∧ SR K F p.2 q.2) ps kvs →
    ∃ kv : List (Key × V), ps = kv.map (fun kv => (kV kv.1, kv.2)) ∧ KR K F kv (keyd kvs)
  | _, _, .nil => ⟨[], rfl, .nil⟩
  | (a1, a2) :: as, (b1, b2) :: bs, .cons ⟨h1, h2⟩ t => by
    obtain ⟨kv, i1, i2⟩ := keyd_of t
    cases (show a1 = V.str b1 from h1)
    exact ⟨(.inr b1, a2) :: kv, by rw [i1]; rfl, .cons ⟨rfl, h2⟩ i2⟩
/-- {text: e, ..} -/
theorem n_disp {keys : List (Option Expr)} {values : List Expr} {trs : List (TE × TE)} {kvs : List (Str × S)} (h : ∀ q, ED Y pos keys values trs γ (M ++ [(q, .dct [])]) kvs (M ++ [(q, .dct [])])) (hall : keys.all (·.isSome) = true := by rfl) (hl : keys.length = values.length := by rfl) (h0 : keys ≠ [] := by exact fun z => nomatch z)
    (h15 : Nat.ble keys.length 15 = true := by rfl) (h16 : Nat.ble kvs.length 15 = true := by rfl) (hnd : (kvs.map fun q => (.inr q.1 : Key)).Nodup := by decide +kernel) : EN Y (.Dict keys values pos) γ M (.dct (keyd kvs)) M :=
  ⟨PE.imp (pe_disp (h 0).pp hall hl h0 (Nat.le_of_ble_eq_true h15)) fun σ H Q ⟨F, r, qq, ex⟩ => by
    intro p hp
    have h3 := r.hm.newM hp (o := .dK []) (m := .dct []) ⟨[], upd_same, .nil⟩
    refine (h p).run F σ _ _ ⟨h3, r.sl⟩ ex fun F2 ps H2 e2 r2 v2 => ?_
    have hk : (M ++ [(p, MO.dct [])])[M.length]? = some (p, .dct []) := by simp
    obtain ⟨_, vs0, k1, k2⟩ := r2.hm.mo _ _ (List.mem_of_getElem? hk)
    cases k2
    obtain ⟨kv, w1, w2⟩ := keyd_of v2
    have hlen : kv.length = kvs.length := by
      have e1 := pair_len w2
      rw [show (keyd kvs).length = kvs.length from List.length_map _] at e1
      exact e1
    have hm : mergeK [] kv = kv := by
      rw [merge_nd kv [] ?_]
      · rfl
      · rw [List.nil_append, kr_keys w2]
        show ((kvs.map fun q => ((.inr q.1 : Key), q.2)).map (·.1)).Nodup
        rw [List.map_map]
        exact hnd
    refine ⟨k1, kv, w1, by rw [hlen]; exact Nat.le_of_ble_eq_true h16, ?_⟩
    rw [hm]
    have hM := r2.hm.setM hk (o := .dK kv) (m := .dct (keyd kvs)) ⟨kv, upd_same, w2⟩
    rw [show (M ++ [(p, MO.dct [])]).set M.length (p, MO.dct (keyd kvs)) = M ++ [(p, MO.dct (keyd kvs))] by simp] at hM
    exact qq F2 _ _ e2 ⟨hM, r2.sl⟩⟩
section
variable {k kk : Nat} {q : Addr} {kvs : List (Key × S)} {z : Str}
/-- d[text] -/
theorem e_dget (hr : Room kk Y.X.A) (ho : EV Y o γ M (.ob q) M1) (ha : EV Y a γ M1 (.d (.str z)) M2) (hk : M2[k]? = some (q, .dct kvs)) (hz : valS kvs (.inr z) = some s) (hs : NoSl a := by exact fun _ _ => rfl) : EV Y (.Subscript o a pos) γ M s M2 :=
  ⟨PE.imp (pe_dget (by have := hr.un; omega) ho.pe ha.pe hs) fun σ H Q ⟨F, r, qq, ex⟩ => ⟨F, r, fun F1 v1 H1 e1 r1 sv1 => ⟨F1, r1, fun F2 v2 H2 e2 r2 sv2 => by
    cases sv1
    cases sv2
    obtain ⟨_, vs, g1, g2⟩ := r2.hm.mo _ _ (List.mem_of_getElem? hk)
    obtain ⟨v, g3, g4⟩ := (kr_val g2).1 s hz
    exact ⟨q, v, rfl, by rw [← g3]; exact DGet.k (k := .inr z) g1, qq F2 v H2 (e1.trans e2) r2 g4⟩, ex.mono e1⟩, ex⟩⟩
/-- text in d -/
theorem t_din (hr : Room kk Y.X.A) (ha : EV Y a γ M (.d (.str z)) M1) (ho : EV Y o γ M1 (.ob q) M2) (hk : M2[k]? = some (q, .dct kvs)) (hmk : behindInMarks .In o = false := by with_unfolding_all rfl) : ET Y (.Compare a [.In] [o] pos) γ M (valS kvs (.inr z)).isSome M2 :=
  ⟨PT.imp (pt_cmp (pc_din (by have := hr.un; omega) ha.pe ho.pe) hmk) fun σ H Q ⟨F, r, qq, ex⟩ => ⟨F, r, fun F1 v1 H1 e1 r1 sv1 => ⟨F1, r1, fun F2 v2 H2 e2 r2 sv2 => by
    cases sv1
    cases sv2
    obtain ⟨_, vs, g1, g2⟩ := r2.hm.mo _ _ (List.mem_of_getElem? hk)
    refine ⟨q, _, rfl, DGet.k (k := .inr z) g1, _, rfl, ?_⟩
    have e : (valV vs (.inr z)).isSome = (valS kvs (.inr z)).isSome := by
      obtain ⟨k1, k2⟩ := kr_val (k := .inr z) g2
      cases h : valS kvs (.inr z) with
      | none => rw [k2 h] <;> rfl
      | some s => obtain ⟨v, h1, _⟩ := k1 s h; rw [h1] <;> rfl
    rw [e]
    exact qq F2 H2 (e1.trans e2) r2, ex.mono e1⟩, ex⟩⟩
/-- d[text] = e, a new key -/
theorem s_dput (hr : Room kk Y.X.A) (he : EV Y e γ M s M1) (ho : EV Y o γ M1 (.ob q) M2) (ha : EV Y a γ M2 (.d (.str z)) M3) (hk : M3[k]? = some (q, .dct kvs)) (hz : valS kvs (.inr z) = none) (hl : Nat.ble kvs.length 100000 = true) (kk : P.nx γ (M3.set k (q, .dct (kvs ++ [(.inr z, s)]))))
    (hs : swapsWith e (some (.Subscript o a tp)) pos.line Y.X.env = pure false := by rfl) : ST Y (.Assign [.Subscript o a tp] e pos) γ M P :=
  ⟨PS.imp (ps_dput (by have := hr.un; omega) ho.pe ha.pe he.pe hs) fun D σ H ⟨F, r, qq, ex⟩ => ⟨F, r, fun F1 v H1 e1 r1 v1 => ⟨F1, r1, fun F2 v2 H2 e2 r2 sv2 => ⟨F2, r2, fun F3 v3 H3 e3 r3 sv3 => by
    cases sv2
    cases sv3
    obtain ⟨_, vs, g1, g2⟩ := r3.hm.mo _ _ (List.mem_of_getElem? hk)
    refine ⟨q, _, rfl, DPut.k (k := .inr z) (v := v) g1 (by rw [pair_len g2]; exact Nat.lt_of_le_of_lt (Nat.le_of_ble_eq_true hl) (by decide)), ?_⟩
    rw [putK_new v ((kr_val g2).2 hz)]
    have hM := r3.hm.setM hk (o := .dK (vs ++ [(.inr z, v)])) (m := .dct (kvs ++ [(.inr z, s)])) ⟨_, upd_same, pair_app g2 (.cons ⟨rfl, (v1.mono e2).mono e3⟩ .nil)⟩
    exact qq.nx γ _ F3 σ _ ((e1.trans e2).trans e3) ⟨hM, r3.sl⟩ kk, (ex.mono e1).mono e2⟩, ex.mono e1⟩, ex⟩⟩
end
/-! ### any changing list changes no more -/
theorem HM.perm {K : PySem.W.Frag} {F H : Hp} {M M' : MM} (h : HM K F M H) (p : M.Perm M') : HM K F M' H := ⟨h.fh, fun a o z => h.mo a o (p.mem_iff.mpr z), (p.map _).nodup_iff.mp h.nd⟩
theorem perm_out {α : Type} {x : α} : ∀ {l : List α} {k : Nat}, l[k]? = some x → l.Perm (l.eraseIdx k ++ [x])
  | [], _, h => by simp at h
  | y :: ys, 0, h => by
    simp at h
    subst h
    exact (List.perm_append_comm (l₁ := [y]) (l₂ := ys))
  | y :: ys, k + 1, h => by
    simp at h
    exact (perm_out h).cons y
theorem EQ.frzAt (h : EQ Y e γ M fun s M1 => ∃ (q : Addr) (ds : List PyData) (k : Nat), s = .ob q ∧ M1[k]? = some (q, .lst (ds.map S.d)) ∧ Q (.d (.list ds)) (M1.eraseIdx k)) : EQ Y e γ M Q :=
  ⟨PE.imp h.pe fun σ H R ⟨F, r, qq, ex⟩ => ⟨F, r, fun F1 v s M1 H1 e1 r1 v1 ⟨q, ds, k, hs, hk, kk⟩ => by
    subst hs
    cases v1
    obtain ⟨vs, g1, g2, g3, g4⟩ := (r1.hm.perm (perm_out hk)).frz
    exact qq _ (.ref q) (.d (.list ds)) _ H1 (e1.trans g3) (r1.ext g3 g4) (.lst (.inl (.inl upd_same)) (dps_mono g3 _ _ g2)) kk, ex⟩⟩
theorem b_frzAt (i k : Nat) {q : Addr} {ds : List PyData} {sts : List Stmt} (hi : γ[i]? = some (.ob q)) (hk : M[k]? = some (q, .lst (ds.map S.d))) (h : BL Y sts (γ.set i (.d (.list ds))) (M.eraseIdx k) P) : BL Y sts γ M P :=
  ⟨PSs.imp h.ps fun D σ H ⟨F, r, qq, ex⟩ => by
    have r' : Rl Y.X.K γ (M.eraseIdx k ++ [(q, .lst (ds.map S.d))]) F σ H := ⟨r.hm.perm (perm_out hk), r.sl⟩
    obtain ⟨vs, g1, g2, g3, g4⟩ := r'.hm.frz
    obtain ⟨o, h1, h2⟩ := pair_get r.sl hi
    obtain ⟨v, rfl, h3⟩ := h2.val rfl
    cases h3
    have r2 := r'.ext g3 g4
    have hv : SR Y.X.K (upd F q (.lst vs)) (.ref q) (.d (.list ds)) := .lst (.inl (.inl upd_same)) (dps_mono g3 _ _ g2)
    have r3 := pair_set (sr_or hv) i r2.sl
    rw [set_at h1] at r3
    exact ⟨_, ⟨r2.hm, r3⟩, qq.mono g3, ex.mono g3⟩⟩
/-- a tuple of items that may change -/
theorem q_tupM {kk} (h : EAQ Y es γ M fun ss M1 => Nat.ble ss.length 100000 = true ∧ ∀ q, Q (.ob q) (M1 ++ [(q, .tup ss)])) : EQ Y (.Tuple es kk pos) γ M Q :=
  ⟨PE.imp (pe_tup h.pa) fun σ H R ⟨F, r, q, ex⟩ => ⟨F, r, fun F1 vs ss M1 H1 e1 r1 v1 ⟨hn, hQ⟩ => ⟨by rw [pair_len v1]; exact small hn, fun p hp => by
    have h2 := r1.hm.newM hp (o := .tup vs) (m := .tup ss) ⟨vs, upd_same, v1⟩
    exact q F1 _ (.ob p) _ _ e1 ⟨h2, r1.sl⟩ rfl (hQ p)⟩, ex⟩⟩
/-! ### a call, the last parameters by their defaults -/
theorem e_callD {k : Nat} {f : Addr} {fd : FuncData} {ps : List Str} {cn : Con} {ds : List Value} {dvs : List V} {dd : List S} (G : FnOk Y.X.prog Y.X.w Y.X.K Y.X.mg Y.X.base (L2.CX Y.X.prog Y.X.w) k f fd ps (spD Y.X.K cn)) (hr : Room k Y.X.A) (hm : Y.X.mg x = some (.ref f)) (hk : PySem.W.keepIn Y.X.K (.ref f) = true) (hb : Binds Y.X.K fd ps ds) (hd : Vals dvs ds) (hdd : ∀ F, Paired (SR Y.X.K F) dvs dd)
    (tk : Takes Y.X Y.Er) (ha : EA Y (e :: es) γ M ss M1) (h : cn (ss ++ dd) M1 (fun r M' => r = s ∧ M' = M2) (fun cls M' => Y.Rx cls γ M')) (hg : Gl Y.X x := by rfl) (hdb : (x == ("__debug__" : Str)) = false := by decide)
    (he : starEach (e :: es) Y.X.env = (false, eval e Y.X.env) :: starEach es Y.X.env := by rfl) (hpl : (backTo pos (starEach es Y.X.env)).any (·.1) = false := by rfl) : EV Y (.Call (.Name x p) (e :: es) [] pos) γ M s M2 :=
  ⟨PE.imp (pe_callSD G hr hg hm hk hb hd (fun σ => passAt tk σ) ha.pa hdb he hpl) fun σ H Q ⟨F, rl, q, ex⟩ => ⟨F, rl, fun F1 vs H1 e1 r1 v1 => by
    refine ⟨F1, M1, ss ++ dd, _, _, pair_app v1 (hdd F1), r1.hm, h, fun F' v r M' H' e2 h2 v2 hR => ?_, fun cls M' F' H' e2 h2 hR => ex cls γ M' F' σ H' (e1.trans e2) (r1.ext e2 h2) hR⟩
    obtain ⟨rfl, rfl⟩ := hR
    exact q F' v H' (e1.trans e2) (r1.ext e2 h2) v2, ex⟩⟩
end
/-! ### a def with defaults -/
theorem FunD.okD {P : Program} {w : World} {K : PySem.W.Frag} {mg : Str → Option Value} {base : Heap} {x qual : Str} {params : Arguments} {body : List Stmt} {scope : Scope} {dvs : List V} {kws : List (Str × V)} {f : Addr} {fd : FuncData} {N ps : List Str} {k : Nat} {c : Con} (Fn : FunD K x qual params body scope dvs kws f fd) (Sc : FnScope N ps scope) (len : ∀ ss M R Rx, c ss M R Rx → ss.length = ps.length)
    (hbody : ∀ (cdv : Value) (A : Around) (outer : List Env) (s : Shared) (H : Hp) (E : XK) (ss : List S) (M : MM) (R : S → MM → Prop) (Rx : Value → MM → Prop), c ss M R Rx → Room k (A.deeper (envOfC qual scope s.heap.objs.size f cdv)) →
      Takes (cxOf (L2.CX P w) P w K mg base N qual scope f cdv A outer s H E) (fun cls d _ H => E cls d H) →
      BL ⟨cxOf (L2.CX P w) P w K mg base N qual scope f cdv A outer s H E, fun cls d _ H => E cls d H, fun cls _ M => Rx cls M⟩ body (ss ++ List.replicate (N.length - ss.length) .no) M
        { nx := fun _ M' => R (.d .none) M', rt := R, bk := fun _ _ => False, ct := fun _ _ => False }) : FnOk P w K mg base (L2.CX P w) (k + 1) f fd ps (spD K c) := by
  refine FunD.ok Fn Sc (fun vs H Q E h => ?_) (fun cdv A outer s H vs Q E hr h => ?_)
  · obtain ⟨F, M, ss, R, Rx, h1, h2, h3, h4, h5⟩ := h
    exact (pair_len h1).trans (len _ _ _ _ h3)
  · obtain ⟨F, M, ss, R, Rx, h1, h2, h3, h4, h5⟩ := h
    have hb := hbody cdv A outer s H E ss M R Rx h3 hr (takes_of rfl rfl rfl rfl)
    refine ⟨_, hb.ps, F, ⟨h2, start_ok h1⟩, ⟨fun γ' M' F' σ' H' e r z => ?_, fun s' M' F' v H' e hm sr z => ?_, fun _ _ _ _ _ _ _ z => z.elim, fun _ _ _ _ _ _ _ z => z.elim⟩, fun cls γ' M' F' σ' H' e r z => ?_⟩
    · exact h4 F' .non (.d .none) M' H' e r.hm Dp.non z
    · exact h4 F' v s' M' H' e hm sr z
    · exact h5 cls M' F' H' e r.hm z
/-- one default, a whole number -/
theorem dfl_int {K : PySem.W.Frag} {a : Addr} {od : Option Addr} {i : Int} {tk : Tok} {nn : Nat} {sl : Array (Option Value)} (h : K.lookup a = some ⟨.type "tuple", od, .seq #[.int i tk] nn, sl⟩) : DflV K (.ref a) [.int i] :=
  .inr ⟨fun z => (nomatch z), a, _, [.int i tk], nn, rfl, h, rfl, .cons ⟨tk, rfl⟩ .nil⟩
theorem dd_int {K : PySem.W.Frag} {i : Int} : ∀ F, Paired (SR K F) [V.int i] [S.d (.int i)] := fun F => .cons (Dp.int i) .nil
end Mi

/-! Mi: zip of two lists, either of which may change later. -/
namespace Mi
open PySem PySem.Spec PyProof.Rows L2 RZ
theorem walks_zv {K : PySem.W.Frag} {F1 : Hp} {a b : Addr} {s1 s2 : S} {ds es : List PyData} (k1 : SR K F1 (.ref a) s1) (k2 : SR K F1 (.ref b) s2) : Walks K (Itz K a b) F1 (zipS ds es) (fun M' => VL M' s1 (ds.map S.d) ∧ VL M' s2 (es.map S.d)) := by
  refine ⟨fun i H' F' M' e hm ⟨v1, v2⟩ hi => ?_, fun i H' v H'' x F' γ' M' σ' hx e r ⟨v1, v2⟩ y => ?_, fun i H' F' M' e hm ⟨v1, v2⟩ hi => ?_⟩
  · obtain ⟨_, vs, e1, h1, h2⟩ := v1.ok hm (k1.mono e)
    obtain ⟨_, ws, e2, g1, g2⟩ := v2.ok hm (k2.mono e)
    cases e1
    cases e2
    have hl := dps_len (all_d h2)
    have gl := dps_len (all_d g2)
    rw [zipS_len] at hi
    exact ⟨vs, ws, vs[i]'(by omega), ws[i]'(by omega), h1, g1, by simp, by simp⟩
  · obtain ⟨_, vs, e1, h1, h2⟩ := v1.ok r.hm (k1.mono e)
    obtain ⟨_, ws, e2, g1, g2⟩ := v2.ok r.hm (k2.mono e)
    cases e1
    cases e2
    obtain ⟨T, x1, y1, rfl, hT, rfl, hx1, hy1⟩ := y
    have e4 := hx1 vs h1
    have e5 := hy1 ws g1
    obtain ⟨d, e', hd, he, rfl⟩ := zipS_at hx
    obtain ⟨d2, hd2, dp1⟩ := dps_getV (all_d h2) e4
    obtain ⟨d3, hd3, dp2⟩ := dps_getV (all_d g2) e5
    rw [hd] at hd2; cases hd2
    rw [he] at hd3; cases hd3
    obtain ⟨e6, h6⟩ := r.hm.newF hT (.tup [x1, y1])
    exact ⟨_, e6, r.ext e6 h6, .tup (.inl (.inl upd_same)) (.cons (dp_mono e6 _ _ dp1) (.cons (dp_mono e6 _ _ dp2) .nil))⟩
  · obtain ⟨_, vs, e1, h1, h2⟩ := v1.ok hm (k1.mono e)
    obtain ⟨_, ws, e2, g1, g2⟩ := v2.ok hm (k2.mono e)
    cases e1
    cases e2
    have hl := dps_len (all_d h2)
    have gl := dps_len (all_d g2)
    rw [zipS_len] at hi
    exact ⟨vs, ws, h1, g1, by omega⟩
section
variable {Y : Ct} {γ : List S} {M M1 : MM} {s1 s2 : S} {a b : Expr} {pos p tpos : Pos} {elts : List Expr}
theorem i_zipV {kk : Nat} {ds es : List PyData} (hg : Gl Y.X "zip" := by rfl) (hm : Y.X.mg "zip" = none) (ha : EA Y [a, b] γ M [s1, s2] M1) (v1 : VL M1 s1 (ds.map S.d)) (v2 : VL M1 s2 (es.map S.d))
    (hs : starEach [a, b] Y.X.env = (false, eval a Y.X.env) :: starEach [b] Y.X.env := by rfl) (hpl : (backTo pos (starEach [b] Y.X.env)).any (·.1) = false := by rfl) :
    EI Y (.Tuple elts kk tpos) (.Call (.Name "zip" p) [a, b] [] pos) γ M (zipS ds es) (fun M' => VL M' s1 (ds.map S.d) ∧ VL M' s2 (es.map S.d)) M1 :=
  ⟨_, pi_zipA hg hm ha.pa hs hpl, fun F σ H R r ex k => ⟨F, r, fun F1 vs H1 e1 r1 w1 => by
    obtain ⟨v, w, rfl, h1, h2⟩ := pair_two w1
    obtain ⟨x, vs, rfl, g1, g2⟩ := v1.ok r1.hm h1
    obtain ⟨y, ws, rfl, g3, g4⟩ := v2.ok r1.hm h2
    exact ⟨_, _, _, _, rfl, .inl ⟨g1, g3, k F1 H1 _ e1 r1 (walks_zv h1 h2)⟩⟩, ex⟩⟩
end
section
variable {Y : Ct} {γ γ' : List S} {M : MM} {pos : Pos}
/-- a, b, .. = a tuple that holds what may change -/
theorem g_tupU {k kk : Nat} {es : List Expr} {q : Addr} {xs : List S} {n : Nat} (hk : M[kk]? = some (q, .tup xs)) (hc : Y.X.calm = true) (h : GTs Y es γ xs M γ') (hl : xs.length = n := by rfl) (hn : (assignEach es Y.X.env).length = n := by rfl) (hst : (assignEach es Y.X.env).findIdx? (·.1) = none := by rfl) :
    GT Y (.Tuple es k pos) γ (.ob q) M γ' := by
  obtain ⟨g, p, qq⟩ := h.ex
  refine ⟨_, pg_tup hc p hn hst, fun F σ H v Q r h q' => ?_⟩
  cases h
  obtain ⟨_, vs, h1, h2⟩ := r.hm.mo _ _ (List.mem_of_getElem? hk)
  exact ⟨_, _, rfl, .inl (.inl h1), (pair_len h2).trans hl, qq F σ H _ Q r h2 q'⟩
/-- tuples put together, the second one not told by one term -/
theorem q_catT {a b : Expr} {M1 : MM} {xs : List PyData} {Q : S → MM → Prop} (ha : EV Y a γ M (.d (.tuple xs)) M1) (hb : EQ Y b γ M1 fun s M2 => ∃ ys : List PyData, s = .d (.tuple ys) ∧ xs.length + ys.length ≤ 100000 ∧ Q (.d (.tuple (xs ++ ys))) M2) : EQ Y (.BinOp a .Add b pos) γ M Q :=
  ⟨PE.imp (pe_op op_catA ha.pe hb.pe) fun σ H R ⟨F, rl, q, ex⟩ => ⟨F, rl, fun F1 v H1 e1 r1 w1 => ⟨F1, r1, fun F2 w s M2 H2 e2 r2 w2 ⟨ys, hs, hl, hQ⟩ => by
    subst hs
    have w1' := w1.mono e2
    cases w1' with
    | tup h1 h2 =>
      rename_i l vs
      cases w2 with
      | tup h3 h4 =>
        rename_i l2 us
        have e5 := dps_len h2
        have e6 := dps_len h4
        refine ⟨l, l2, vs, us, rfl, rfl, same_t r2.hm.fh h1, same_t r2.hm.fh h3, by rw [e5, e6]; exact Nat.le_trans hl (by decide), fun hv => ?_, fun hv hu => ?_, fun hv hu p hp => ?_⟩
        · subst hv
          cases h2
          exact q F2 _ (.d (.tuple ys)) M2 H2 (e1.trans e2) r2 (Dp.tup h3 h4) hQ
        · subst hu
          cases h4
          rw [List.append_nil] at hQ
          exact q F2 _ (.d (.tuple xs)) M2 H2 (e1.trans e2) r2 (Dp.tup h1 h2) hQ
        · obtain ⟨e7, h7⟩ := r2.hm.newF hp (.tup (vs ++ us))
          have h8 : DpAll Y.X.K F2 (vs ++ us) (xs ++ ys) := all_d (by rw [List.map_append]; exact pair_app (d_all h2) (d_all h4))
          exact q _ _ (.d (.tuple (xs ++ ys))) M2 _ ((e1.trans e2).trans e7) (r2.ext e7 h7) (Dp.tup (.inl (.inl upd_same)) (dps_mono e7 _ _ h8)) hQ, ex.mono e1⟩, ex⟩⟩
/-- tuple(e), e a list not told by one term -/
theorem q_tupleQ {e : Expr} {p : Pos} {Q : S → MM → Prop} (hg : Gl Y.X "tuple" := by rfl) (hm : Y.X.mg "tuple" = none) (h : EQ Y e γ M fun s M1 => ∃ ds : List PyData, VL M1 s (ds.map S.d) ∧ Q (.d (.tuple ds)) M1)
    (he : starEach [e] Y.X.env = (false, eval e Y.X.env) :: starEach [] Y.X.env := by rfl) (hpl : (backTo pos (starEach [] Y.X.env)).any (·.1) = false := by rfl) : EQ Y (.Call (.Name "tuple" p) [e] [] pos) γ M Q :=
  ⟨PE.imp (pe_callTy call_tuple_of hg hm (by decide +kernel) (pa_cons h.pe pa_nil he) (by decide) (by decide) he hpl) fun σ H R ⟨F, r, q, ex⟩ => ⟨F, r, fun F1 v s M1 H1 e1 r1 v1 ⟨ds, hv, hQ⟩ => by
    obtain ⟨a, ws, rfl, h1, h2⟩ := hv.ok r1.hm v1
    refine ⟨a, ws, rfl, .inl ⟨h1, fun l hl => ?_⟩⟩
    obtain ⟨e2, h3⟩ := r1.hm.newF hl (.tup ws)
    exact q _ _ (.d (.tuple ds)) M1 _ (e1.trans e2) (r1.ext e2 h3) (Dp.tup (.inl (.inl upd_same)) (dps_mono e2 _ _ (all_d h2))) hQ, ex⟩⟩
end
end Mi

/-! Mi: the last item taken out of a list; a list so often; len of a list that may change; rows as a list or a tuple. -/
namespace Mi
open PySem PySem.Spec PyProof.Rows L2 RZ
section
variable {Y : Ct} {γ γ' : List S} {M M1 M2 M3 : MM} {s s1 s2 s3 : S} {e a b c o it tg : Expr} {pos p p2 : Pos} {x : Str} {es : List Expr} {ss : List S} {P : Po} {Q : S → MM → Prop}
theorem pair_unsnoc {α β : Type} {R : α → β → Prop} {y : β} : ∀ {xs : List α} {ys : List β}, Paired R xs (ys ++ [y]) → ∃ zs z, xs = zs ++ [z] ∧ Paired R zs ys ∧ R z y
  | _, [], h => by
    obtain ⟨v, rfl, r⟩ := pair_one h
    exact ⟨[], v, rfl, .nil, r⟩
  | _, b :: bs, h => by
    cases h with
    | cons r t =>
      obtain ⟨zs, z, rfl, h1, h2⟩ := pair_unsnoc t
      exact ⟨_ :: zs, z, rfl, .cons r h1, h2⟩
theorem q_pop {q : Addr} {k : Nat} {xs : List S} {apos : Pos} (ho : EV Y o γ M (.ob q) M1) (hk : M1[k]? = some (q, .lst (xs ++ [s]))) (hQ : Q s (M1.set k (q, .lst xs)))
    (hbase : attributeBase o "pop" Y.X.env (eval o Y.X.env) = eval o Y.X.env := by rfl) (hline : (apos.endLine == pos.line) = true := by rfl) : EQ Y (.Call (.Attribute o "pop" apos) [] [] pos) γ M Q :=
  ⟨PE.imp (pe_bm0 PySem.F.plainAttrs_list PySem.F.slot_list_pop PySem.F.type_list_pop mt_pop ho.pe hbase hline) fun σ H R ⟨F, r, qq, ex⟩ => ⟨F, r, fun F1 v H1 e1 r1 v1 => by
    cases v1
    obtain ⟨_, ws, g1, g2⟩ := r1.hm.mo _ _ (List.mem_of_getElem? hk)
    obtain ⟨zs, z, rfl, h1, h2⟩ := pair_unsnoc g2
    refine ⟨Or.inl ⟨rfl, _, .of g1⟩, q, _, z, rfl, rfl, g1, by simp, ?_⟩
    rw [List.dropLast_concat]
    have hM := r1.hm.setM hk (o := .lst zs) (m := .lst xs) ⟨_, upd_same, h1⟩
    exact qq F1 z s _ _ e1 ⟨hM, r1.sl⟩ h2 hQ, ex⟩⟩
theorem pair_rep {α β : Type} {R : α → β → Prop} {xs : List α} {ys : List β} (h : Paired R xs ys) : ∀ n : Nat, Paired R (List.replicate n xs).flatten (List.replicate n ys).flatten
  | 0 => .nil
  | n + 1 => by
    rw [List.replicate_succ, List.replicate_succ, List.flatten_cons, List.flatten_cons]
    exact pair_app h (pair_rep h n)
theorem q_rep (ha : EQ Y a γ M fun s1 M1 => ∃ (q : Addr) (xs : List S) (n k : Nat), s1 = .ob q ∧ M1[n]? = some (q, .lst xs) ∧ EV Y b γ M1 (.d (.int k)) M1 ∧ xs.length * k ≤ 100000 ∧ k < 2 ^ 62 ∧ ∀ p, Q (.ob p) (M1 ++ [(p, .lst (List.replicate k xs).flatten)])) : EQ Y (.BinOp a .Mult b pos) γ M Q :=
  ⟨PE.imp (pe_op op_rep ha.pe uE_ok) fun σ H R ⟨F, rl, q, ex⟩ => ⟨F, rl, fun F1 v s1 M1 H1 e1 r1 w1 ⟨q1, xs, n, k, hs, hk, hb, hl, hk2, hQ⟩ => ⟨_, hb.pe, F1, r1, fun F2 w H2 e2 r2 w2 => by
    subst hs
    cases w1
    cases w2
    obtain ⟨_, vs, h1, h2⟩ := r2.hm.mo _ _ (List.mem_of_getElem? hk)
    refine ⟨q1, (k : Int), vs, rfl, rfl, h1, by omega, by omega, ?_, fun p hp => ?_⟩
    · rw [pair_len h2, Int.toNat_natCast]
      exact Nat.le_trans hl (by decide)
    · rw [Int.toNat_natCast]
      have h5 := r2.hm.newM hp (o := .lst (List.replicate k vs).flatten) (m := .lst (List.replicate k xs).flatten) ⟨_, upd_same, pair_rep h2 k⟩
      exact q F2 _ (.ob p) _ _ (e1.trans e2) ⟨h5, r2.sl⟩ rfl (hQ p), ex.mono e1⟩, ex⟩⟩
theorem e_lenV {xs : List S} {n : Nat} (hg : Gl Y.X "len" := by rfl) (hm : Y.X.mg "len" = none) (ha : EA Y (e :: es) γ M [s] M1) (hv : VL M1 s xs) (hn : xs.length = n)
    (he : starEach (e :: es) Y.X.env = (false, eval e Y.X.env) :: starEach es Y.X.env := by rfl) (hpl : (backTo pos (starEach es Y.X.env)).any (·.1) = false := by rfl) : EV Y (.Call (.Name "len" p) (e :: es) [] pos) γ M (.d (.int n)) M1 :=
  e_callB call_len hg hm PySem.boot_len ha (he := he) (hpl := hpl) (hr := ⟨fun F vs H Q hm' g q => by
    obtain ⟨v, rfl, g0⟩ := pair_one g
    obtain ⟨a, ws, rfl, h1, h2⟩ := hv.ok hm' g0
    exact ⟨_, n, rfl, .inl ⟨_, h1, by rw [← hn, pair_len h2]⟩, q F _ H (Same.refl F) hm' (.int _)⟩⟩)
theorem EI.imp {xs : List S} {Sd Sd' : MM → Prop} (h : EI Y tg it γ M xs Sd M1) (k : ∀ M', Sd' M' → Sd M') : EI Y tg it γ M xs Sd' M1 := by
  obtain ⟨wi, h1, h2⟩ := h.ex
  refine ⟨wi, h1, fun F σ H R r ex q => h2 F σ H R r ex fun F1 H1 J e1 r1 W => q F1 H1 J e1 r1 ?_⟩
  obtain ⟨w1, w2, w3⟩ := W
  exact ⟨fun i H' F' M' e hm hs hi => w1 i H' F' M' e hm (k _ hs) hi, fun i H' v H'' x F' γ' M' σ' hx e r hs y => w2 i H' v H'' x F' γ' M' σ' hx e r (k _ hs) y, fun i H' F' M' e hm hs hi => w3 i H' F' M' e hm (k _ hs) hi⟩
/-- rows: a list or a tuple, seen as its items -/
def SqV (M : MM) (s : S) (ds : List PyData) : Prop := s = .d (.tuple ds) ∨ VL M s (ds.map S.d)
theorem SqV.t {ds : List PyData} : SqV M (.d (.tuple ds)) ds := .inl rfl
theorem SqV.l {ds : List PyData} : SqV M (.d (.list ds)) ds := .inr .d
theorem i_sq {ds : List PyData} (h : EV Y it γ M s M1) (v : SqV M1 s ds) : EI Y tg it γ M (ds.map S.d) (fun M' => SqV M' s ds) M1 := by
  rcases v with rfl | v
  · exact (i_tup h).imp fun _ _ => trivial
  · revert v
    generalize hx : ds.map S.d = xs
    intro v
    cases v with
    | d =>
      rename_i ys
      have : ds = ys := List.map_inj_right (fun a b e => by cases e; rfl) |>.mp hx
      subst this
      exact (i_list h).imp fun _ _ => trivial
    | l hk =>
      refine (i_listM h hk).imp fun M' v' => ?_
      rcases v' with v' | v'
      · cases v'
      · rw [hx] at v'
        cases v' with
        | l h => exact ⟨_, h⟩
end
end Mi

/-! Mi: a tuple so often, any number of times. -/
namespace Mi
open PySem PySem.Spec PyProof.Rows L2 RZ
theorem tuple_mul1 (l : Addr) (items : Array Value) (n : Nat) (dd : Option Addr) (sl : Array (Option Value)) (x : Int) (u : Tok) (c0 : (decide (x < -2 ^ 63) || decide (x ≥ 2 ^ 63)) = false) (c1 : (items.isEmpty || x == 1) = true) :
    Meets (Builtin.«tuple.__mul__» { pos := [Value.ref l, Value.int x u] }) fun _ R s => s.heap.get? l = some { cls := Value.type "tuple", dict := dd, data := Data.seq items n, slots := sl } ∧ R (Except.ok (Flow.ret (Value.ref l))) s :=
  Meets.of_wp fun prog w A R s h => by
    obtain ⟨hp, g, d, tk, os⟩ := s
    obtain ⟨hl, h⟩ := h
    have f1 := AutoSeq1.idx_int
    refine wpAny_ite_false (by rw [c0]; rfl) ?_
    refine wpAny_bind ?_
    refine wpAny_bind ?_
    refine wpAny_bind (wpAny_load' hl ?_)
    refine wpAny_pure (wpAny_pure ?_)
    refine wpAny_ite_true (c := (items.isEmpty || x == 1) = true) (decide_eq_true c1) ?_
    refine wpAny_bind (wpAny_bind (wpAny_bind ?_))
    refine wpAny_loadPart' hl (wpAny_pure (wpAny_pure ?_))
    refine wpAny_ite_true rfl (wpAny_bind (wpAny_rule ?_))
    exact wpAny_pure ⟨_, rfl, h⟩
theorem tuple_mul0 (l : Addr) (items : Array Value) (n : Nat) (dd : Option Addr) (sl : Array (Option Value)) (x : Int) (u : Tok) (c0 : (decide (x < -2 ^ 63) || decide (x ≥ 2 ^ 63)) = false) (c1 : (items.isEmpty || x == 1) = false) (c2 : (decide (x ≤ 0) || items.isEmpty) = true) :
    Meets (Builtin.«tuple.__mul__» { pos := [Value.ref l, Value.int x u] }) fun _ R s => s.heap.get? l = some { cls := Value.type "tuple", dict := dd, data := Data.seq items n, slots := sl } ∧ R (Except.ok (Flow.ret (Value.ref s.heap.objs.size))) { heap := s.heap.push { cls := Value.type "tuple", data := Data.seq #[] }, gens := s.gens, drawn := s.drawn, toks := s.toks, os := s.os } :=
  Meets.of_wp fun prog w A R s h => by
    obtain ⟨hp, g, d, tk, os⟩ := s
    obtain ⟨hl, h⟩ := h
    have f1 := AutoSeq1.idx_int
    refine wpAny_ite_false (by rw [c0]; rfl) ?_
    refine wpAny_bind ?_
    refine wpAny_bind ?_
    refine wpAny_bind (wpAny_load' hl ?_)
    refine wpAny_pure (wpAny_pure ?_)
    refine wpAny_ite_false (c := (items.isEmpty || x == 1) = true) (by rw [c1]; rfl) ?_
    refine wpAny_ite_true (c := (decide (x ≤ 0) || items.isEmpty) = true) (decide_eq_true c2) ?_
    refine wpAny_bind ?_
    refine wpAny_bind ?_
    refine wpAny_alloc' ?_
    exact wpAny_pure (wpAny_pure ⟨_, rfl, h⟩)
section
variable {X : Cx}
def rRepA (K : PySem.W.Frag) : R2 := fun x y H Q => ∃ l k xs, x = V.ref l ∧ y = V.int k ∧ SqT K H l xs ∧ 0 ≤ k ∧ k ≤ 1000 ∧ k.toNat * xs.length ≤ 100000 ∧ ((xs = [] ∨ k = 1) → Q (.ref l) H) ∧ ((xs ≠ [] ∧ k = 0) → ∀ p, H p = none → Q (.ref p) (upd H p (.tup []))) ∧ ((xs ≠ [] ∧ 2 ≤ k) → ∀ p, H p = none → Q (.ref p) (upd H p (.tup (List.replicate k.toNat xs).flatten)))
theorem op_repA : OpR X (binaryOp .Mult) (rRepA X.K) := by
  intro pins s σ H x y v u Q I rx ry h
  obtain ⟨l, k, xs, rfl, rfl, hT, h0, h1, hl, q1, q0, q2⟩ := h
  cases rx
  obtain ⟨t, rfl⟩ := ry
  obtain ⟨its, r, p1, z1⟩ := I.tuple hT
  obtain ⟨⟨cls, dd, data, sl⟩, ho, hc, n, hd⟩ := p1
  simp only at hc hd
  subst hc hd
  have c0 : (decide (k < -2 ^ 63) || decide (k ≥ 2 ^ 63)) = false := by
    rw [decide_eq_false (by omega), decide_eq_false (by omega)]; rfl
  have hlen := r.length
  by_cases c2 : xs ≠ [] ∧ 2 ≤ k
  · obtain ⟨hne, hk⟩ := c2
    have e0 : its.toArray.isEmpty = false := by
      cases its with
      | nil => cases xs with
        | nil => exact absurd rfl hne
        | cons a as => cases hlen
      | cons a as => rfl
    have e1 : (its.toArray.isEmpty || k == 1) = false := by
      rw [e0, Bool.false_or]
      exact beq_eq_false_iff_ne.mpr (by omega)
    have e2 : (decide (k ≤ 0) || its.toArray.isEmpty) = false := by
      rw [e0, Bool.or_false]
      exact decide_eq_false (by omega)
    have hz : ((its.toArray.size : Nat) : Int) * k ≤ 100000 := by
      rw [List.size_toArray, ← hlen]
      have : ((k.toNat * xs.length : Nat) : Int) ≤ 100000 := by omega
      rw [Int.natCast_mul, Int.toNat_of_nonneg h0, Int.mul_comm] at this
      exact this
    have e4 : Builtin.Tuple.tupleTooMany (((its.toArray.size : Nat) : Int) * k) = false := decide_eq_false (by
      have h9 : ((100000 : Nat) : Int) ≤ ((sizeLine : Nat) : Int) := Int.ofNat_le.mpr (by decide)
      omega)
    have hsz : (List.foldl (fun x1 x2 => x1 ++ x2) #[] (List.replicate k.toNat its.toArray)).size ≤ sizeLine := by
      rw [size_rep its k.toNat, List.size_toArray, PyProof.Rows.lm_len_rep_flat, ← hlen]
      exact Nat.le_trans hl (by decide)
    have hl2 : (List.replicate k.toNat xs).flatten.length ≤ sizeLine := by
      rw [PyProof.Rows.lm_len_rep_flat]
      exact Nat.le_trans hl (by decide)
    refine wpAny_binaryOp_repeat_ref (by decide) ⟨_, ho, rfl⟩ (fun s' => typeIs_int s' k t) noFill_tuple_mul F.fills_int_mul F.slot_int_rmul repeat_tuple F.slot_int_index.lookup
      (call_meets F.slot_int_rmul (typeIs_int s k t) F.entry_int_rmul (F.args_int_rmul_2 _ _) (int_rmul_tuple k t l its.toArray n dd sl)
        ⟨ho, rfl, ⟨_, ho, rfl⟩, call_meets F.slot_tuple_mul ⟨_, ho, rfl⟩ F.entry_tuple_mul (F.args_tuple_mul_2 _ _) (tuple_mulW l its.toArray n dd sl k t c0 e1 e2 (fun z => by omega) e4 hsz) ⟨ho, ?_⟩⟩)
    rw [size_rep its k.toNat]
    exact ⟨.ref s.heap.objs.size, _, I.laid (o := .tup (List.replicate k.toNat xs).flatten) (fun b ob q => Heap.get?_push_of_some _ q) (Nat.le_refl _) (show (List.replicate k.toNat xs).flatten.length ≤ sizeLine ∧ _ from ⟨hl2, (List.replicate k.toNat its).flatten, Vals.rep r k.toNat, PyProof.Rows.IsTup.new s.heap _⟩), rfl, q2 ⟨hne, hk⟩ _ (HOk.fresh I.hok (Nat.le_refl _))⟩
  · by_cases c1 : xs = [] ∨ k = 1
    · have e1 : (its.toArray.isEmpty || k == 1) = true := by
        rcases c1 with c1 | c1
        · subst c1
          cases its with
          | nil => rfl
          | cons a as => cases hlen
        · subst c1
          rw [beq_self_eq_true, Bool.or_true]
      exact wpAny_binaryOp_repeat_ref (by decide) ⟨_, ho, rfl⟩ (fun s' => typeIs_int s' k t) noFill_tuple_mul F.fills_int_mul F.slot_int_rmul repeat_tuple F.slot_int_index.lookup
        (call_meets F.slot_int_rmul (typeIs_int s k t) F.entry_int_rmul (F.args_int_rmul_2 _ _) (int_rmul_tuple k t l its.toArray n dd sl)
          ⟨ho, rfl, ⟨_, ho, rfl⟩, call_meets F.slot_tuple_mul ⟨_, ho, rfl⟩ F.entry_tuple_mul (F.args_tuple_mul_2 _ _) (tuple_mul1 l its.toArray n dd sl k t c0 e1) ⟨ho, .ref l, H, I, rfl, q1 c1⟩⟩)
    · have hne : xs ≠ [] := fun z => c1 (.inl z)
      have hk : k = 0 := by
        have : ¬ 2 ≤ k := fun z => c2 ⟨hne, z⟩
        have : ¬ k = 1 := fun z => c1 (.inr z)
        omega
      subst hk
      have e1 : (its.toArray.isEmpty || (0 : Int) == 1) = false := by
        cases its with
        | nil => cases xs with
          | nil => exact absurd rfl hne
          | cons a as => cases hlen
        | cons a as => rfl
      exact wpAny_binaryOp_repeat_ref (by decide) ⟨_, ho, rfl⟩ (fun s' => typeIs_int s' 0 t) noFill_tuple_mul F.fills_int_mul F.slot_int_rmul repeat_tuple F.slot_int_index.lookup
        (call_meets F.slot_int_rmul (typeIs_int s 0 t) F.entry_int_rmul (F.args_int_rmul_2 _ _) (int_rmul_tuple 0 t l its.toArray n dd sl)
          ⟨ho, rfl, ⟨_, ho, rfl⟩, call_meets F.slot_tuple_mul ⟨_, ho, rfl⟩ F.entry_tuple_mul (F.args_tuple_mul_2 _ _) (tuple_mul0 l its.toArray n dd sl 0 t c0 e1 rfl) ⟨ho, .ref s.heap.objs.size, _, I.laid (o := .tup []) (fun b ob q => Heap.get?_push_of_some _ q) (Nat.le_refl _) (show ([] : List V).length ≤ sizeLine ∧ _ from ⟨Nat.zero_le _, [], .nil, PyProof.Rows.IsTup.new s.heap #[]⟩), rfl, q0 ⟨hne, rfl⟩ _ (HOk.fresh I.hok (Nat.le_refl _))⟩⟩)
end
section
variable {Y : Ct} {γ γ' : List S} {M M1 M2 : MM} {s s1 s2 : S} {a b : Expr} {pos : Pos} {Q : S → MM → Prop}
/-- a tuple so often -/
theorem q_repT (ha : EQ Y a γ M fun s1 M1 => ∃ (ds : List PyData) (k : Nat) (M2 : MM), s1 = .d (.tuple ds) ∧ EV Y b γ M1 (.d (.int k)) M2 ∧ k ≤ 1000 ∧ k * ds.length ≤ 100000 ∧ Q (.d (.tuple (List.replicate k ds).flatten)) M2) : EQ Y (.BinOp a .Mult b pos) γ M Q :=
  ⟨PE.imp (pe_op op_repA ha.pe uE_ok) fun σ H R ⟨F, rl, q, ex⟩ => ⟨F, rl, fun F1 v s1 M1 H1 e1 r1 w1 ⟨ds, k, M2, hs, hb, hk, hl, hQ⟩ => ⟨_, hb.pe, F1, r1, fun F2 w H2 e2 r2 w2 => by
    subst hs
    have w1' := w1.mono e2
    cases w1' with
    | tup h1 h2 =>
      rename_i l vs
      cases w2
      have e5 := dps_len h2
      refine ⟨l, (k : Int), vs, rfl, rfl, same_t r2.hm.fh h1, by omega, by omega, by rw [e5, Int.toNat_natCast]; exact hl, fun c => ?_, fun c p hp => ?_, fun c p hp => ?_⟩
      · have e : (List.replicate k ds).flatten = ds := by
          rcases c with c | c
          · subst c
            cases h2
            induction k with
            | zero => rfl
            | succ k ih => rw [List.replicate_succ, List.flatten_cons, List.nil_append]; simp
          · have : k = 1 := by omega
            subst this
            simp
        rw [e] at hQ
        exact q F2 _ (.d (.tuple ds)) M2 H2 (e1.trans e2) r2 (Dp.tup h1 h2) hQ
      · obtain ⟨e7, h7⟩ := r2.hm.newF hp (.tup [])
        have : k = 0 := by omega
        subst this
        exact q _ _ (.d (.tuple [])) M2 _ ((e1.trans e2).trans e7) (r2.ext e7 h7) (Dp.tup (.inl (.inl upd_same)) .nil) hQ
      · obtain ⟨e7, h7⟩ := r2.hm.newF hp (.tup (List.replicate (k : Int).toNat vs).flatten)
        have h8 : DpAll Y.X.K F2 (List.replicate k vs).flatten (List.replicate k ds).flatten := all_d (by
          have := pair_rep (d_all h2) k
          rw [List.map_flatten, List.map_replicate]
          exact this)
        rw [Int.toNat_natCast] at *
        exact q _ _ (.d (.tuple (List.replicate k ds).flatten)) M2 _ ((e1.trans e2).trans e7) (r2.ext e7 h7) (Dp.tup (.inl (.inl upd_same)) (dps_mono e7 _ _ h8)) hQ, ex.mono e1⟩, ex⟩⟩
theorem e_repT {ds : List PyData} {k : Nat} (ha : EV Y a γ M (.d (.tuple ds)) M1) (hb : EV Y b γ M1 (.d (.int k)) M2) (hk : k ≤ 1000) (hl : k * ds.length ≤ 100000) : EV Y (.BinOp a .Mult b pos) γ M (.d (.tuple (List.replicate k ds).flatten)) M2 :=
  EV.ofQ (q_repT (ha.q ⟨ds, k, M2, rfl, hb, hk, hl, rfl, List.Sublist.refl _⟩))
end
section
variable {Y : Ct} {γ γ' : List S} {M M1 M2 : MM} {s s1 s2 : S} {a b c : Expr} {pos : Pos} {b1 : Bool}
/-- a if c else b -/
theorem e_ifE (hc : ET Y c γ M b1 M1) (h1 : b1 = true → EV Y a γ M1 s M2) (h2 : b1 = false → EV Y b γ M1 s M2) : EV Y (.IfExp c a b pos) γ M s M2 := by
  cases b1 with
  | true =>
    exact ⟨PE.imp (pe_ifExp hc.pt (h1 rfl).pe PE.never) fun σ H Q ⟨F, r, q, ex⟩ => ⟨F, r, fun F1 H1 e1 r1 => by
      refine iteT ?_
      exact ⟨F1, r1, fun F2 v H2 e2 r2 v2 => q F2 v H2 (e1.trans e2) r2 v2, ex.mono e1⟩, ex⟩⟩
  | false =>
    exact ⟨PE.imp (pe_ifExp hc.pt PE.never (h2 rfl).pe) fun σ H Q ⟨F, r, q, ex⟩ => ⟨F, r, fun F1 H1 e1 r1 => by
      refine iteF ?_
      exact ⟨F1, r1, fun F2 v H2 e2 r2 v2 => q F2 v H2 (e1.trans e2) r2 v2, ex.mono e1⟩, ex⟩⟩
end
end Mi

/-! Mi: dicts with nested keys; sorted(data). -/
namespace Mi
open PySem PySem.Spec PyProof.Rows L2
section
variable {X : Cx} {pins : List (Addr × Obj)} {σ : L2.St} {H F : Hp} {s : Shared}
mutual
theorem nested_is (I : Inv X pins σ H s) : ∀ (d : PyData) (v : V) (u : Value), Dp X.K H v d → RelV v u → kd d = true → NestedIs s.heap (keyOf d) u
  | .int i, _, _, h, r, _ => by
    cases h
    obtain ⟨t, rfl⟩ := r
    exact NestedIs.int i t
  | .str x, _, _, h, r, _ => by
    cases h
    obtain ⟨t, rfl⟩ := r
    exact NestedIs.text x t
  | .tuple ds, _, _, h, r, k => by
    cases h with
    | tup hs ha =>
      cases r
      obtain ⟨its, rv, ⟨o, ho, hc, n, hd⟩, _⟩ := I.tuple hs
      exact NestedIs.tup ho hc hd (by simpa using nested_all I ds _ its ha rv (by simpa [kd] using k))
  | .none, _, _, _, _, k => by cases k
  | .bool _, _, _, _, _, k => by cases k
  | .list _, _, _, _, _, k => by cases k
  | .dict _, _, _, _, _, k => by cases k
theorem nested_all (I : Inv X pins σ H s) : ∀ (ds : List PyData) (vs : List V) (us : List Value), DpAll X.K H vs ds → Vals vs us → kds ds = true → NestedAll s.heap (keysOf ds) us
  | [], _, _, h, r, _ => by
    cases h
    cases r
    exact NestedAll.nil
  | d :: ds, _, _, h, r, k => by
    cases h with
    | cons h1 h2 =>
      cases r with
      | cons r1 r2 =>
        rw [kds, Bool.and_eq_true] at k
        exact NestedAll.cons (nested_is I d _ _ h1 r1 k.1) (nested_all I ds _ _ h2 r2 k.2)
end
mutual
theorem key_inj : ∀ (d e : PyData), kd d = true → kd e = true → keyOf d = keyOf e → d = e
  | .int i, .int j, _, _, h => by rw [keyOf, keyOf] at h; injection h with h; rw [h]
  | .int i, .str j, _, _, h => by rw [keyOf, keyOf] at h; cases h
  | .int i, .tuple j, _, _, h => by rw [keyOf, keyOf] at h; cases h
  | .str i, .int j, _, _, h => by rw [keyOf, keyOf] at h; cases h
  | .str i, .str j, _, _, h => by rw [keyOf, keyOf] at h; injection h with h; rw [h]
  | .str i, .tuple j, _, _, h => by rw [keyOf, keyOf] at h; cases h
  | .tuple i, .int j, _, _, h => by rw [keyOf, keyOf] at h; cases h
  | .tuple i, .str j, _, _, h => by rw [keyOf, keyOf] at h; cases h
  | .tuple i, .tuple j, a, b, h => by
    rw [keyOf, keyOf] at h
    injection h with h
    rw [keys_inj i j (by simpa [kd] using a) (by simpa [kd] using b) h]
  | .none, _, a, _, _ => by cases a
  | .bool _, _, a, _, _ => by cases a
  | .list _, _, a, _, _ => by cases a
  | .dict _, _, a, _, _ => by cases a
  | .int _, .none, _, b, _ => by cases b
  | .int _, .bool _, _, b, _ => by cases b
  | .int _, .list _, _, b, _ => by cases b
  | .int _, .dict _, _, b, _ => by cases b
  | .str _, .none, _, b, _ => by cases b
  | .str _, .bool _, _, b, _ => by cases b
  | .str _, .list _, _, b, _ => by cases b
  | .str _, .dict _, _, b, _ => by cases b
  | .tuple _, .none, _, b, _ => by cases b
  | .tuple _, .bool _, _, b, _ => by cases b
  | .tuple _, .list _, _, b, _ => by cases b
  | .tuple _, .dict _, _, b, _ => by cases b
theorem keys_inj : ∀ (ds es : List PyData), kds ds = true → kds es = true → keysOf ds = keysOf es → ds = es
  | [], [], _, _, _ => rfl
  | [], e :: es, _, _, h => by rw [keysOf, keysOf] at h; cases h
  | d :: ds, [], _, _, h => by rw [keysOf, keysOf] at h; cases h
  | d :: ds, e :: es, a, b, h => by
    rw [keysOf, keysOf] at h
    rw [kds, Bool.and_eq_true] at a b
    injection h with h1 h2
    rw [key_inj d e a.1 b.1 h1, keys_inj ds es a.2 b.2 h2]
end
abbrev KN (K : PySem.W.Frag) (F : Hp) : List NV → List (PyData × S) → Prop := Paired (fun (p : NV) (q : PyData × S) => p.1 = keyOf q.1 ∧ Dp K F (.ref p.2.1) q.1 ∧ KdT q.1 ∧ SR K F p.2.2 q.2)
abbrev NR : List NV → List (NestedKey × Addr × Value) → Prop := Paired (fun (p : NV) (q : NestedKey × Addr × Value) => p.1 = q.1 ∧ p.2.1 = q.2.1 ∧ RelV p.2.2 q.2.2)
theorem pair_left {α β : Type} {R : α → β → Prop} : ∀ {as : List α} {bs : List β}, Paired R as bs → ∀ b ∈ bs, ∃ a ∈ as, R a b
  | _, _, .nil, b, h => nomatch h
  | _, _, .cons r t, b, h => by
    rcases List.mem_cons.mp h with rfl | h
    · exact ⟨_, List.mem_cons_self, r⟩
    · obtain ⟨a, h1, h2⟩ := pair_left t b h
      exact ⟨a, List.mem_cons_of_mem _ h1, h2⟩
theorem pair_right {α β : Type} {R : α → β → Prop} : ∀ {as : List α} {bs : List β}, Paired R as bs → ∀ a ∈ as, ∃ b ∈ bs, R a b
  | _, _, .nil, b, h => nomatch h
  | _, _, .cons r t, b, h => by
    rcases List.mem_cons.mp h with rfl | h
    · exact ⟨_, List.mem_cons_self, r⟩
    · obtain ⟨a, h1, h2⟩ := pair_right t b h
      exact ⟨a, List.mem_cons_of_mem _ h1, h2⟩
theorem dko_mk {P : Program} {w : World} {H' : Hp} {h : Heap} {a : Addr} {xs : List NV} {ys : List (NestedKey × Addr × Value)} (hl : xs.length ≤ sizeLine) (hs : (a == sysModules) = false) (pr : NR xs ys) {o : Obj} {es : Array DictEntry} {ep : Nat}
    (h1 : h.get? a = some o) (h2 : o.ExactDict) (h3 : o.data = .dict es ep) (h4 : es.toList = ys.map (fun x => (⟨x.1.hash w, .ref x.2.1, x.2.2⟩ : DictEntry))) (h5 : (ys.map (·.1)).Nodup) : ObjOk P w H' h a (DKO w a xs) :=
  ⟨⟨hl, hs, ys, pr, o, es, ep, h1, h2, h3, h4, h5⟩, ⟨o, h1⟩, fun g1 g2 ⟨hl, hs, ys, pr, o, es, ep, h1, h2, h3, h4, h5⟩ k => ⟨hl, hs, ys, pr, o, es, ep, k _ h1, h2, h3, h4, h5⟩⟩
theorem dko_of {a : Addr} {xs : List NV} {kvs : List (PyData × S)} (I : Inv X pins σ H s) (hF : Same F H) (e : H a = some (DKO X.w a xs)) (p : KN X.K F xs kvs) :
    ∃ ys, NR xs ys ∧ s.heap.DictOfH (nestedKind X.prog X.w) a ys ∧ (a == sysModules) = false ∧ xs.length ≤ sizeLine := by
  obtain ⟨⟨hl, hs, ys, pr, o, es, ep, h1, h2, h3, h4, h5⟩, _⟩ := (show ObjOk X.prog X.w H s.heap a (DKO X.w a xs) from I.hok a _ e)
  refine ⟨ys, pr, ⟨o, es, ep, h1, h2, h3, h4, fun y hy => ?_, h5⟩, hs, hl⟩
  obtain ⟨x, hx, r1, r2, _⟩ := pair_left pr y hy
  obtain ⟨q, _, q1, q2, q3, _⟩ := pair_right p x hx
  rw [← r1, ← r2, q1]
  exact ⟨nested_is I q.1 _ _ (dp_mono hF _ _ q2) rfl q3.2.1, q3.2.2⟩
def putN (xs : List NV) (k : NestedKey) (b : Addr) (v : V) : List NV := if xs.any (fun x => decide (x.1 = k)) then xs.map (fun x => if x.1 = k then (x.1, x.2.1, v) else x) else xs ++ [(k, b, v)]
def putD (kvs : List (PyData × S)) (d : PyData) (z : S) : List (PyData × S) := if kvs.any (fun x => decide (keyOf x.1 = keyOf d)) then kvs.map (fun x => if keyOf x.1 = keyOf d then (x.1, z) else x) else kvs ++ [(d, z)]
def valN (kvs : List (PyData × S)) (d : PyData) : Option S := (kvs.find? fun x => decide (keyOf x.1 = keyOf d)).map (·.2)
theorem any_pair {α β : Type} {R : α → β → Prop} {f : α → Bool} {g : β → Bool} (h : ∀ a b, R a b → f a = g b) : ∀ {as : List α} {bs : List β}, Paired R as bs → as.any f = bs.any g
  | _, _, .nil => rfl
  | _, _, .cons r t => by rw [List.any_cons, List.any_cons, h _ _ r, any_pair h t]
theorem map_pair {α β γ δ : Type} {R : α → β → Prop} {R' : γ → δ → Prop} {f : α → γ} {g : β → δ} (h : ∀ a b, R a b → R' (f a) (g b)) : ∀ {as : List α} {bs : List β}, Paired R as bs → Paired R' (as.map f) (bs.map g)
  | _, _, .nil => .nil
  | _, _, .cons r t => .cons (h _ _ r) (map_pair h t)
theorem find_any {α : Type} (p : α → Bool) : ∀ l : List α, (l.find? p).isSome = l.any p
  | [] => rfl
  | a :: l => by rw [List.find?_cons, List.any_cons, ← find_any p l]; cases p a <;> rfl
theorem atKey_any (ys : List (NestedKey × Addr × Value)) (k : NestedKey) : (atKey ys k).isSome = ys.any (fun x => decide (x.1 = k)) := by
  unfold atKey
  rw [Option.isSome_map, find_any]
theorem nr_put {xs : List NV} {ys : List (NestedKey × Addr × Value)} (p : NR xs ys) (k : NestedKey) (b : Addr) {v : V} {u : Value} (r : RelV v u) : NR (putN xs k b v) (storedH ys k b u) := by
  unfold putN storedH
  rw [atKey_any, any_pair (g := fun x => decide (x.1 = k)) (fun a b h => by rw [h.1]) p]
  cases ys.any fun x => decide (x.1 = k) with
  | true =>
    rw [if_pos rfl, if_pos rfl]
    refine map_pair (fun x y h => ?_) p
    unfold putAt
    obtain ⟨h1, h2, h3⟩ := h
    by_cases e : x.1 = k
    · rw [if_pos e, if_pos (h1 ▸ e)]
      exact ⟨h1, h2, r⟩
    · rw [if_neg e, if_neg (h1 ▸ e)]
      exact ⟨h1, h2, h3⟩
  | false =>
    rw [if_neg (by decide), if_neg (by decide)]
    exact pair_app p (.cons ⟨rfl, rfl, r⟩ .nil)
theorem kn_put {K : PySem.W.Frag} {xs : List NV} {kvs : List (PyData × S)} (p : KN K F xs kvs) {d : PyData} {b : Addr} {v : V} {z : S} (hb : Dp K F (.ref b) d) (hd : KdT d) (r : SR K F v z) : KN K F (putN xs (keyOf d) b v) (putD kvs d z) := by
  unfold putN putD
  rw [any_pair (g := fun x => decide (keyOf x.1 = keyOf d)) (fun a b h => by rw [h.1]) p]
  cases kvs.any fun x => decide (keyOf x.1 = keyOf d) with
  | true =>
    rw [if_pos rfl, if_pos rfl]
    refine map_pair (fun x y h => ?_) p
    obtain ⟨h1, h2, h3, h4⟩ := h
    by_cases e : x.1 = keyOf d
    · rw [if_pos e, if_pos (h1 ▸ e)]
      exact ⟨h1, h2, h3, r⟩
    · rw [if_neg e, if_neg (h1 ▸ e)]
      exact ⟨h1, h2, h3, h4⟩
  | false =>
    rw [if_neg (by decide), if_neg (by decide)]
    exact pair_app p (.cons ⟨rfl, hb, hd, r⟩ .nil)
theorem putN_len (xs : List NV) (k : NestedKey) (b : Addr) (v : V) : (putN xs k b v).length ≤ xs.length + 1 := by
  unfold putN
  split
  · rw [List.length_map]; omega
  · rw [List.length_append]; exact Nat.le_refl _
end
/-! ### {} -/
theorem pe_dnewN {X : Cx} {pos : Pos} : PE X (.Dict [] [] pos) (fun _ H Q => ∀ p, H p = none → Q (.ref p) (upd H p (DKO X.w p []))) := ⟨fun pins s σ H Q I h =>
  wpAny_Dict_empty ⟨.ref s.heap.objs.size, _, I.laid (a := s.heap.objs.size) (o := DKO X.w s.heap.objs.size []) (t' := s.toks) (fun _ _ q => Heap.get?_push_of_some _ q) (Nat.le_refl _)
    (dko_mk (ys := []) (Nat.zero_le _) (beq_eq_false_iff_ne.mpr (Ne.symm (Nat.ne_of_lt I.big))) .nil (Heap.get?_push_size _ rfl) ⟨rfl, rfl, rfl⟩ rfl rfl List.nodup_nil), rfl, h _ (I.hok.fresh (Nat.le_refl _))⟩⟩
/-! ### d[k] = v -/
def sNPut (K : PySem.W.Frag) (w : World) (td ty tv : TE) : TS := fun D σ H => tv σ H fun v H1 => td σ H1 fun x H2 => ty σ H2 fun y H3 => ∃ (a b : Addr) (d : PyData) (xs : List NV) (kvs : List (PyData × S)) (F : Hp),
  x = .ref a ∧ y = .ref b ∧ Same F H3 ∧ H3 a = some (DKO w a xs) ∧ KN K F xs kvs ∧ Dp K F (.ref b) d ∧ KdT d ∧ xs.length < sizeLine ∧ D.nx σ (upd H3 a (DKO w a (putN xs (keyOf d) b v)))
theorem room_nest {A : Around} (hu : A.units + 9 < cLine) {prog : Program} {w : World} : (nestedKind prog w).room A.in1 := by
  show A.in1.units + 8 < cLine
  rw [Around.in1_units]
  omega
theorem dn_write {X : Cx} {pins : List (Addr × Obj)} {σ : L2.St} {H : Hp} {s : Shared} {a b : Addr} {xs : List NV} {ys : List (NestedKey × Addr × Value)} {k : NestedKey} {v : V} {u : Value} {h' : Heap} {t' : Nat} (I : Inv X pins σ H s) (e : H a = some (DKO X.w a xs)) (pr : NR xs ys) (hs : (a == sysModules) = false) (rv : RelV v u) (hl : xs.length < sizeLine)
    (dd : h'.DictOfH (nestedKind X.prog X.w) a (storedH ys k b u)) (sb : Heap.SameBut a s.heap h') : Inv X pins σ (upd H a (DKO X.w a (putN xs k b v))) { s with heap := h', toks := t' } := by
  obtain ⟨q, es, ep, hq, h2, h3, h4, _, h5⟩ := dd
  refine d_write I (by rw [e]; exact True.intro) sb ⟨q, hq⟩ (dko_mk (by have := putN_len xs k b v; omega) hs (nr_put pr k b rv) hq h2 h3 h4 h5)
theorem ps_nput {X : Cx} {o i value : Expr} {pos pos' : Pos} {td ty tv : TE} (hu : X.A.units + 9 < cLine) (ho : PE X o td) (hi : PE X i ty) (hv : PE X value tv) (hs : swapsWith value (some (.Subscript o i pos')) pos.line X.env = pure false) :
    PS X (.Assign [.Subscript o i pos'] value pos) (sNPut X.K X.w td ty tv) := by
  refine ⟨fun pins s σ H D I h => ?_⟩
  refine wpAny_Assign_Subscript (thn (hv.run pins s σ H _ I h) fun r s1 ⟨v, H1, I1, rv, q1⟩ => thn (ho.run pins s1 σ H1 _ I1 q1) fun u s2 ⟨x, H2, I2, rx, q2⟩ => thn (hi.run pins s2 σ H2 _ I2 q2) fun iv s3 ⟨y, H3, I3, ry, a, b, d, xs, kvs, F, ex, ey, hF, e, p, hb, hd, hl, q3⟩ => ?_) hs
  subst ex ey
  obtain rfl : u = Value.ref a := rx
  obtain rfl : iv = Value.ref b := ry
  obtain ⟨ys, pr, dd, hsys, hz⟩ := dko_of I3 hF e p
  refine wpAny_setItem_heap (hsz := by rw [← Paired.length pr]; exact hz) (room_nest hu) ⟨nested_is I3 d _ _ (dp_mono hF _ _ hb) rfl hd.2.1, hd.2.2⟩ dd fun h' dd' sb => ⟨σ, _, dn_write I3 e pr hsys rv hl dd' sb, q3⟩
/-! ### len(d) -/
theorem call_lenN {X : Cx} : CallR X (.builtin "len") (fun vs H Q => ∃ (a : Addr) (xs : List NV) (kvs : List (PyData × S)) (F : Hp), vs = [V.ref a] ∧ Same F H ∧ H a = some (DKO X.w a xs) ∧ KN X.K F xs kvs ∧ Q (.int xs.length) H) := by
  rintro pins s σ H vs us Q I r ⟨a, xs, kvs, F, rfl, hF, e, p, q⟩
  rw [Vals.ref1 r]
  obtain ⟨ys, pr, dd, hsys, hz⟩ := dko_of I hF e p
  have hlen : xs.length = ys.length := Paired.length pr
  exact call_len_dictH hsys dd (by rw [← hlen]; rw [sizeLine_eq] at hz; omega) ⟨.int xs.length, H, I.tok _, ⟨s.toks + 1, by rw [hlen]⟩, q⟩
/-! ### list(d) -/
theorem call_listN {X : Cx} (hc : X.calm = true) : CallR X (.type "list") (fun vs H Q => ∃ (a : Addr) (xs : List NV) (kvs : List (PyData × S)) (F : Hp), vs = [V.ref a] ∧ Same F H ∧ H a = some (DKO X.w a xs) ∧ KN X.K F xs kvs ∧ ∀ p, H p = none → Q (.ref p) (upd H p (.lst (xs.map fun x => V.ref x.2.1)))) := by
  rintro pins s σ H vs us Q I r ⟨d, xs, kvs, F, rfl, hF, e, p, q⟩
  rw [Vals.ref1 r]
  obtain ⟨ks, pr, ⟨o, es, ep, ho, hx, hdt, he, _, hn⟩, hs, z⟩ := dko_of I hF e p
  have l1 : es.size = ks.length := size_of_entries he
  have l2 : xs.length = ks.length := Paired.length pr
  refine PySem.W.kdl_call (kdl_raw hs hx hdt) (I.ok.hd hc) ho (by omega) fun h' tk acc' c' kp e it => ?_
  have ea : acc'.toList = ks.map fun x => Value.ref x.2.1 := by
    have hl : acc'.toList.length = ks.length := by rw [Array.length_toList, it.1]; exact l1
    apply List.ext_getElem?
    intro j
    rw [List.getElem?_map]
    cases hj : acc'.toList[j]? with
    | none =>
      have h1 := List.getElem?_eq_none_iff.mp hj
      rw [List.getElem?_eq_none (by omega)]
      all_goals rfl
    | some v =>
      obtain ⟨en, hen, hv⟩ := it.2 j v (by rw [← Array.getElem?_toList]; exact hj)
      have qe := entry_at he j
      rw [hen] at qe
      cases hb : ks[j]? with
      | none =>
        rw [hb] at qe
        exact nomatch (show some en = none from qe)
      | some b =>
        rw [hb] at qe
        have e2 : en = entryOfKey (nestedKind X.prog X.w) b := Option.some.inj qe
        rw [hv, e2]
        all_goals rfl
  have rv : Vals (xs.map fun x => V.ref x.2.1) acc'.toList := by
    rw [ea]
    exact map_pair (fun a b h => by show Value.ref b.2.1 = Value.ref a.2.1; rw [h.2.1]) pr
  refine ⟨.ref s.heap.objs.size, _, I.laid (t' := tk) (o := .lst (xs.map fun x => V.ref x.2.1)) kp (Nat.le_refl _) ?_, rfl, q _ (I.hok.fresh (Nat.le_refl _))⟩
  exact ⟨by rw [List.length_map]; exact z, acc'.toList, c', rv, by rw [Array.toArray_toList]; exact e⟩
/-! ### sorted(data) -/
theorem each_of {K : PySem.W.Frag} {F : Hp} : ∀ {vs : List V} {us : List Value} {ds : List PyData}, Vals vs us → DpAll K F vs ds → PySem.W.EachIs (fun (u : Value) (d : PyData) => ∃ x : V, RelV x u ∧ Dp K F x d) us ds
  | _, _, _, .nil, .nil => .nil
  | _, _, _, .cons r t, .cons h k => .cons ⟨_, r, h⟩ (each_of t k)
theorem of_each {K : PySem.W.Frag} {F : Hp} : ∀ {us : List Value} {ds : List PyData}, PySem.W.EachIs (fun (u : Value) (d : PyData) => ∃ x : V, RelV x u ∧ Dp K F x d) us ds → ∃ vs, Vals vs us ∧ DpAll K F vs ds
  | _, _, .nil => ⟨[], .nil, .nil⟩
  | _, _, .cons ⟨x, h1, h2⟩ t => by
    obtain ⟨vs, k1, k2⟩ := of_each t
    exact ⟨x :: vs, .cons h1 k1, .cons h2 k2⟩
def srtD (ds : List PyData) : List PyData := ds.mergeSort (PySem.W.dataLe false id)
def rSortD (K : PySem.W.Frag) : List V → Hp → VK → Prop := fun vs H Q => ∃ (a : Addr) (ws : List V) (ds : List PyData) (F : Hp), vs = [V.ref a] ∧ Same F H ∧ SqL K H a ws ∧ DpAll K F ws ds ∧ PySem.W.AllAlike ds ∧ PySem.W.Sortable ds ∧ (∀ d ∈ ds, d.depth ≤ 60) ∧
  ∀ (p : Addr) (out : List V), H p = none → DpAll K F out (srtD ds) → Q (.ref p) (upd H p (.lst out))
theorem cr_sortD {X : Cx} (hu : X.A.units + 70 < cLine) : CallR X (.builtin "sorted") (rSortD X.K) := by
  rintro pins s σ H vs us Q I r ⟨a, ws, ds, F, rfl, hF, hs, hd, hal, hso, hdp, q⟩
  obtain ⟨its, rv, hl, hz⟩ := I.list hs
  rw [Vals.ref1 r]
  have hlen := Paired.length rv
  have e1 : ds.length = ws.length := (dps_len hd).symm
  have hall := dps_mono hF _ _ hd
  obtain ⟨as, hr⟩ := Dp.readsAll I ds _ its hall rv
  refine PySem.W.sorted_data (enc := id) hl.isList (each_of rv hd) (PySem.W.readsAll_each id (by rw [List.map_id]; exact hr)) (by rw [List.map_id]; exact hal) (by rw [List.map_id]; exact hso) (by omega) (fun d hd => by have := hdp d hd; show X.A.units + 2 + d.depth < cLine; omega) fun out ho eo => ?_
  obtain ⟨out', k1, k2⟩ := of_each eo
  obtain ⟨ep, he'⟩ := PyProof.Rows.sortedAll_at s.heap its out.toArray
  have hlen2 : out'.length ≤ sizeLine := by
    have := Paired.length k1
    omega
  exact ⟨.ref _, upd H (s.heap.objs.size + 1) (.lst out'), I.laid (t' := s.toks) (fun _ _ => PyProof.Rows.sortedAll_old) (Nat.le_succ _) ⟨hlen2, out, ep, k1, he'⟩, rfl, q _ _ (I.hok.fresh (Nat.le_succ _)) k2⟩
/-! ### {k: v, ..} -/
def putsN (zs : List (Addr × PyData × V)) : List NV := zs.foldl (fun acc z => putN acc (keyOf z.2.1) z.1 z.2.2) []
theorem nr_puts : ∀ {zs : List (Addr × PyData × V)} {ps : List (NestedKey × Addr × Value)} {xs : List NV} {ys : List (NestedKey × Addr × Value)}, Paired (fun (z : Addr × PyData × V) (p : NestedKey × Addr × Value) => p.1 = keyOf z.2.1 ∧ p.2.1 = z.1 ∧ RelV z.2.2 p.2.2) zs ps → NR xs ys →
    NR (zs.foldl (fun acc z => putN acc (keyOf z.2.1) z.1 z.2.2) xs) (storedAllH ys ps)
  | _, _, xs, ys, .nil, r => r
  | z :: zs, p :: ps, xs, ys, .cons h t, r => by
    obtain ⟨h1, h2, h3⟩ := h
    have := nr_puts t (nr_put r (keyOf z.2.1) z.1 h3)
    rw [← h1, ← h2] at this
    unfold storedAllH at this ⊢
    rw [List.foldl_cons, List.foldl_cons, ← h1, ← h2]
    exact this
theorem putsN_len : ∀ (zs : List (Addr × PyData × V)) (xs : List NV), (zs.foldl (fun acc z => putN acc (keyOf z.2.1) z.1 z.2.2) xs).length ≤ xs.length + zs.length
  | [], xs => Nat.le_refl _
  | z :: zs, xs => by
    have h1 := putsN_len zs (putN xs (keyOf z.2.1) z.1 z.2.2)
    have h2 := putN_len xs (keyOf z.2.1) z.1 z.2.2
    rw [List.foldl_cons, List.length_cons]
    omega
theorem carriesN {X : Cx} {pins : List (Addr × Obj)} {σ : L2.St} {H F : Hp} {s : Shared} (I : Inv X pins σ H s) (hF : Same F H) : ∀ {zs : List (Addr × PyData × V)} {ws : List (Value × Value)}, VV (zs.map fun z => (V.ref z.1, z.2.2)) ws → (∀ z ∈ zs, Dp X.K F (.ref z.1) z.2.1 ∧ KdT z.2.1) →
    ∃ ps, CarriesH (nestedKind X.prog X.w) s.heap ws ps ∧ Paired (fun (z : Addr × PyData × V) (p : NestedKey × Addr × Value) => p.1 = keyOf z.2.1 ∧ p.2.1 = z.1 ∧ RelV z.2.2 p.2.2) zs ps
  | [], _, r, _ => by rw [List.map_nil] at r; cases r; exact ⟨[], True.intro, .nil⟩
  | z :: zs, _, r, h => by
    rw [List.map_cons] at r
    cases r with
    | @cons a b as bs h1 t =>
      obtain ⟨ps, c, q⟩ := carriesN I hF t fun y hy => h y (List.mem_cons_of_mem _ hy)
      obtain ⟨b1, b2⟩ := b
      obtain ⟨k1, k2⟩ := h z List.mem_cons_self
      obtain rfl : b1 = Value.ref z.1 := h1.1
      exact ⟨(keyOf z.2.1, z.1, b2) :: ps, ⟨rfl, rfl, ⟨nested_is I _ _ _ (dp_mono hF _ _ k1) rfl k2.2.1, k2.2.2⟩, c⟩, .cons ⟨rfl, rfl, h1.2⟩ q⟩
def tDispN (K : PySem.W.Frag) (w : World) (trs : List (TE × TE)) : TE := fun σ H Q => ∀ p, H p = none → tPairs trs σ (upd H p (DKO w p [])) fun ps H2 => H2 p = some (DKO w p []) ∧ ∃ (zs : List (Addr × PyData × V)) (F : Hp), ps = zs.map (fun z => (V.ref z.1, z.2.2)) ∧ Same F H2 ∧
  (∀ z ∈ zs, Dp K F (.ref z.1) z.2.1 ∧ KdT z.2.1) ∧ zs.length ≤ 15 ∧ Q (.ref p) (upd H2 p (DKO w p (putsN zs)))
theorem pe_dispN {X : Cx} {pos : Pos} {keys : List (Option Expr)} {values : List Expr} {trs : List (TE × TE)} (hu : X.A.units + 9 < cLine) (h : PPs X pos keys values trs) (hall : keys.all (·.isSome) = true) (hl : keys.length = values.length) (h0 : keys ≠ [])
    (h15 : keys.length ≤ 15) : PE X (.Dict keys values pos) (tDispN X.K X.w trs) := by
  refine ⟨fun pins s σ H Q I q => ?_⟩
  have hn := I.hok.fresh (Nat.le_refl s.heap.objs.size)
  have I1 := I.laid (a := s.heap.objs.size) (o := DKO X.w s.heap.objs.size []) (h' := s.heap.push { cls := .type "dict", data := .dict #[] }) (t' := s.toks) (fun _ _ q => Heap.get?_push_of_some _ q) (Nat.le_refl _)
    (dko_mk (ys := []) (Nat.zero_le _) (beq_eq_false_iff_ne.mpr (Ne.symm (Nat.ne_of_lt I.big))) .nil (Heap.get?_push_size _ rfl) ⟨rfl, rfl, rfl⟩ rfl rfl List.nodup_nil)
  have hpl := pairTrees_length keys values X.env pos hall hl
  rw [arm_eval_Dict, zip_pairTrees keys values X.env pos hall hl, dictDisplay_pairs _ (fun he => by rw [he] at hpl; exact h0 (List.length_eq_zero_iff.mp hpl.symm)) (by omega)]
  refine wpAny_bind (wpAny_standAt (wpAny_bind (wpAny_subDictH (knd := nestedKind X.prog X.w) (Q := fun d s' => wpAny (model X.prog X.w) X.A (pure (Value.ref d)) _ X.xe s') (show X.A.units + 8 < cLine by omega) (by omega) (thn (h.run pins _ σ _ _ I1 (q _ hn)) fun ws s2 ⟨ps, H2, I2, rel, e, zs, F, ep, hF, hk, lk, q2⟩ => ?_))))
  subst ep
  obtain ⟨rs, c, rk⟩ := carriesN I2 hF rel hk
  obtain ⟨ys, pr, dd, hsys, hz⟩ := dko_of (kvs := []) I2 hF e .nil
  cases pr
  refine ⟨rs, c, dd, fun h' tk dd' hs => wpAny_pure ⟨.ref s.heap.objs.size, _, ?_, rfl, q2⟩⟩
  obtain ⟨qo, es, ep, hq, h2, h3, h4, _, h5⟩ := dd'
  refine d_write I2 (by rw [e]; exact True.intro) hs ⟨qo, hq⟩ (dko_mk (ys := storedAllH [] rs) ?_ hsys (nr_puts rk .nil) hq h2 h3 h4 h5)
  have h1 := putsN_len zs []
  rw [List.length_nil] at h1
  unfold putsN
  rw [sizeLine_eq]
  omega
/-! ### d.setdefault(k, x) -/
def tSetd (K : PySem.W.Frag) (w : World) (td ty tx : TE) : TE := fun σ H Q => td σ H fun x H1 => ∃ a, x = .ref a ∧ (∃ xs kvs F, Same F H1 ∧ H1 a = some (DKO w a xs) ∧ KN K F xs kvs) ∧ ty σ H1 fun y H2 => tx σ H2 fun z H3 => ∃ (b : Addr) (d : PyData) (xs : List NV) (kvs : List (PyData × S)) (F : Hp),
  y = .ref b ∧ Same F H3 ∧ H3 a = some (DKO w a xs) ∧ KN K F xs kvs ∧ Dp K F (.ref b) d ∧ KdT d ∧ xs.length < sizeLine ∧
  (∀ v, (xs.find? fun x => decide (x.1 = keyOf d)).map (·.2.2) = some v → Q v H3) ∧ ((xs.find? fun x => decide (x.1 = keyOf d)) = none → Q z (upd H3 a (DKO w a (putN xs (keyOf d) b z))))
theorem find_pair {α β : Type} {R : α → β → Prop} {f : α → Bool} {g : β → Bool} (h : ∀ a b, R a b → f a = g b) : ∀ {as : List α} {bs : List β}, Paired R as bs → (as.find? f = none ∧ bs.find? g = none) ∨ ∃ a b, as.find? f = some a ∧ bs.find? g = some b ∧ R a b
  | _, _, .nil => .inl ⟨rfl, rfl⟩
  | a :: as, b :: bs, .cons r t => by
    rw [List.find?_cons, List.find?_cons, ← h _ _ r]
    cases f a with
    | true => exact .inr ⟨a, b, rfl, rfl, r⟩
    | false => exact find_pair h t
theorem pe_setd {X : Cx} {o e f : Expr} {apos cpos : Pos} {td ty tx : TE} (hu : X.A.units + 9 < cLine) (ho : PE X o td) (he : PE X e ty) (hf : PE X f tx) (m : M2 X o "setdefault" apos e f cpos) : PE X (.Call (.Attribute o "setdefault" apos) [e, f] [] cpos) (tSetd X.K X.w td ty tx) := by
  refine ⟨fun pins s σ H Q I h => ?_⟩
  refine wpAny_Call_method m.base m.few m.line PySem.F.plainAttrs_dict PySem.F.slot_dict_setdefault PySem.F.type_dict_setdefault (thn (ho.run pins s σ H _ I h) fun u s1 ⟨x, H1, I1, rx, a, ex, ⟨xs0, kvs0, F0, hF0, e0, p0⟩, q1⟩ => ?_)
  subst ex
  obtain rfl : u = Value.ref a := rx
  obtain ⟨ys0, _, ⟨ob, es, ep, hob, hex, _⟩, _⟩ := dko_of I1 hF0 e0 p0
  refine ⟨⟨ob, hob, hex.1⟩, fun b2 q => by cases q; exact ⟨ob, hob, hex.2.1⟩, ?_⟩
  rw [m.trees]
  refine Calls.callWith_builtin rfl (Calls.evalArgs_plain (Calls.spliced_cons (thn (he.run pins s1 σ H1 _ I1 q1) fun iv s2 ⟨y, H2, I2, ry, q2⟩ =>
    Calls.spliced_cons (thn (hf.run pins s2 σ H2 _ I2 q2) fun fv s3 ⟨z, H3, I3, rz, b, d, xs, kvs, F, ey, hF, e, p, hb, hd, hl, qs, qn⟩ => Calls.spliced_nil ?_))))
  subst ey
  obtain rfl : iv = Value.ref b := ry
  obtain ⟨ys, pr, dd, hsys, hz⟩ := dko_of I3 hF e p
  refine call_setdefault_heap (hsz := by rw [← Paired.length pr]; exact hz) (room_nest hu) ⟨nested_is I3 d _ _ (dp_mono hF _ _ hb) rfl hd.2.1, hd.2.2⟩ hsys dd (fun pv hp => ?_) fun hn h' hm' sb => ?_
  · rcases find_pair (f := fun x => decide (x.1 = keyOf d)) (g := fun x => decide (x.1 = keyOf d)) (fun a b h => by rw [h.1]) pr with ⟨_, h2⟩ | ⟨x, y, h1, h2, h3⟩
    · unfold atKey at hp
      rw [h2] at hp
      cases hp
    · unfold atKey at hp
      rw [h2] at hp
      cases hp
      exact ⟨x.2.2, H3, I3.tok _, h3.2.2, qs _ (by rw [h1]; rfl)⟩
  · refine ⟨z, _, dn_write I3 e pr hsys rz hl hm' sb, rz, qn ?_⟩
    rcases find_pair (f := fun x => decide (x.1 = keyOf d)) (g := fun x => decide (x.1 = keyOf d)) (fun a b h => by rw [h.1]) pr with ⟨h1, _⟩ | ⟨x, y, h1, h2, h3⟩
    · exact h1
    · unfold atKey at hn
      rw [h2] at hn
      cases hn
/-! ### over plain data -/
section
variable {Y : Ct} {γ γ' : List S} {M M1 M2 M3 : MM} {s s1 s2 s3 : S} {ss : List S} {a b c o e : Expr} {es : List Expr} {pos p p2 tp : Pos} {i n : Int} {P : Po} {Q : S → MM → Prop} {x : Str} {k kk : Nat} {q : Addr} {kvs : List (PyData × S)} {d : PyData}
theorem n_dkt0 : EN Y (.Dict [] [] pos) γ M (.dkt Y.X.w []) M :=
  ⟨PE.imp pe_dnewN fun σ H Q ⟨F, r, qq, ex⟩ => fun p hp => qq F p _ (Same.refl F) ⟨r.hm.newM hp (m := .dkt Y.X.w []) ⟨[], upd_same, .nil⟩, r.sl⟩⟩
/-- d[k] = e -/
theorem s_nput {w : World} (hw : w = Y.X.w) (hr : Room kk Y.X.A) (he : EV Y e γ M s M1) (ho : EV Y o γ M1 (.ob q) M2) (ha : EV Y a γ M2 (.d d) M3) (hk : M3[k]? = some (q, .dkt w kvs)) (hd : KdT d) (hl : kvs.length < 100000) (kq : P.nx γ (M3.set k (q, .dkt w (putD kvs d s))))
    (hs : swapsWith e (some (.Subscript o a tp)) pos.line Y.X.env = pure false := by rfl) : ST Y (.Assign [.Subscript o a tp] e pos) γ M P :=
  ⟨PS.imp (ps_nput (by have := hr.un; omega) ho.pe ha.pe he.pe hs) fun D σ H ⟨F, r, qq, ex⟩ => ⟨F, r, fun F1 v H1 e1 r1 v1 => ⟨F1, r1, fun F2 v2 H2 e2 r2 sv2 => ⟨F2, r2, fun F3 v3 H3 e3 r3 sv3 => (by
    subst hw
    cases sv2
    obtain ⟨_, xs, g1, g2⟩ := r3.hm.mo _ _ (List.mem_of_getElem? hk)
    obtain ⟨⟨ds, rfl⟩, hd2⟩ := hd
    have sv3' : Dp Y.X.K F3 v3 (.tuple ds) := sv3
    cases v3 with
    | ref b3 =>
      have hM := r3.hm.setM hk (o := DKO Y.X.w q (putN xs (keyOf (.tuple ds)) b3 v)) (m := .dkt Y.X.w (putD kvs (.tuple ds) s)) ⟨_, upd_same, kn_put g2 sv3' ⟨⟨ds, rfl⟩, hd2⟩ ((v1.mono e2).mono e3)⟩
      exact ⟨q, b3, .tuple ds, xs, kvs, F3, rfl, rfl, r3.hm.fh, g1, g2, sv3', ⟨⟨ds, rfl⟩, hd2⟩, by rw [pair_len g2]; exact Nat.lt_of_lt_of_le hl (by decide), qq.nx γ _ F3 σ _ ((e1.trans e2).trans e3) ⟨hM, r3.sl⟩ kq⟩
    | _ => cases sv3'), (ex.mono e1).mono e2⟩, ex.mono e1⟩, ex⟩⟩
theorem e_lenN {w : World} (hw : w = Y.X.w) (hg : Gl Y.X "len" := by rfl) (hm : Y.X.mg "len" = none) (ha : EA Y (e :: es) γ M [.ob q] M1) (hk : M1[k]? = some (q, .dkt w kvs))
    (he : starEach (e :: es) Y.X.env = (false, eval e Y.X.env) :: starEach es Y.X.env := by rfl) (hpl : (backTo pos (starEach es Y.X.env)).any (·.1) = false := by rfl) : EV Y (.Call (.Name "len" p) (e :: es) [] pos) γ M (.d (.int (kvs.length : Nat))) M1 :=
  e_callB call_lenN hg hm PySem.boot_len ha (he := he) (hpl := hpl) (hr := ⟨fun F vs H Q hm' g qq => by
    subst hw
    obtain ⟨v, rfl, g0⟩ := pair_one g
    cases g0
    obtain ⟨_, xs, g1, g2⟩ := hm'.mo _ _ (List.mem_of_getElem? hk)
    refine ⟨q, xs, kvs, F, rfl, hm'.fh, g1, g2, ?_⟩
    rw [pair_len g2]
    exact qq F _ H (Same.refl F) hm' (.int _)⟩)
/-- list(d): its keys -/
theorem n_listN {w : World} (hw : w = Y.X.w) (hc : Y.X.calm = true) (hg : Gl Y.X "list" := by rfl) (hm : Y.X.mg "list" = none) (ha : EA Y (e :: es) γ M [.ob q] M1) (hk : M1[k]? = some (q, .dkt w kvs))
    (he : starEach (e :: es) Y.X.env = (false, eval e Y.X.env) :: starEach es Y.X.env := by rfl) (hpl : (backTo pos (starEach es Y.X.env)).any (·.1) = false := by rfl) : EN Y (.Call (.Name "list" p) (e :: es) [] pos) γ M (.lst (kvs.map fun z => S.d z.1)) M1 :=
  ⟨PE.imp (pe_callTy (call_listN hc) hg hm (by decide +kernel) ha.pa (by decide) (by decide) he hpl) fun σ H Q ⟨F, r, qq, ex⟩ => ⟨F, r, fun F1 vs H1 e1 r1 v1 => by
    subst hw
    obtain ⟨v, rfl, g0⟩ := pair_one v1
    cases g0
    obtain ⟨_, xs, g1, g2⟩ := r1.hm.mo _ _ (List.mem_of_getElem? hk)
    refine ⟨q, xs, kvs, F1, rfl, r1.hm.fh, g1, g2, fun l hl => ?_⟩
    have h3 := r1.hm.newM hl (o := .lst (xs.map fun x => V.ref x.2.1)) (m := .lst (kvs.map fun z => S.d z.1)) ⟨_, upd_same, map_pair (fun x y h => h.2.1) g2⟩
    exact qq F1 l _ e1 ⟨h3, r1.sl⟩, ex⟩⟩
/-- sorted(data): a new list -/
theorem n_sortD {ds : List PyData} (hr : Room kk Y.X.A) (hg : Gl Y.X "sorted" := by rfl) (hm : Y.X.mg "sorted" = none) (ha : EA Y (e :: es) γ M [s] M1) (hv : VL M1 s (ds.map S.d)) (hal : PySem.W.AllAlike ds) (hso : PySem.W.Sortable ds) (hdp : ∀ d ∈ ds, d.depth ≤ 60)
    (he : starEach (e :: es) Y.X.env = (false, eval e Y.X.env) :: starEach es Y.X.env := by rfl) (hpl : (backTo pos (starEach es Y.X.env)).any (·.1) = false := by rfl) : EN Y (.Call (.Name "sorted" p) (e :: es) [] pos) γ M (.lst ((srtD ds).map S.d)) M1 :=
  ⟨PE.imp (pe_callB (cr_sortD (by have := hr.un; omega)) hg hm (by decide +kernel) ha.pa (by decide) (by decide) he hpl) fun σ H Q ⟨F, r, qq, ex⟩ => ⟨F, r, fun F1 vs H1 e1 r1 v1 => by
    obtain ⟨v, rfl, g0⟩ := pair_one v1
    obtain ⟨a, ws, rfl, h1, h2⟩ := hv.ok r1.hm g0
    refine ⟨a, ws, ds, F1, rfl, r1.hm.fh, h1, all_d h2, hal, hso, hdp, fun l out hl ho => ?_⟩
    have h3 := r1.hm.newM hl (o := .lst out) (m := .lst ((srtD ds).map S.d)) ⟨_, upd_same, d_all ho⟩
    exact qq F1 l _ e1 ⟨h3, r1.sl⟩, ex⟩⟩
/-- {k: v, k: v} -/
theorem n_disp2 {k1 k2 v1 v2 : Expr} {d1 d2 : PyData} {z1 z2 : S} (hr : Room kk Y.X.A) (h1 : ∀ M, EV Y k1 γ M (.d d1) M) (h2 : ∀ M, EV Y v1 γ M z1 M) (h3 : ∀ M, EV Y k2 γ M (.d d2) M) (h4 : ∀ M, EV Y v2 γ M z2 M) (kd1 : KdT d1) (kd2 : KdT d2) :
    EN Y (.Dict [some k1, some k2] [v1, v2] pos) γ M (.dkt Y.X.w (putD (putD [] d1 z1) d2 z2)) M :=
  ⟨PE.imp (pe_dispN (by have := hr.un; omega) (pps_cons uE_ok uE_ok (pps_cons uE_ok uE_ok pps_nil)) rfl rfl (fun z => nomatch z) (show 2 ≤ 15 by decide)) fun σ H Q ⟨F, r, qq, ex⟩ => by
    intro p hp
    have hN := r.hm.newM hp (o := DKO Y.X.w p []) (m := .dkt Y.X.w []) ⟨[], upd_same, .nil⟩
    have hk : (M ++ [(p, MO.dkt Y.X.w [])])[M.length]? = some (p, .dkt Y.X.w []) := by simp
    refine ⟨_, (h1 (M ++ [(p, MO.dkt Y.X.w [])])).pe, F, ⟨hN, r.sl⟩, fun F1 x1 H1 e1 r1 s1 => ⟨_, (h2 _).pe, F1, r1, fun F2 y1 H2 e2 r2 s2 => ⟨_, (h3 _).pe, F2, r2, fun F3 x2 H3 e3 r3 s3 => ⟨_, (h4 _).pe, F3, r3, fun F4 y2 H4 e4 r4 s4 => ?_, ((ex.mono e1).mono e2).mono e3⟩, (ex.mono e1).mono e2⟩, ex.mono e1⟩, ex⟩
    obtain ⟨_, xs0, k1, k2⟩ := r4.hm.mo _ _ (List.mem_of_getElem? hk)
    cases k2
    obtain ⟨⟨ds1, rfl⟩, hd1⟩ := kd1
    obtain ⟨⟨ds2, rfl⟩, hd2⟩ := kd2
    have t1 : Dp Y.X.K F4 x1 (.tuple ds1) := dp_mono ((e2.trans e3).trans e4) _ _ s1
    have t2 : Dp Y.X.K F4 x2 (.tuple ds2) := dp_mono e4 _ _ s3
    cases x1 with
    | ref a1 =>
      cases x2 with
      | ref a2 =>
        refine ⟨k1, [(a1, .tuple ds1, y1), (a2, .tuple ds2, y2)], F4, rfl, r4.hm.fh, fun z hz => ?_, show 2 ≤ 15 by decide, ?_⟩
        · rcases List.mem_cons.mp hz with rfl | hz
          · exact ⟨t1, ⟨ds1, rfl⟩, hd1⟩
          · rw [List.mem_singleton.mp hz]
            exact ⟨t2, ⟨ds2, rfl⟩, hd2⟩
        · have hM := r4.hm.setM hk (o := DKO Y.X.w p (putsN [(a1, .tuple ds1, y1), (a2, .tuple ds2, y2)])) (m := .dkt Y.X.w (putD (putD [] (.tuple ds1) z1) (.tuple ds2) z2)) ⟨_, upd_same, kn_put (kn_put .nil t1 ⟨⟨ds1, rfl⟩, hd1⟩ (((s2.mono e3).mono e4))) t2 ⟨⟨ds2, rfl⟩, hd2⟩ s4⟩
          rw [show (M ++ [(p, MO.dkt Y.X.w [])]).set M.length (p, MO.dkt Y.X.w (putD (putD [] (.tuple ds1) z1) (.tuple ds2) z2)) = M ++ [(p, MO.dkt Y.X.w (putD (putD [] (.tuple ds1) z1) (.tuple ds2) z2))] by simp] at hM
          exact qq F4 _ _ (((e1.trans e2).trans e3).trans e4) ⟨hM, r4.sl⟩
      | _ => cases t2
    | _ => cases t1⟩
end
end Mi

/-! Mi: the values of a dict with nested keys, walked. -/
namespace Mi
open PySem PySem.Spec PyProof.Rows L2
theorem Inv.frzN {X : Cx} {pins : List (Addr × Obj)} {σ : L2.St} {H : Hp} {s : Shared} {d : Addr} {o : Obj} {w : World} {xs : List NV} (I : Inv X pins σ H s) (h : H d = some (.frz o (DKO w d xs))) :
    (d == sysModules) = false ∧ s.heap.get? d = some o ∧ o.ExactDict ∧ ∃ (es : Array DictEntry) (ep : Nat), o.data = .dict es ep ∧ es.size = xs.length ∧ ∀ (i : Nat) (x : NV), xs[i]? = some x → ∃ en : DictEntry, es[i]? = some en ∧ RelV x.2.2 en.val := by
  obtain ⟨hd, ⟨z, hs, ys, pr, o', es, ep, ho, hx, hdt, he, _⟩, _⟩ := I.hok d _ h
  rw [hd] at ho
  cases ho
  have l1 : es.size = ys.length := by
    have := congrArg List.length he
    rw [List.length_map, Array.length_toList] at this
    exact this
  have l2 : xs.length = ys.length := Paired.length pr
  refine ⟨hs, hd, hx, es, ep, hdt, by omega, fun i x e => ?_⟩
  obtain ⟨y, hy, _, _, e3⟩ := paired_get pr e
  refine ⟨⟨y.1.hash w, .ref y.2.1, y.2.2⟩, ?_, e3⟩
  rw [← Array.getElem?_toList, he, List.getElem?_map, hy]
  rfl
def Itvn (w : World) (d : Addr) (o : Obj) (xs : List NV) : It :=
  ⟨fun i H => H d = some (.frz o (DKO w d xs)) ∧ i < xs.length, fun i H v H' => H' = H ∧ ∃ x, xs[i]? = some x ∧ v = x.2.2, fun i H => H d = some (.frz o (DKO w d xs)) ∧ xs.length ≤ i⟩
theorem turn_valsN {P : Program} {w : World} {K : PySem.W.Frag} {tg : Expr} {d : Addr} {o : Obj} {es : Array DictEntry} {ep : Nat} {w' : World} {xs : List NV} (it : Addr) (hod : o.data = .dict es ep) : Turn P w K tg (Itvn w' d o xs) [it] it (fun i h => h.IsValIter it d i es.size ep) where
  mem := by simp
  obj := fun i h st b hb => by
    have e : b = it := by simpa using hb
    subst e
    obtain ⟨oi, e, c, dd⟩ := st
    exact ⟨oi, e, fun v z => by rw [dd] at z; cases z⟩
  keep := fun i h h' st k => st.at fun oi e => k it (by simp) oi e
  item := by
    intro X hP hw hK hc i pins s σ H E I hf st hg
    subst hP hw hK
    obtain ⟨hd, hi⟩ := hg
    obtain ⟨f0, f1, f2, f3, f4, f5⟩ := hf it (by simp)
    obtain ⟨hs, hgd, hx, es', ep', hdt, hsz, ent⟩ := Inv.frzN I hd
    obtain ⟨rfl, rfl⟩ := dict_ep hod hdt
    obtain ⟨en, hen, hr⟩ := ent i xs[i] (List.getElem?_eq_getElem hi)
    have hlt : i < es'.size := by omega
    have hen2 : es'[i] = en := by
      rw [Array.getElem?_eq_getElem hlt] at hen
      exact Option.some.inj hen
    refine wpAny_pyNext_values_item_raw st ⟨o, hgd, hx, hdt⟩ hlt fun h' st' sb => ?_
    have I1 : Inv X pins σ H { s with heap := h' } := I.turned (t' := s.toks) (fun b ob hb e => (sb.2 b hb).trans e) f0 f1 f3 f4 f5
    obtain ⟨oi, e, c, dd⟩ := id st'
    exact ⟨_, rfl, go_of (s := { s with heap := h' }) e c dd (by decide) ⟨xs[i].2.2, H, I1, by rw [hen2]; exact hr, ⟨rfl, xs[i], List.getElem?_eq_getElem hi, rfl⟩, st', fun b hb => (hf b hb).1⟩⟩
  done := by
    intro X hP hw hK hc i pins s σ H E I hf st hg
    subst hP hw hK
    obtain ⟨hd, hi⟩ := hg
    obtain ⟨f0, f1, f2, f3, f4, f5⟩ := hf it (by simp)
    obtain ⟨hs, hgd, hx, es', ep', hdt, hsz, ent⟩ := Inv.frzN I hd
    obtain ⟨rfl, rfl⟩ := dict_ep hod hdt
    exact wpAny_pyNext_values_end_raw (I.ok.hd hc) st ⟨o, hgd, hx, hdt⟩ (by omega) fun h' eb => ⟨rfl, I.turned (t' := s.toks) (fun b ob hb e => eb b ob hb e) f0 f1 f3 f4 f5⟩
  self := fun A i s Q E st h => wpAny_pyIter_valiter st h
def iValsN (w : World) (td : TE) : TI := fun σ H R => td σ H fun x H1 => ∃ d xs, x = .ref d ∧ H1 d = some (DKO w d xs) ∧ ∀ od, R (Itvn w d od xs) (upd H1 d (.frz od (DKO w d xs)))
theorem pi_valuesN {X : Cx} {tg e : Expr} {td : TE} {apos cpos : Pos} {w : World} (he : PE X e td) (hbase : attributeBase e "values" X.env (eval e X.env) = eval e X.env := by rfl) (hline : (apos.endLine == cpos.line) = true := by rfl) : PI X tg (.Call (.Attribute e "values" apos) [] [] cpos) (iValsN w td) := by
  refine ⟨fun pins s σ H R I h => ?_⟩
  refine wpAny_Call_method (T := "dict") (id := "dict.values") hbase rfl hline F.plainAttrs_dict F.slot_dict_values F.type_dict_values (thn (he.run pins s σ H _ I h) fun u s1 ⟨x, H1, I0, rx, d, xs, ex, hd0, q⟩ => ?_)
  subst ex
  obtain rfl : u = Value.ref d := rx
  obtain ⟨o, I1⟩ := Inv.lock I0 hd0 True.intro
  have q := q o
  have hd : (upd H1 d (.frz o (DKO w d xs))) d = some (.frz o (DKO w d xs)) := upd_same
  generalize upd H1 d (.frz o (DKO w d xs)) = H2 at hd I1 q
  obtain ⟨hs, hgd, hx, es, ep, hdt, hsz, ent⟩ := Inv.frzN I1 hd
  have hm : s1.heap.DictRaw d es ep := ⟨o, hgd, hx, hdt⟩
  refine ⟨hm.typeIs, fun b q => by cases q; exact ⟨o, hgd, hx.2.1⟩, ?_⟩
  have I2 : Inv X pins σ H2 { s1 with heap := s1.heap.push { cls := .type "dict_values", data := .fields #[.ref d] } } := I1.kept (t' := s1.toks) fun b ob q => Heap.get?_push_of_some _ q
  have fin : wpAny (model X.prog X.w) X.A (pyIter (.ref s1.heap.objs.size)) (PIE X pins σ tg R) X.xe { s1 with heap := s1.heap.push { cls := .type "dict_values", data := .fields #[.ref d] } } := by
    exact wpAny_pyIter_values_raw (d := d) ⟨_, Heap.get?_push_size _ rfl, rfl, rfl⟩ (hm.at fun o e => Heap.get?_push_of_some _ e) (pi_one (tk := s1.toks) I2 _ (turn_valsN _ hdt) ⟨_, Heap.get?_push_size _ rfl, rfl, rfl⟩ q)
  show wpAny _ _ (callWith cpos (.builtin "dict.values") [.ref d] [] []) _ X.xe s1
  exact method_meetsIn F.slot_dict_values F.entry_dict_values rfl (PySem.evalArgs_none ⟨rfl, hm.typeIs, F.args_dict_values_1 _, _, meets_dict_values_raw d hs, ⟨es, ep, hm⟩, fin⟩)
/-- a dict that changes no more -/
theorem HM.lockN {K : PySem.W.Frag} {F H : Hp} {M : MM} {k : Nat} {D : Addr} {w : World} {kvs : List (PyData × S)} {o : HO} (h : HM K F M H) (hk : M[k]? = some (D, .dkt w kvs)) : Same F (upd F D o) ∧ HM K (upd F D o) (M.eraseIdx k) (upd H D o) := by
  have hp := perm_out hk
  have h' := h.perm hp
  obtain ⟨hF, _⟩ := h'.mo D _ (List.mem_append_right _ List.mem_cons_self)
  have e : Same F (upd F D o) := fun b u q => by rw [upd_ne (ne_of_none q hF)]; exact q
  have nd := h'.nd
  rw [List.map_append] at nd
  obtain ⟨n1, _, n3⟩ := List.nodup_append.mp nd
  refine ⟨e, fun b u q => ?_, fun a o' m => ?_, n1⟩
  · by_cases hb : b = D
    · subst hb; rw [upd_same] at q ⊢; exact q
    · rw [upd_ne hb] at q ⊢; exact h'.fh b u q
  · obtain ⟨h1, h2⟩ := h'.mo a o' (List.mem_append_left _ m)
    have na : a ≠ D := n3 a (List.mem_map.mpr ⟨_, m, rfl⟩) D List.mem_cons_self
    exact ⟨by rw [upd_ne na]; exact h1, h2.mono e (upd_ne na)⟩
section
variable {Y : Ct} {γ γ' : List S} {M M1 M2 M3 : MM} {s s1 s2 s3 : S} {ss : List S} {a b c o e f tg : Expr} {es : List Expr} {pos p p2 tp apos : Pos} {i n : Int} {P : Po} {Q : S → MM → Prop} {x : Str} {k kk : Nat} {q : Addr} {kvs : List (PyData × S)} {d : PyData}
/-- for .. in e.values(), e a dict that changes no more -/
theorem i_valuesN {w : World} {xs : List S} (h : EQ Y e γ M fun s M2 => ∃ (D : Addr) (k : Nat) (kvs : List (PyData × S)), s = .ob D ∧ M2[k]? = some (D, .dkt w kvs) ∧ M2.eraseIdx k = M1 ∧ kvs.map (·.2) = xs)
    (hbase : attributeBase e "values" Y.X.env (eval e Y.X.env) = eval e Y.X.env := by rfl) (hline : (apos.endLine == pos.line) = true := by rfl) : EI Y tg (.Call (.Attribute e "values" apos) [] [] pos) γ M xs (fun _ => True) M1 :=
  ⟨_, pi_valuesN (w := w) h.pe hbase hline, fun F σ H R r ex kq => ⟨F, r, fun F1 v s M2 H1 e1 r1 sv ⟨D, k, kvs, hs, hk, hM, hx⟩ => by
    subst hs hx hM
    cases sv
    obtain ⟨_, ys, g1, g2⟩ := r1.hm.mo _ _ (List.mem_of_getElem? hk)
    refine ⟨D, ys, rfl, g1, fun od => ?_⟩
    obtain ⟨e2, hm2⟩ := r1.hm.lockN (o := .frz od (DKO w D ys)) hk
    refine kq (upd F1 D (.frz od (DKO w D ys))) _ _ (e1.trans e2) (r1.ext e2 hm2) ⟨fun i H' F' M' e3 hm3 _ hi => ?_, fun i H' v H'' x F' γ' M' σ' hx e3 r3 _ hy => ?_, fun i H' F' M' e3 hm3 _ hi => ?_⟩
    · rw [List.length_map] at hi
      exact ⟨hm3.fh _ _ (e3 _ _ upd_same), by rw [pair_len g2]; exact hi⟩
    · obtain ⟨rfl, y, hy1, rfl⟩ := hy
      obtain ⟨z, hz, _, _, _, hz4⟩ := paired_get g2 hy1
      rw [List.getElem?_map, hz] at hx
      cases Option.some.inj hx
      exact ⟨F', Same.refl F', r3, (hz4.mono e2).mono e3⟩
    · rw [List.length_map] at hi
      exact ⟨hm3.fh _ _ (e3 _ _ upd_same), by rw [pair_len g2]; exact hi⟩, ex⟩⟩
/-- o.append(e), o told by no one term -/
theorem q_appendX (ho : EQ Y o γ M fun s M1 => ∃ (q : Addr) (k : Nat) (xs : List S), s = .ob q ∧ M1[k]? = some (q, MO.lst xs) ∧ xs.length < 100000 ∧ Q (.d .none) (M1.set k (q, MO.lst (xs ++ [s1])))) (he : ∀ M1, EV Y e γ M1 s1 M1)
    (hbase : attributeBase o "append" Y.X.env (eval o Y.X.env) = eval o Y.X.env := by rfl)
    (hfew : ((backTo pos (starEach [e] Y.X.env)).all (fun x => !x.1) && (backToKw pos (keywordEach [] Y.X.env)).all (fun x => x.1.isSome)
      && decide ([e].length + ([] : List Keyword).length + (if ([] : List Keyword).isEmpty then 0 else 1) < 30)) = true := by rfl)
    (hline : (apos.endLine == pos.line) = true := by rfl) (hs : starEach [e] Y.X.env = (false, eval e Y.X.env) :: starEach [] Y.X.env := by rfl) (hplain : (backTo pos (starEach [] Y.X.env)).any (·.1) = false := by rfl) :
    EQ Y (.Call (.Attribute o "append" apos) [e] [] pos) γ M Q :=
  ⟨PE.imp (pe_bm PySem.F.plainAttrs_list PySem.F.slot_list_append PySem.F.type_list_append mt_append ho.pe (pa_cons uE_ok pa_nil hs) hbase hfew hline hs hplain) fun σ H R ⟨F, r, qq, ex⟩ => ⟨F, r, fun F1 v s M1 H1 e1 r1 v1 ⟨q, k, xs, hs1, hk, hl, hQ⟩ => by
    subst hs1
    cases v1
    obtain ⟨_, ws, g1, _⟩ := r1.hm.mo _ _ (List.mem_of_getElem? hk)
    refine ⟨Or.inl ⟨rfl, ws, .of g1⟩, _, (he M1).pe, F1, r1, fun F2 v H2 e2 r2 sv => ?_, ex.mono e1⟩
    obtain ⟨_, us, f1, f2⟩ := r2.hm.mo _ _ (List.mem_of_getElem? hk)
    refine ⟨q, us, v, rfl, rfl, f1, by rw [pair_len f2]; exact Nat.lt_of_lt_of_le hl (by decide), ?_⟩
    have hM := r2.hm.setM hk (o := .lst (us ++ [v])) (m := .lst (xs ++ [s1])) ⟨_, upd_same, pair_app f2 (.cons sv .nil)⟩
    exact qq F2 .non (.d .none) _ _ (e1.trans e2) ⟨hM, r2.sl⟩ Dp.non hQ, ex⟩⟩
/-- d.setdefault(k, []) -/
theorem q_setd {w : World} {N2 N3 : MM} (hw : w = Y.X.w) (hr : Room kk Y.X.A) (ho : EV Y o γ M (.ob q) M1) (hk1 : ∃ (k1 : Nat) (kvs1 : List (PyData × S)), M1[k1]? = some (q, .dkt w kvs1)) (he : EV Y e γ M1 (.d d) N2) (hf : EN Y f γ N2 (.lst []) N3) (hd : KdT d)
    (h : ∀ l, ∃ (k : Nat) (kvs : List (PyData × S)), (N3 ++ [(l, MO.lst [])])[k]? = some (q, .dkt w kvs) ∧ kvs.length < 100000 ∧ (∀ z, valN kvs d = some z → Q z (N3 ++ [(l, MO.lst [])])) ∧ (valN kvs d = none → Q (.ob l) ((N3 ++ [(l, MO.lst [])]).set k (q, .dkt w (putD kvs d (.ob l))))))
    (hbase : attributeBase o "setdefault" Y.X.env (eval o Y.X.env) = eval o Y.X.env := by rfl)
    (hfew : ((backTo pos (starEach [e, f] Y.X.env)).all (fun x => !x.1) && (backToKw pos (keywordEach [] Y.X.env)).all (fun x => x.1.isSome)
      && decide (([e, f] : List Expr).length + ([] : List Keyword).length + (if ([] : List Keyword).isEmpty then 0 else 1) < 30)) = true := by rfl)
    (hline : (apos.endLine == pos.line) = true := by rfl) (htr : backTo pos (starEach [e, f] Y.X.env) = [(false, eval e Y.X.env), (false, eval f Y.X.env)] := by rfl) : EQ Y (.Call (.Attribute o "setdefault" apos) [e, f] [] pos) γ M Q :=
  ⟨PE.imp (pe_setd (by have := hr.un; omega) ho.pe he.pe hf.pe ⟨hbase, hfew, hline, htr⟩) fun σ H R ⟨F, r, qq, ex⟩ => ⟨F, r, fun F1 v H1 e1 r1 v1 => (by
    subst hw
    cases v1
    obtain ⟨k1, kvs1, hk1⟩ := hk1
    obtain ⟨_, xs1, g1, g2⟩ := r1.hm.mo _ _ (List.mem_of_getElem? hk1)
    refine ⟨q, rfl, ⟨xs1, kvs1, F1, r1.hm.fh, g1, g2⟩, F1, r1, fun F2 y H2 e2 r2 v2 => ⟨F2, r2, fun F3 l H3 e3 r3 => ?_, (ex.mono e1).mono e2⟩, ex.mono e1⟩
    obtain ⟨k, kvs, hk, hl, hy, hn⟩ := h l
    obtain ⟨⟨ds, rfl⟩, hd2⟩ := hd
    have v2' : Dp Y.X.K F3 y (.tuple ds) := dp_mono e3 _ _ v2
    obtain ⟨_, xs, f1, f2⟩ := r3.hm.mo _ _ (List.mem_of_getElem? hk)
    cases y with
    | ref b =>
      have hfp := find_pair (f := fun x : NV => decide (x.1 = keyOf (.tuple ds))) (g := fun x : PyData × S => decide (keyOf x.1 = keyOf (.tuple ds))) (fun a b h => by rw [h.1]) f2
      refine ⟨b, .tuple ds, xs, kvs, F3, rfl, r3.hm.fh, f1, f2, v2', ⟨⟨ds, rfl⟩, hd2⟩, by rw [pair_len f2]; exact Nat.lt_of_lt_of_le hl (by decide), fun v hv => ?_, fun hv => ?_⟩
      · rcases hfp with ⟨h1, _⟩ | ⟨x, p, h1, h2, h3⟩
        · rw [h1] at hv; cases hv
        · rw [h1] at hv
          cases Option.some.inj hv
          exact qq F3 _ p.2 _ H3 ((e1.trans e2).trans e3) r3 h3.2.2.2 (hy _ (by unfold valN; rw [h2]; rfl))
      · rcases hfp with ⟨_, h2⟩ | ⟨x, p, h1, h2, h3⟩
        · have hM := r3.hm.setM hk (o := DKO Y.X.w q (putN xs (keyOf (.tuple ds)) b (.ref l))) (m := .dkt Y.X.w (putD kvs (.tuple ds) (.ob l))) ⟨_, upd_same, kn_put f2 v2' ⟨⟨ds, rfl⟩, hd2⟩ rfl⟩
          exact qq F3 (.ref l) (.ob l) _ _ ((e1.trans e2).trans e3) ⟨hM, r3.sl⟩ rfl (hn (by unfold valN; rw [h2]; rfl))
        · rw [h1] at hv; cases hv
    | _ => cases v2'), ex⟩⟩
theorem pair_er {α β : Type} {R : α → β → Prop} : ∀ {as : List α} {bs : List β} (j : Nat), Paired R as bs → Paired R (as.eraseIdx j) (bs.eraseIdx j)
  | _, _, _, .nil => .nil
  | _, _, 0, .cons r t => t
  | _, _, j + 1, .cons r t => .cons r (pair_er j t)
/-- o.pop(i) -/
theorem q_popAt {j : Nat} {xs : List S} {N2 : MM} (ho : EV Y o γ M (.ob q) M1) (hk1 : ∃ (k1 : Nat) (ys : List S), M1[k1]? = some (q, MO.lst ys)) (he : EV Y e γ M1 (.d (.int (j : Nat))) N2) (hk : N2[k]? = some (q, .lst xs)) (hj : xs[j]? = some s) (hl : xs.length ≤ 100000) (hQ : Q s (N2.set k (q, .lst (xs.eraseIdx j))))
    (hbase : attributeBase o "pop" Y.X.env (eval o Y.X.env) = eval o Y.X.env := by rfl)
    (hfew : ((backTo pos (starEach [e] Y.X.env)).all (fun x => !x.1) && (backToKw pos (keywordEach [] Y.X.env)).all (fun x => x.1.isSome)
      && decide ([e].length + ([] : List Keyword).length + (if ([] : List Keyword).isEmpty then 0 else 1) < 30)) = true := by rfl)
    (hline : (apos.endLine == pos.line) = true := by rfl) (hs : starEach [e] Y.X.env = (false, eval e Y.X.env) :: starEach [] Y.X.env := by rfl) (hplain : (backTo pos (starEach [] Y.X.env)).any (·.1) = false := by rfl) :
    EQ Y (.Call (.Attribute o "pop" apos) [e] [] pos) γ M Q :=
  ⟨PE.imp (pe_bm PySem.F.plainAttrs_list PySem.F.slot_list_pop PySem.F.type_list_pop mt_popAt ho.pe (pa_cons he.pe pa_nil hs) hbase hfew hline hs hplain) fun σ H R ⟨F, r, qq, ex⟩ => ⟨F, r, fun F1 v H1 e1 r1 v1 => by
    cases v1
    obtain ⟨k1, ys, hk1⟩ := hk1
    obtain ⟨_, ws, g1, _⟩ := r1.hm.mo _ _ (List.mem_of_getElem? hk1)
    refine ⟨Or.inl ⟨rfl, ws, .of g1⟩, F1, r1, fun F2 v H2 e2 r2 sv => ?_, ex.mono e1⟩
    cases sv
    obtain ⟨_, us, f1, f2⟩ := r2.hm.mo _ _ (List.mem_of_getElem? hk)
    have hlen := pair_len f2
    have hjl := (List.getElem?_eq_some_iff.mp hj).1
    obtain ⟨y, hy1, hy2⟩ : ∃ y, us[j]? = some y ∧ SR Y.X.K F2 y s := by
      have hju : us[j]? = some (us[j]'(by omega)) := List.getElem?_eq_getElem (by omega)
      obtain ⟨b, hb, hr⟩ := paired_get f2 hju
      rw [hj] at hb
      cases Option.some.inj hb
      exact ⟨_, hju, hr⟩
    refine ⟨q, us, (j : Int), j, y, rfl, rfl, f1, by omega, by omega, ?_, hy1, ?_⟩
    · unfold seqIndex?
      simp
      omega
    · have hM := r2.hm.setM hk (o := .lst (us.eraseIdx j)) (m := .lst (xs.eraseIdx j)) ⟨_, upd_same, pair_er j f2⟩
      exact qq F2 y s _ _ (e1.trans e2) ⟨hM, r2.sl⟩ hy2 hQ, ex⟩⟩
theorem HM.reM {K : PySem.W.Frag} {F H : Hp} {M : MM} {k : Nat} {p : Addr} {w : World} {xs : List NV} {kvs kvs' : List (PyData × S)} (h : HM K F M H) (hk : M[k]? = some (p, .dkt w kvs)) (h1 : H p = some (DKO w p xs)) (h2 : KN K F xs kvs') : HM K F (M.set k (p, .dkt w kvs')) H := by
  have := h.setM hk (o := DKO w p xs) (m := .dkt w kvs') ⟨xs, upd_same, h2⟩
  have e : upd H p (DKO w p xs) = H := by
    funext b
    by_cases hb : b = p
    · rw [hb, upd_same, h1]
    · rw [upd_ne hb]
  rw [e] at this
  exact this
def dgX (D : Addr) (w : World) (fs : List (PyData × List PyData)) (gs : List (Addr × PyData × List PyData)) : MM :=
  (D, .dkt w (fs.map (fun f => (f.1, S.d (.list f.2))) ++ gs.map fun g => (g.2.1, S.ob g.1))) :: gs.map fun g => (g.1, MO.lst (g.2.2.map S.d))
theorem kn_frz {K : PySem.W.Frag} {F F' : Hp} (e : Same F F') {l : Addr} {ds : List PyData} (hl : Dp K F' (.ref l) (.list ds)) {key : PyData} {c : List (PyData × S)} : ∀ {a : List (PyData × S)} {xs : List NV}, KN K F xs (a ++ (key, S.ob l) :: c) → KN K F' xs (a ++ (key, S.d (.list ds)) :: c)
  | [], _, .cons ⟨h1, h2, h3, h4⟩ t => by
    have h4' : _ = V.ref l := h4
    refine .cons ⟨h1, dp_mono e _ _ h2, h3, ?_⟩ (L2.Paired.mapP t fun p q z => ⟨z.1, dp_mono e _ _ z.2.1, z.2.2.1, z.2.2.2.mono e⟩)
    show Dp K F' _ _
    rw [h4']
    exact hl
  | y :: a, _, .cons ⟨h1, h2, h3, h4⟩ t => .cons ⟨h1, dp_mono e _ _ h2, h3, h4.mono e⟩ (kn_frz e hl t)
/-- the lists of such a dict change no more -/
theorem b_frzD {sts : List Stmt} {M0 : MM} {D : Addr} {w : World} : ∀ (gs : List (Addr × PyData × List PyData)) (fs : List (PyData × List PyData)), BL Y sts γ (M0 ++ [(D, .dkt w ((fs ++ gs.map (·.2)).map fun f => (f.1, S.d (.list f.2))))]) P → BL Y sts γ (M0 ++ dgX D w fs gs) P
  | [], fs, h => by
    have e : (fs ++ ([] : List (Addr × PyData × List PyData)).map (·.2)).map (fun f => (f.1, S.d (.list f.2))) = fs.map (fun f => (f.1, S.d (.list f.2))) ++ ([] : List (Addr × PyData × List PyData)).map fun g => (g.2.1, S.ob g.1) := by simp
    rw [e] at h
    exact h
  | g :: gs, fs, h => by
    have ih := b_frzD (M0 := M0) (D := D) (w := w) gs (fs ++ [g.2]) (by rw [List.append_assoc fs]; exact h)
    refine ⟨PSs.imp ih.ps fun D2 σ H ⟨F, r, qq, ex⟩ => ?_⟩
    have hp : (M0 ++ dgX D w fs (g :: gs)).Perm (M0 ++ ((D, .dkt w (fs.map (fun f => (f.1, S.d (.list f.2))) ++ (g.2.1, S.ob g.1) :: gs.map fun g => (g.2.1, S.ob g.1))) :: gs.map fun g => (g.1, MO.lst (g.2.2.map S.d))) ++ [(g.1, MO.lst (g.2.2.map S.d))]) := by
      rw [List.append_assoc]
      have hq := List.perm_append_comm (l₁ := [(g.1, MO.lst (g.2.2.map S.d))]) (l₂ := gs.map fun g => (g.1, MO.lst (g.2.2.map S.d)))
      exact List.Perm.append_left M0 (List.Perm.cons (D, MO.dkt w (fs.map (fun f => (f.1, S.d (.list f.2))) ++ (g.2.1, S.ob g.1) :: gs.map fun g => (g.2.1, S.ob g.1))) hq)
    have hm := r.hm.perm hp
    have hk : (M0 ++ ((D, MO.dkt w (fs.map (fun f => (f.1, S.d (.list f.2))) ++ (g.2.1, S.ob g.1) :: gs.map fun g => (g.2.1, S.ob g.1))) :: gs.map fun g => (g.1, MO.lst (g.2.2.map S.d))))[M0.length]? = some (D, .dkt w (fs.map (fun f => (f.1, S.d (.list f.2))) ++ (g.2.1, S.ob g.1) :: gs.map fun g => (g.2.1, S.ob g.1))) := by simp
    obtain ⟨_, xs, x1, x2⟩ := hm.mo _ _ (List.mem_append_left _ (List.mem_of_getElem? hk))
    obtain ⟨vs, g1, g2, g3, g4⟩ := hm.frz
    have hl : Dp Y.X.K (upd F g.1 (.lst vs)) (.ref g.1) (.list g.2.2) := .lst (.inl (.inl upd_same)) (dps_mono g3 _ _ g2)
    have hM := g4.reM hk x1 (kn_frz g3 hl x2)
    have e2 : (M0 ++ ((D, MO.dkt w (fs.map (fun f => (f.1, S.d (.list f.2))) ++ (g.2.1, S.ob g.1) :: gs.map fun g => (g.2.1, S.ob g.1))) :: gs.map fun g => (g.1, MO.lst (g.2.2.map S.d)))).set M0.length (D, .dkt w (fs.map (fun f => (f.1, S.d (.list f.2))) ++ (g.2.1, S.d (.list g.2.2)) :: gs.map fun g => (g.2.1, S.ob g.1))) = M0 ++ dgX D w (fs ++ [g.2]) gs := by
      unfold dgX
      rw [List.set_append_right _ _ (Nat.le_refl _), Nat.sub_self, List.set_cons_zero, List.map_append, List.append_assoc]
      rfl
    rw [e2] at hM
    exact ⟨_, (r.ext g3 hM), qq.mono g3, ex.mono g3⟩
end
end Mi

/-! Mi: max([..], default=d); what is read alone. -/
namespace Mi
open PySem PySem.Spec PyProof.Rows L2
def maxDf (d : Int) (ns : List Int) : Int := match ns with
  | [] => d
  | n :: ns => ns.foldl max n
theorem maxOf_int (x : Int) : ∀ xs : List Int, PySem.W.maxOf x xs = xs.foldl max x := by
  intro xs
  unfold PySem.W.maxOf
  induction xs generalizing x with
  | nil => rfl
  | cons y ys ih =>
    rw [List.foldl_cons, List.foldl_cons]
    have e : (if PySem.W.DatumOrd.lt x y = true then y else x) = max x y := by
      show (if decide (x < y) = true then y else x) = max x y
      by_cases h : x < y
      · simp [h]; omega
      · simp [h]; omega
    rw [e]
    exact ih _
def rMaxLd (K : PySem.W.Frag) : List V → List V → Hp → VK → Prop := fun vs zs H Q => ∃ (a : Addr) (ns : List Int) (d : Int), vs = [V.ref a] ∧ zs = [V.int d] ∧ SqL K H a (ns.map V.int) ∧ Q (.int (maxDf d ns)) H
theorem cr_maxLd {X : Cx} (hc : X.calm = true) (hu : X.A.units + 70 < cLine) : CallRK X (.builtin "max") [Str.ofString "default"] (rMaxLd X.K) := by
  rintro pins s σ H xs zs us ws Q I r rz ⟨a, ns, d, rfl, rfl, hs, q⟩
  obtain ⟨its, rv, hl, _⟩ := I.list hs
  rw [Vals.ref1 r]
  obtain ⟨dv, rfl, hd⟩ : ∃ dv, ws = [dv] ∧ RelV (.int d) dv := by
    cases rz with
    | cons h t =>
      cases t
      exact ⟨_, rfl, h⟩
  refine PySem.W.max_list_datum_default (α := Int) (xs := ns) (d := dv) (I.ok.hd hc) hl.isList (PySem.W.HoldAll.of_ints rv.ints) (by show X.A.units + 1 + 0 < cLine; omega) (fun e h' tk hk => ?_) (fun y ys i v h' tk e hi hv hk => ?_)
  · subst e
    exact ⟨.int _, H, I.kept hk, hd, q⟩
  · subst e
    obtain ⟨as, hv⟩ := hv
    cases hv with
    | int _ t =>
      refine ⟨.int _, H, I.kept hk, ⟨t, rfl⟩, ?_⟩
      show Q (.int (PySem.W.maxOf y ys)) H
      rw [maxOf_int]
      exact q
theorem ints_pair {K : PySem.W.Frag} {F : Hp} : ∀ {vs : List V} {ns : List Int}, Paired (SR K F) vs (ns.map fun n => S.d (.int n)) → vs = ns.map V.int
  | _, [], h => by cases h; rfl
  | _, n :: ns, h => by
    cases h with
    | cons h1 h2 =>
      cases h1
      rw [ints_pair h2]
      rfl
section
variable {Y : Ct} {γ γ' : List S} {M M1 M2 M3 : MM} {e o a : Expr} {es : List Expr} {pos p kpos : Pos} {Q : S → MM → Prop} {kk : Nat}
/-- max(xs, default=d) of whole numbers -/
theorem e_maxDf {ns : List Int} {d : Int} {s : S} (hr : Room kk Y.X.A) (hc : Y.X.calm = true) (hg : Gl Y.X "max" := by rfl) (hm : Y.X.mg "max" = none) (ha : EA Y (e :: es) γ M [s] M1) (hv : VL M1 s (ns.map fun n => S.d (.int n))) (hd : EV Y o γ M1 (.d (.int d)) M1)
    (he : backTo pos (starEach (e :: es) Y.X.env) = (false, eval e Y.X.env) :: backTo pos (starEach es Y.X.env) := by rfl) (hpl : (backTo pos (starEach (e :: es) Y.X.env)).any (·.1) = false := by rfl)
    (hall : (backToKw pos (keywordEach [⟨some "default", o, kpos⟩] Y.X.env)).all (·.1.isSome) = true := by rfl) (hnone : (backToKw pos (keywordEach [⟨some "default", o, kpos⟩] Y.X.env)).any (·.1.isNone) = false := by rfl) (hks : (backToKw pos (keywordEach [⟨some "default", o, kpos⟩] Y.X.env)).filterMap (·.1) = [Str.ofString "default"] := by rfl) :
    EV Y (.Call (.Name "max" p) (e :: es) [⟨some "default", o, kpos⟩] pos) γ M (.d (.int (maxDf d ns))) M1 :=
  ⟨PE.imp (pe_callBK (cr_maxLd hc (by have := hr.un; omega)) hg hm (by decide +kernel) ha.pa (pk_cons hd.pe pk_nil) (by decide) (by decide) he hpl hall hnone hks) fun σ H R ⟨F, r, q, ex⟩ => ⟨F, r, fun F1 vs H1 e1 r1 v1 => by
    obtain ⟨v, rfl, g1⟩ := pair_one v1
    refine ⟨F1, r1, fun F2 w H2 e2 r2 w2 => ?_, ex.mono e1⟩
    obtain ⟨a, ws, rfl, h1, h2⟩ := hv.ok r2.hm (g1.mono e2)
    cases w2
    refine ⟨a, ns, d, rfl, rfl, ?_, ?_⟩
    · rw [← ints_pair h2]; exact h1
    · exact q F2 _ H2 (e1.trans e2) r2 (Dp.int _), ex⟩⟩
/-! ### what is read alone: all that there is may be taken as data -/
/-- s, seen as data where all is as it stands -/
structure SeenS (M : MM) (s s' : S) : Prop where
  ok : ∀ {K : PySem.W.Frag} {F H : Hp} {o : Option V}, HM K F M H → OR K F o s → OR K H o s'
theorem SeenS.same {M : MM} {s : S} : SeenS M s s := ⟨fun hm h => h.mono hm.fh⟩
theorem SeenS.view {M : MM} {s : S} {d : PyData} (hk : s.known = true) (h : ∀ {K : PySem.W.Frag} {F H : Hp} {v : V}, HM K F M H → SR K F v s → Dp K H v d) : SeenS M s (.d d) := ⟨fun {K F H o} hm r => by
  cases s with
  | no => cases hk
  | d x => obtain ⟨v, e, r⟩ := r; exact ⟨v, e, h hm r⟩
  | ob a => obtain ⟨v, e, r⟩ := r; exact ⟨v, e, h hm r⟩
  | ty n => obtain ⟨v, e, r⟩ := r; exact ⟨v, e, h hm r⟩⟩
theorem seen_all {M : MM} {K : PySem.W.Frag} {F H : Hp} (hm : HM K F M H) : ∀ {σ : L2.St} {γ γ1 : List S}, Paired (OR K F) σ γ → Paired (SeenS M) γ γ1 → Paired (OR K H) σ γ1
  | _, _, _, .nil, .nil => .nil
  | _, _, _, .cons h t, .cons g u => .cons (g.ok hm h) (seen_all hm t u)
theorem mr_keep {K : PySem.W.Frag} {F H H' : Hp} {a : Addr} (e : Same H H') : ∀ {o : MO}, MR K F H a o → MR K F H' a o
  | .lst _, ⟨vs, h, r⟩ => ⟨vs, e _ _ h, r⟩
  | .ins _ _, ⟨dx, vs, h, r⟩ => ⟨dx, vs, e _ _ h, r⟩
  | .tup _, ⟨vs, h, r⟩ => ⟨vs, e _ _ h, r⟩
  | .dct _, ⟨vs, h, r⟩ => ⟨vs, e _ _ h, r⟩
  | .exd _, ⟨vs, h, r⟩ => ⟨vs, e _ _ h, r⟩
  | .dkt _ _, ⟨xs, h, r⟩ => ⟨xs, e _ _ h, r⟩
theorem hm_keep {K : PySem.W.Frag} {F H H' : Hp} {M : MM} (h : HM K F M H) (e : Same H H') : HM K F M H' := ⟨h.fh.trans e, fun a o hm => ⟨(h.mo a o hm).1, mr_keep e (h.mo a o hm).2⟩, h.nd⟩
/-- a condition that changes nothing: worked out where all that changes is seen as data -/
theorem t_seen {γ1 : List S} {b : Bool} (hs : Paired (SeenS M) γ γ1) (h : ET Y e γ1 [] b []) : ET Y e γ M b M :=
  ⟨PT.imp h.pt fun σ H Q ⟨F, r, q, ex⟩ => ⟨H, ⟨⟨Same.refl H, fun _ _ hm => (nomatch hm), List.Pairwise.nil⟩, seen_all r.hm r.sl hs⟩, fun F' H' e1 r1 => q F H' (Same.refl F) ⟨hm_keep r.hm (e1.trans r1.hm.fh), r.sl⟩, ex.mono r.hm.fh⟩⟩
end
end Mi

/-! Mi: errors of own classes that keep a field. -/
namespace Mi
open PySem PySem.Spec PyProof.Rows L2
/-- the class is a plain one over ValueError, as OexC asks -/
def oexB (K : PySem.W.Frag) (C : Addr) : Bool := match K.lookup C with
  | some ⟨.type "type", _, .cls cd, sl⟩ => (match cd.mro, sl.toList with
    | .ref C' :: bm, [_, _, _, _, some (.builtin n), _] => C' == C && n == "ValueError.__new__" && !cd.hasDel && cd.hasDict && PySem.HandSPX.refsVE bm
    | _, _ => false)
  | _ => false
theorem oexB_ok {K : PySem.W.Frag} {C : Addr} (h : oexB K C = true) : ∃ nm q N bs bm sn sub ab col dd k0 k1 k2 k3 k5, K.lookup C = some (excClassObj nm q C N bs bm true sn sub ab col dd k0 k1 k2 k3 k5 "ValueError.__new__") ∧ PySem.HandSPX.refsVE bm = true := by
  unfold oexB at h
  split at h
  · rename_i dd cd sl ho
    obtain ⟨nm, bs, mro, ns, qn, hd, sn, sub, ab, col, del⟩ := cd
    dsimp only at h
    split at h
    · rename_i C' bm k0 k1 k2 k3 n k5 hs
      simp only [Bool.and_eq_true, Bool.not_eq_true', beq_iff_eq] at h
      obtain ⟨⟨⟨⟨h1, h2⟩, h3⟩, h4⟩, h5⟩ := h
      have h3' : del = false := h3
      have h4' : hd = true := h4
      subst h1 h2 h3' h4'
      have hs' : sl = #[k0, k1, k2, k3, some (.builtin "ValueError.__new__"), k5] := by
        exact (Array.toArray_toList (xs := sl)).symm.trans (congrArg List.toArray hs)
      subst hs'
      exact ⟨_, _, _, _, _, _, _, _, _, _, _, _, _, _, _, ho, h5⟩
    · cases h
  · cases h
section
variable {X : Cx} {e : Expr} {es : List Expr} {ta : TA} {x : Str} {p1 p2 pos : Pos}
/-- B.__init__(self, ..), B a class of the program over ValueError, without one of its own -/
theorem pe_basei {C0 : Addr} {mc : Value} {pl : Sem Bool} (hg : Gl X x) (hm : X.mg x = some (.ref C0)) (hga : PySem.W.specialIn X.K (.ref C0) "__getattribute__" = some (some (.builtin "type.__getattribute__"))) (ht : PySem.W.typeIn X.K (.ref C0) = some mc) (hr : PySem.W.readsIn X.K C0 mc = true)
    (vV : PySem.W.findCls X.K (.ref C0) mc "__init__" = some (.val (.builtin "ValueError.__init__"))) (ha : PA X (e :: es) ta)
    (hc : eval (.Call (.Attribute (.Name x p1) "__init__" p2) (e :: es) [] pos) X.env = (do
      let ov ← eval (.Name x p1) X.env
      standAt p2.atName
      let (f, first) ← holding [ov] (getMethod ov "__init__" pl)
      callWith pos f first (backTo pos (starEach (e :: es) X.env)) (backToKw pos (keywordEach [] X.env))) := by rfl)
    (hdb : (x == ("__debug__" : Str)) = false := by decide) (he : starEach (e :: es) X.env = (false, eval e X.env) :: starEach es X.env := by rfl) (hpl : (backTo pos (starEach es X.env)).any (·.1) = false := by rfl) :
    PE X (.Call (.Attribute (.Name x p1) "__init__" p2) (e :: es) [] pos) (tVeI X.K ta) := by
  refine ⟨fun pins s σ H Q I h => ?_⟩
  refine PySem.W.methodCall_KW (ld_glob I hg hm ?_ hdb) hc
  obtain ⟨m, fr⟩ := I.fr
  refine PySem.W.method_of_cls fr I.ok.mod.kin hga (PySem.W.cls_val fr I.ok.mod.kin ht hr vV (by decide +kernel) ?_)
  refine PyProof.Rows.callWith_method1 (thn (ha.run pos pins _ σ H _ (I.tok _) h) fun us s1 ⟨vs, H1, I1, r1, a, C, ws, ev, hl, T, ea, q⟩ => ?_) he hpl
  subst ev
  cases r1 with
  | @cons _ u0 _ ur ra rw' =>
    obtain rfl : u0 = Value.ref a := ra
    have hlen : ur.length ≤ sizeLine := by
      rw [← Paired.length rw', sizeLine_eq]
      omega
    exact oinit_ok T I1 ea hlen fun s' J => ⟨.non, H1, J, rfl, q⟩
end
/-- what such a class's own __init__ does: one field -/
def spXI (K : PySem.W.Frag) (C : Addr) (f : Str) : Sp := fun vs H Q _ => ∃ (a : Addr) (y : V), vs = [.ref a, y] ∧ H a = some (exo a C none) ∧ ∀ dx, H dx = none → dx ≠ a → Q .non (upd (upd H dx (exd dx [(f, y)])) a (exo a C (some dx)))
/-- def __init__(self, y): B.__init__(self, '..'); self.f = y -/
theorem xinit {X : Cx} {x m f s0 s1 : Str} {C : Addr} {C0 : Addr} {mc : Value} {pl : Sem Bool} {k : Nat} {p1 p2 p3 p4 p5 p6 p7 p8 p9 p10 : Pos} (T : OexC X.K C) (hno : PySem.W.findIn X.K (.ref C) f = some none)
    (hg : Gl X x) (hm : X.mg x = some (.ref C0)) (hga : PySem.W.specialIn X.K (.ref C0) "__getattribute__" = some (some (.builtin "type.__getattribute__"))) (ht : PySem.W.typeIn X.K (.ref C0) = some mc) (hr : PySem.W.readsIn X.K C0 mc = true)
    (vV : PySem.W.findCls X.K (.ref C0) mc "__init__" = some (.val (.builtin "ValueError.__init__"))) (h0 : X.N[0]? = some s0) (h1 : X.N[1]? = some s1) (v0 : Vis X.env.scope s0) (v1 : Vis X.env.scope s1)
    (d0 : (s0 == ("__debug__" : Str)) = false) (d1 : (s1 == ("__debug__" : Str)) = false) (c0 : (s0 == ("__classdict__" : Str)) = false) (c1 : (s1 == ("__classdict__" : Str)) = false) (hdb : (x == ("__debug__" : Str)) = false)
    (hc : eval (.Call (.Attribute (.Name x p1) "__init__" p2) [.Name s0 p3, .Constant (.str m) k p4] [] p5) X.env = (do
      let ov ← eval (.Name x p1) X.env
      standAt p2.atName
      let (f, first) ← holding [ov] (getMethod ov "__init__" pl)
      callWith p5 f first (backTo p5 (starEach [.Name s0 p3, .Constant (.str m) k p4] X.env)) (backToKw p5 (keywordEach [] X.env))) := by rfl)
    (he : starEach [.Name s0 p3, .Constant (.str m) k p4] X.env = (false, eval (.Name s0 p3) X.env) :: starEach [.Constant (.str m) k p4] X.env := by rfl) (he2 : starEach [.Constant (.str m) k p4] X.env = (false, eval (.Constant (.str m) k p4) X.env) :: starEach [] X.env := by rfl) (hpl : (backTo p5 (starEach [.Constant (.str m) k p4] X.env)).any (·.1) = false := by rfl)
    (hs1 : swapsWith (.Call (.Attribute (.Name x p1) "__init__" p2) [.Name s0 p3, .Constant (.str m) k p4] [] p5) none p6.line X.env = pure false := by rfl) (hs2 : swapsWith (.Name s1 p9) (some (.Attribute (.Name s0 p7) f p8)) p10.line X.env = pure false := by rfl) :
    PSs X [.Expr (.Call (.Attribute (.Name x p1) "__init__" p2) [.Name s0 p3, .Constant (.str m) k p4] [] p5) p6, .Assign [.Attribute (.Name s0 p7) f p8] (.Name s1 p9) p10]
      (fun D σ H => ∃ (a : Addr) (y : V), σ = [some (.ref a), some y] ∧ H a = some (exo a C none) ∧ ∀ dx, H dx = none → dx ≠ a → D.nx σ (upd (upd H dx (exd dx [(f, y)])) a (exo a C (some dx)))) := by
  refine PSs.imp (pss_cons (ps_expr (pe_basei (pl := pl) hg hm hga ht hr vV (pa_cons (pe_var h0 v0 d0 c0) (pa_cons pe_str pa_nil he2) he) hc hdb he hpl) hs1) (pss_one (ps_ost (pe_var h0 v0 d0 c0) (pe_var h1 v1 d1 c1) hs2))) fun D σ H ⟨a, y, hσ, ha, hq⟩ => ?_
  subst hσ
  exact ⟨.ref a, rfl, a, C, [.str m], rfl, (show 1 ≤ 1000 by decide), T, ha, y, rfl, .ref a, rfl, a, C, rfl, T, hno, .inl ⟨ha, hq⟩⟩
section
variable {Y : Ct} {γ γ' : List S} {M M1 M2 : MM} {s : S} {e o : Expr} {pos apos p tp : Pos} {x f : Str} {C fI : Addr} {P : Po} {k : Nat} {fd : FuncData} {ps : List Str}
/-- raise C(e), C's own __init__ keeping one field -/
theorem s_raiseX (hc : Y.X.calm = true) (tk : Takes Y.X Y.Er) (T : OexC Y.X.K C) (iC : PySem.W.findIn Y.X.K (.ref C) "__init__" = some (some (.ref fI))) (tI : PySem.W.typeIn Y.X.K (.ref fI) = some (.type "function"))
    (G : FnOk Y.X.prog Y.X.w Y.X.K Y.X.mg Y.X.base (L2.CX Y.X.prog Y.X.w) k fI fd ps (spXI Y.X.K C f)) (hr : Room (k + 1) Y.X.A) (hm : Y.X.mg x = some (.ref C)) (hb : Binds Y.X.K fd ps []) (ha : EV Y e γ M s M1)
    (hx : ∀ dx : Addr, Y.Rx (.int (C : Nat) dx) γ (M1 ++ [(dx, .exd [(f, s)])])) (hg : Gl Y.X x := by rfl) (hdb : (x == ("__debug__" : Str)) = false := by decide)
    (he : starEach [e] Y.X.env = (false, eval e Y.X.env) :: starEach [] Y.X.env := by rfl) (hpl : (backTo pos (starEach [] Y.X.env)).any (·.1) = false := by rfl) : ST Y (.Raise (some (.Call (.Name x p) [e] [] pos)) none tp) γ M P :=
  ⟨PS.imp (ps_raise hc tk (pmk_oex T iC tI G hr hb .nil (fun pins σ H s e s' => passes_call tk (fun _ _ _ _ z => z.elim) pins σ H s e s') hg hm (pa_cons ha.pe pa_nil he) hdb he hpl)) fun D σ H ⟨F, r, qq, ex⟩ => ⟨F, r, fun F1 v H1 e1 r1 v1 => by
    refine ⟨(show 1 ≤ 1000 by decide), fun a hna => ⟨a, v, rfl, upd_same, fun dx hdx hne => ?_⟩⟩
    have h1 : H1 dx = none := by rw [upd_ne hne] at hdx; exact hdx
    refine ⟨rfl, dx, [(f, v)], upd_same, by rw [upd_ne hne, upd_same], h1, ?_⟩
    have eH : upd (del (upd (upd (upd H1 a (exo a C none)) dx (exd dx [(f, v)])) a (exo a C (some dx))) a) dx (.xd [(f, v)]) = upd H1 dx (.xd [(f, v)]) := by
      funext b
      by_cases hb : b = dx
      · rw [hb, upd_same, upd_same]
      · rw [upd_ne hb, upd_ne hb]
        by_cases hba : b = a
        · rw [hba, del_same, hna]
        · rw [del_ne hba, upd_ne hba, upd_ne hb, upd_ne hba]
    rw [eH]
    have hM := r1.hm.newM h1 (o := .xd [(f, v)]) (m := .exd [(f, s)]) ⟨_, upd_same, .cons ⟨rfl, v1⟩ .nil⟩
    exact ex (.int (C : Nat) dx) γ _ F1 σ _ e1 ⟨hM, r1.sl⟩ (hx dx), ex⟩⟩
end
/-! ### the caught one -/
/-- isinstance(e, c), e keeping fields at dd -/
def rIsED (K : PySem.W.Frag) (D a dd : Addr) : List V → Hp → VK → Prop := fun xs H Q => ∃ (c : V) (cv : Value) (b : Bool) (fs : List (Str × V)), xs = [.ref a, c] ∧ H dd = some (.xd fs) ∧ (∀ u, RelV c u → u = cv) ∧ PySem.W.kitOne K (.ref D) cv = some b ∧ Q (.bl b) H
theorem exd_inst {X : Cx} {pins : List (Addr × Obj)} {σ : L2.St} {H : Hp} {s : Shared} {a D dd : Addr} {oe : Obj} {pn : List (Addr × Obj)} {fs : List (Str × V)} (hz : Zc (.ref D) (some dd) oe) (hf : ∃ vs, oe.data = .fields vs) (I : Inv (X.suite a ((a, oe) :: pn)) pins σ H s) (ed : H dd = some (.xd fs)) :
    ∃ od, PySem.W.InstAt s.heap a oe D (some od) := by
  obtain ⟨hget, _⟩ := I.pin (a, oe) (List.mem_append.mpr (.inl List.mem_cons_self))
  obtain ⟨vs, hd⟩ := hf
  have hx : ObjOk X.prog X.w H s.heap dd (.xd fs) := I.hok dd _ ed
  obtain ⟨mA, hns, _⟩ := hx
  obtain ⟨od, ho, _⟩ := lookIn_ns hns
  exact ⟨od, hget, hz.1, by unfold PySem.W.notCls; rw [hd] <;> rfl, by rw [hz.2]; exact ho⟩
theorem call_isED {X : Cx} {a D dd : Addr} {oe : Obj} {pn : List (Addr × Obj)} (C : ExcC X.K D) (hcl : (PySem.W.clsIn X.K D).isSome = true) (hz : Zc (.ref D) (some dd) oe) (hf : ∃ vs, oe.data = .fields vs) : CallR (X.suite a ((a, oe) :: pn)) (.builtin "isinstance") (rIsED X.K D a dd) := by
  intro pins s σ H xs us Q I r h
  obtain ⟨c, cv, b, fs, rfl, ed, hcv, e, q⟩ := h
  cases r with
  | cons rx rr =>
    cases rr with
    | cons rt rr =>
      cases rr
      cases rx
      have ec := hcv _ rt
      subst ec
      obtain ⟨od, J⟩ := exd_inst hz hf I ed
      exact PySem.W.kia_one (PySem.W.kitx_exc hcl C.hg C.hk C.hs C.ha C.hn C.ht C.hm) I.kIn J e (fun z => nomatch z) fun tk => ⟨.bl b, H, I.kept (t' := tk) fun _ _ z => z, rfl, q⟩
def rIsETD (K : PySem.W.Frag) (D a dd : Addr) : List V → Hp → VK → Prop := fun xs H Q => ∃ (tp : Addr) (cs : List V) (us : List Value) (b : Bool) (fs : List (Str × V)), xs = [.ref a, .ref tp] ∧ H dd = some (.xd fs) ∧ H tp = some (.tup cs) ∧ Paired ClsV cs us ∧ PySem.W.kitAny K (.ref D) us = some b ∧ Q (.bl b) H
theorem call_isETD {X : Cx} {a D dd : Addr} {oe : Obj} {pn : List (Addr × Obj)} (C : ExcC X.K D) (hcl : (PySem.W.clsIn X.K D).isSome = true) (hz : Zc (.ref D) (some dd) oe) (hf : ∃ vs, oe.data = .fields vs) : CallR (X.suite a ((a, oe) :: pn)) (.builtin "isinstance") (rIsETD X.K D a dd) := by
  intro pins s σ H xs us Q I r h
  obtain ⟨tp, cs, ws, b, fs, rfl, ed, hT, k, e, q⟩ := h
  obtain ⟨u1, u2, rfl, rx, rt⟩ := vals2 r
  cases rx
  cases (show u2 = Value.ref tp from rt)
  obtain ⟨_, its, rv, o, h1, h2, n, h3⟩ := (show ObjOk X.prog X.w H s.heap tp (.tup cs) from I.hok tp _ hT)
  have e3 := ClsV.all k rv
  subst e3
  obtain ⟨od2, J⟩ := exd_inst hz hf I ed
  obtain ⟨oc, od, dt, sl⟩ := o
  simp only at h2 h3
  subst h2 h3
  exact PySem.W.kia_tup (PySem.W.kitx_exc hcl C.hg C.hk C.hs C.ha C.hn C.ht C.hm) I.kIn J h1 e (fun z => nomatch z) fun tk => ⟨.bl b, H, I.kept (t' := tk) fun _ _ z => z, rfl, q⟩
section
variable {X : Cx} {Er : WX} {Rx : Value → List S → MM → Prop} {γ : List S} {M M1 M2 : MM} {s s1 : S} {ss : List S} {e : Expr} {es ces : List Expr} {q D dd : Addr} {oe : Obj} {pn : List (Addr × Obj)} {cv : Value} {cvs : List Value} {b1 : Bool} {pos p tp : Pos} {k kk : Nat} {fs : List (Str × S)} {n : Str}
theorem e_isED (C : ExcC X.K D) (hcl : (PySem.W.clsIn X.K D).isSome = true) (hz : Zc (.ref D) (some dd) oe) (hf : ∃ vs, oe.data = .fields vs) (hg : Gl X "isinstance" := by rfl) (hm : X.mg "isinstance" = none)
    (ha : EA ⟨X.suite q ((q, oe) :: pn), Er, Rx⟩ (e :: es) γ M [.ob q, s] M1) (hk : M1[kk]? = some (dd, .exd fs)) (hc : ClS s cv) (h : PySem.W.kitOne X.K (.ref D) cv = some b1)
    (he : starEach (e :: es) X.env = (false, eval e X.env) :: starEach es X.env := by rfl) (hpl : (backTo pos (starEach es X.env)).any (·.1) = false := by rfl) : EV ⟨X.suite q ((q, oe) :: pn), Er, Rx⟩ (.Call (.Name "isinstance" p) (e :: es) [] pos) γ M (.d (.bool b1)) M1 :=
  e_callB (call_isED C hcl hz hf) hg hm (by decide +kernel) ha (he := he) (hpl := hpl) (hr := ⟨fun F vs H Q hm' g qq => by
    obtain ⟨v, w, rfl, g1, g2⟩ := pair_two g
    cases g1
    obtain ⟨_, vs, hd, _⟩ := hm'.mo _ _ (List.mem_of_getElem? hk)
    exact ⟨w, cv, b1, vs, rfl, hd, fun u r => hc.rel g2 r, h, qq F _ H (Same.refl F) hm' (.bl _)⟩⟩)
theorem e_isETD (C : ExcC X.K D) (hcl : (PySem.W.clsIn X.K D).isSome = true) (hz : Zc (.ref D) (some dd) oe) (hf : ∃ vs, oe.data = .fields vs) (hg : Gl X "isinstance" := by rfl) (hm : X.mg "isinstance" = none)
    (h0 : EV ⟨X.suite q ((q, oe) :: pn), Er, Rx⟩ e γ M (.ob q) M1) (ha : EA ⟨X.suite q ((q, oe) :: pn), Er, Rx⟩ ces γ M1 ss M2) (hk : M2[kk]? = some (dd, .exd fs)) (hc : Paired ClS ss cvs) (h : PySem.W.kitAny X.K (.ref D) cvs = some b1) (hn : Nat.ble ss.length 100000 = true := by rfl)
    (he : starEach [e, .Tuple ces k tp] X.env = (false, eval e X.env) :: starEach [.Tuple ces k tp] X.env := by rfl) (he2 : starEach [.Tuple ces k tp] X.env = (false, eval (.Tuple ces k tp) X.env) :: starEach [] X.env := by rfl) (hpl : (backTo pos (starEach [.Tuple ces k tp] X.env)).any (·.1) = false := by rfl) :
    EV ⟨X.suite q ((q, oe) :: pn), Er, Rx⟩ (.Call (.Name "isinstance" p) [e, .Tuple ces k tp] [] pos) γ M (.d (.bool b1)) M2 :=
  ⟨PE.imp (pe_callB (X := X.suite q ((q, oe) :: pn)) (call_isETD C hcl hz hf) hg hm (by decide +kernel) (pa_cons h0.pe (pa_cons (pe_tup ha.pa) pa_nil he2) he) (by decide) (by decide) he hpl) fun σ H Q ⟨F, r, qq, ex⟩ => ⟨F, r, fun F1 v H1 e1 r1 v1 => ⟨F1, r1, fun F2 vs H2 e2 r2 v2 => by
    cases v1
    refine ⟨by rw [pair_len v2]; exact small hn, fun p hp => ?_⟩
    obtain ⟨e3, h3⟩ := r2.hm.newF hp (.tup vs)
    obtain ⟨_, us, hd, _⟩ := h3.mo _ _ (List.mem_of_getElem? hk)
    exact ⟨p, vs, cvs, b1, us, rfl, hd, upd_same, cls_pair v2 hc, h, qq _ _ _ ((e1.trans e2).trans e3) (r2.ext e3 h3) (.bl _)⟩, ex.mono e1⟩, ex⟩⟩
/-- e.f -/
theorem e_xf {C : Addr} (T : XfC X.K C) (hno : PySem.W.findIn X.K (.ref C) n = some none) (hz : Zc (.ref C) (some dd) oe) (hf : ∃ vs, oe.data = .fields vs) (he : EV ⟨X.suite q ((q, oe) :: pn), Er, Rx⟩ e γ M (.ob q) M1) (hk : M1[kk]? = some (dd, .exd fs)) (hl : fs.lookup n = some s)
    (hb : attributeBase e n X.env (eval e X.env) = eval e X.env := by rfl) : EV ⟨X.suite q ((q, oe) :: pn), Er, Rx⟩ (.Attribute e n pos) γ M s M1 :=
  ⟨PE.imp (pe_xf T hno hz hf he.pe hb) fun σ H Q ⟨F, r, qq, ex⟩ => ⟨F, r, fun F1 v H1 e1 r1 v1 => by
    cases v1
    obtain ⟨_, vs, hd, hp⟩ := r1.hm.mo _ _ (List.mem_of_getElem? hk)
    obtain ⟨u, hu, hs⟩ := fr_some hp hl
    exact ⟨rfl, rfl, dd, vs, u, rfl, hd, hu, qq F1 u H1 e1 r1 hs⟩, ex⟩⟩
end
end Mi

/-! Mi: a dict of the module whose keys are whole numbers. -/
namespace Mi
open PySem PySem.Spec PyProof.Rows L2
def IntsLit : List DictEntry → Prop
  | [] => True
  | e :: r => (∃ x t, e.key = .int x t ∧ e.hash = hashInt x) ∧ IntsLit r
theorem IntsLit.all : ∀ {l : List DictEntry}, IntsLit l → ∀ e ∈ l, ∃ x t, e.key = .int x t ∧ e.hash = hashInt x
  | _ :: _, ⟨h, _⟩, _, .head _ => h
  | _ :: _, ⟨_, r⟩, _, .tail _ m => r.all _ m
def intIn : List DictEntry → Int → Option Value
  | [], _ => none
  | e :: r, i => match Value.isInt i e.key with
    | true => some e.val
    | false => intIn r i
theorem find_int {es : Array DictEntry} {i : Int} : findBy Value.isInt es i = intIn es.toList i := by
  obtain ⟨l⟩ := es
  unfold findBy
  rw [List.find?_toArray]
  show _ = intIn l i
  induction l with
  | nil => rfl
  | cons e r ih =>
    rw [List.find?_cons, intIn]
    cases h : Value.isInt i e.key with
    | true => rfl
    | false => exact ih
structure KDictN (K : PySem.W.Frag) (d : Addr) (es : Array DictEntry) (n : Nat) : Prop where
  at_ : K.lookup d = some ⟨.type "dict", none, .dict es n, #[]⟩
  lit : IntsLit es.toList
def rIxN (K : PySem.W.Frag) : R2 := fun x y H Q => ∃ p z v es n u, x = .ref p ∧ y = .int z ∧ KDictN K p es n ∧ intIn es.toList z = some u ∧ RelV v u ∧ Q v H
theorem ix_kdictN {X : Cx} : IxR X (rIxN X.K) := by
  intro value slice pins s σ H x y v u Q I rx ry h hs
  obtain ⟨p, z, r, es, n, u0, rfl, rfl, D, e, ru, q⟩ := h
  obtain rfl : v = Value.ref p := rx
  obtain ⟨t, rfl⟩ := ry
  have hm : s.heap.MapOf (intKind X.prog X.w) p (fun k => findBy Value.isInt es k) := ⟨_, es, n, I.kIn _ _ D.at_, ⟨rfl, rfl, rfl⟩, rfl, fun e he => by
    obtain ⟨x, t, e1, e2⟩ := D.lit.all e (Array.mem_toList_iff.mpr he)
    exact ⟨x, by rw [e1]; exact intKind_is X.prog X.w x t, e2⟩, fun _ => rfl⟩
  exact tail_any hm.typeIs slot_dict_getitem.lookup (wpAny_getItem_of (intKind_is X.prog X.w z t) hm (find_int.trans e) ⟨r, H, I.tok _, ru, q⟩) hs
section
variable {Y : Ct} {γ : List S} {M M1 M2 : MM} {a o : Expr} {pos : Pos}
theorem rv_kdN {K : PySem.W.Frag} {C : Addr} {es : Array DictEntry} {n : Nat} {u : Value} {v : V} {d : PyData} {i : Int} (D : KDictN K C es n) (hz : intIn es.toList i = some u) (r : RelV v u) (hv : ∀ F, Dp K F v d) : RV K (rIxN K) (.ob C) (.d (.int i)) M (.d d) M :=
  ⟨fun F v1 w1 H Q hm h1 h2 q => by
    cases h2
    cases h1
    exact ⟨C, i, v, es, n, u, rfl, rfl, D, hz, r, q F v H (Same.refl F) hm (hv F)⟩⟩
/-- D[number], D a dict of the module -/
theorem e_ixKN {C : Addr} {es : Array DictEntry} {n : Nat} {u : Value} {v : V} {d : PyData} {i : Int} (D : KDictN Y.X.K C es n) (hz : intIn es.toList i = some u) (r : RelV v u) (hv : ∀ F, Dp Y.X.K F v d)
    (ho : EV Y o γ M (.ob C) M1) (ha : EV Y a γ M1 (.d (.int i)) M2) (hs : PlainIx a := by exact fun _ _ => rfl) : EV Y (.Subscript o a pos) γ M (.d d) M2 :=
  e_bin (f := fun _ _ => pure .none) (fun h1 h2 => pe_ix ix_kdictN h1 h2 hs) ho ha (rv_kdN D hz r hv)
end
/-! max of a tuple of whole numbers -/
theorem dps_ints_of {K : PySem.W.Frag} {H : Hp} : ∀ {vs : List V} {ns : List Int}, DpAll K H vs (ns.map PyData.int) → vs = ns.map V.int
  | _, [], h => by cases h; rfl
  | _, n :: ns, h => by
    cases h with
    | cons h1 h2 =>
      cases h1
      rw [dps_ints_of h2]
      rfl
def rMaxT (K : PySem.W.Frag) : List V → Hp → VK → Prop := fun vs H Q => ∃ (a : Addr) (n : Int) (ns : List Int), vs = [V.ref a] ∧ SqT K H a ((n :: ns).map V.int) ∧ Q (.int (maxDf 0 (n :: ns))) H
theorem cr_maxT {X : Cx} (hc : X.calm = true) (hu : X.A.units + 70 < cLine) : CallR X (.builtin "max") (rMaxT X.K) := by
  rintro pins s σ H xs us Q I r ⟨a, n, ns, rfl, hs, q⟩
  obtain ⟨its, rv, ht, _⟩ := I.tuple hs
  rw [Vals.ref1 r]
  have ht2 : s.heap.IsTuple a its.toArray := by
    obtain ⟨o, ho, hcl, nn, hd⟩ := ht
    exact ⟨o, ho, hcl, nn, hd⟩
  refine PySem.W.max_tuple_datum (α := Int) (x := n) (xs := ns) (I.ok.hd hc) ht2 (PySem.W.HoldAll.of_ints rv.ints) (by show X.A.units + 1 + 0 < cLine; omega) (fun i v h' tk hi hv hk => ?_)
  obtain ⟨as, hv⟩ := hv
  cases hv with
  | int _ t =>
    refine ⟨.int _, H, I.kept hk, ⟨t, rfl⟩, ?_⟩
    show Q (.int (PySem.W.maxOf n ns)) H
    rw [maxOf_int]
    exact q
section
variable {Y : Ct} {γ : List S} {M M1 : MM} {e : Expr} {es : List Expr} {pos p : Pos} {kk : Nat}
theorem e_maxT {n : Int} {ns : List Int} (hr : Room kk Y.X.A) (hc : Y.X.calm = true) (hg : Gl Y.X "max" := by rfl) (hm : Y.X.mg "max" = none) (ha : EA Y (e :: es) γ M [.d (.tuple ((n :: ns).map PyData.int))] M1)
    (he : starEach (e :: es) Y.X.env = (false, eval e Y.X.env) :: starEach es Y.X.env := by rfl) (hpl : (backTo pos (starEach es Y.X.env)).any (·.1) = false := by rfl) : EV Y (.Call (.Name "max" p) (e :: es) [] pos) γ M (.d (.int (maxDf 0 (n :: ns)))) M1 :=
  e_callB (cr_maxT hc (by have := hr.un; omega)) hg hm (by decide +kernel) ha (he := he) (hpl := hpl) (hr := ⟨fun F vs H Q hm h q => by
    obtain ⟨v, rfl, h1⟩ := pair_one h
    cases h1 with
    | tup g1 g2 =>
      rw [dps_ints_of g2] at g1
      exact ⟨_, n, ns, rfl, same_t hm.fh g1, q F _ H (Same.refl F) hm (.int _)⟩⟩)
end
end Mi

/-! Mi: i in range(a, b); d.get(text, x); text not in d; a written dict's missing texts. -/
namespace Mi
open PySem PySem.Spec PyProof.Rows L2
section
variable {Y : Ct} {γ γ' : List S} {M M1 M2 M3 : MM} {s s1 s2 s3 : S} {a b c o f : Expr} {pos p p2 apos : Pos} {i n m : Int} {k kk : Nat} {q : Addr} {kvs : List (Key × S)} {z : Str}
theorem e_inR2 (ha : EV Y a γ M (.d (.int i)) M1) (hb : EA Y [b, c] γ M1 [.d (.int n), .d (.int m)] M2) (hm : Y.X.mg "range" = none) (hg : Gl Y.X "range" := by rfl) (he : starEach [b, c] Y.X.env = (false, eval b Y.X.env) :: starEach [c] Y.X.env := by rfl) (hpl : (backTo p2 (starEach [c] Y.X.env)).any (·.1) = false := by rfl) (hmk : behindInMarks .In (.Call (.Name "range" p) [b, c] [] p2) = false := by with_unfolding_all rfl) :
    EV Y (.Compare a [.In] [.Call (.Name "range" p) [b, c] [] p2] pos) γ M (.d (.bool (decide (n ≤ i ∧ i < m)))) M2 :=
  ⟨PE.imp (pe_cmpR op_in_rng ha.pe (pe_callTy cr_range2 hg hm (by decide +kernel) hb.pa (by decide) (by decide) he hpl) hmk) fun σ H Q ⟨F, rl, q, ex⟩ => ⟨F, rl, fun F1 v H1 e1 r1 v1 => ⟨F1, r1, fun F2 vs H2 e2 r2 v2 => by
    cases v1
    obtain ⟨w, w', rfl, w1, w2⟩ := pair_two v2
    cases w1
    cases w2
    refine ⟨n, m, rfl, fun l hl => ⟨i, l, n, m, rfl, rfl, upd_same, ?_⟩⟩
    obtain ⟨e3, h3⟩ := r2.hm.newF hl (.rng n m)
    exact q _ _ _ ((e1.trans e2).trans e3) (r2.ext e3 h3) (.bl _), ex.mono e1⟩, ex⟩⟩
/-- d.get(text, x) -/
theorem e_dget2 (hr : Room kk Y.X.A) (ho : EV Y o γ M (.ob q) M1) (ha : EV Y a γ M1 (.d (.str z)) M2) (hf : EV Y f γ M2 s M3) (hk : M3[k]? = some (q, .dct kvs)) (hq : ∃ n : Nat, M1[n]? = some (q, .dct kvs)) {r : S} (hz : (valS kvs (.inr z)).getD s = r) (m : L2.M2 Y.X o "get" apos a f pos) : EV Y (.Call (.Attribute o "get" apos) [a, f] [] pos) γ M r M3 :=
  ⟨PE.imp (pe_dget2 (by have := hr.un; omega) ho.pe ha.pe hf.pe m) fun σ H Q ⟨F, r, qq, ex⟩ => ⟨F, r, fun F1 v1 H1 e1 r1 sv1 => by
    cases sv1
    obtain ⟨n, hn⟩ := hq
    obtain ⟨_, vs0, g01, _⟩ := r1.hm.mo _ _ (List.mem_of_getElem? hn)
    refine ⟨q, rfl, .inl ⟨vs0, .inl g01⟩, F1, r1, fun F2 v2 H2 e2 r2 sv2 => ⟨F2, r2, fun F3 v3 H3 e3 r3 sv3 => ?_, (ex.mono e1).mono e2⟩, ex.mono e1⟩
    cases sv2
    obtain ⟨_, vs, g1, g2⟩ := r3.hm.mo _ _ (List.mem_of_getElem? hk)
    refine ⟨_, DGet.k (k := .inr z) g1, ?_⟩
    obtain ⟨k1, k2⟩ := kr_val (k := .inr z) g2
    subst hz
    refine qq F3 _ H3 ((e1.trans e2).trans e3) r3 ?_
    cases h : valS kvs (.inr z) with
    | none => rw [k2 h]; exact sv3
    | some s' => obtain ⟨v, h1, h2⟩ := k1 s' h; rw [h1]; exact h2, ex⟩⟩
end
/-! texts that are no key of a written dict -/
def keysS : List DictEntry → List Str
  | [] => []
  | e :: r => match e.key with
    | .str x _ => x :: keysS r
    | _ => keysS r
theorem ns_none {K : PySem.W.Frag} {w : World} {C : Addr} {es : Array DictEntry} {n : Nat} {ks : List Str} {z : Str} (D : KDict K w C es n) (hk : keysS es.toList = ks) (hz : z ∉ ks) : PySem.W.nsIn K C z = some none := by
  have hl := D.lit
  unfold PySem.W.nsIn
  rw [D.at_]
  simp only []
  generalize es.toList = l at hl hk
  have h1 : l.find? (·.key.isStr z) = none := by
    subst hk
    induction l with
    | nil => rfl
    | cons e r ih =>
      obtain ⟨⟨x, t, e1, _⟩, hr⟩ := hl
      have e2 : keysS (e :: r) = x :: keysS r := by rw [keysS, e1]
      rw [e2, List.mem_cons, not_or] at hz
      rw [List.find?_cons, e1]
      have e3 : (Value.str x t).isStr z = false := by
        cases h : (Value.str x t).isStr z with
        | false => rfl
        | true => exact absurd (by simpa [Value.isStr] using h : x = z).symm hz.1
      rw [e3]
      exact ih hr hz.2
  have h2 : l.any (·.refKey) = false := by
    clear hk h1
    induction l with
    | nil => rfl
    | cons e r ih =>
      obtain ⟨⟨x, t, e1, _⟩, hr⟩ := hl
      rw [List.any_cons, ih hr, Bool.or_false]
      unfold DictEntry.refKey
      rw [e1]
  rw [h1, h2]
  rfl
end Mi

/-! Mi: texts. -/
namespace Mi
open PySem PySem.Spec PyProof.Rows L2
/-- one sign -/
def sgn (c : Nat) : PyData := .str ⟨#[c]⟩
theorem walks_s {K : PySem.W.Frag} {F1 : Hp} (z : Str) : Walks K (Its z) F1 ((z.cps.toList.map sgn).map S.d) (fun _ => True) := by
  have hl : ((z.cps.toList.map sgn).map S.d).length = z.cps.size := by rw [List.length_map, List.length_map, Array.length_toList]
  refine ⟨fun i H' F' M' e hm _ hi => by rw [hl] at hi; exact hi, fun i H' v H'' x F' γ' M' σ' hx e r _ y => ?_, fun i H' F' M' e hm _ hi => by rw [hl] at hi; exact hi⟩
  obtain ⟨rfl, c, hc, rfl⟩ := y
  rw [List.getElem?_map, List.getElem?_map, Array.getElem?_toList, hc] at hx
  cases hx
  exact ⟨F', Same.refl F', r, .str _⟩
section
variable {X : Cx}
/-- text * 0 or 1 -/
theorem op_mulS : OpR X (binaryOp .Mult) (fun x y H Q => ∃ (z : Str) (b : Bool), x = V.str z ∧ y = V.int (if b then 1 else 0) ∧ Q (.str (if b then z else Str.empty)) H) := by
  intro pins s σ H x y v u Q I rx ry h
  obtain ⟨z, b, rfl, rfl, q⟩ := h
  obtain ⟨t, rfl⟩ := rx
  obtain ⟨t', rfl⟩ := ry
  cases b with
  | false => exact PySem.P.mul_str_none (by decide) (by decide) ⟨.str Str.empty, H, I.tok _, ⟨_, rfl⟩, q⟩
  | true =>
    refine PySem.P.mul_str (by decide) (fun _ h => by cases h) (fun _ h => by cases h) ?_
    rw [if_neg (by decide), if_pos rfl]
    exact ⟨.str z, H, I, ⟨t, rfl⟩, q⟩
end
section
variable {Y : Ct} {γ : List S} {M M1 M2 : MM} {e o a b : Expr} {es : List Expr} {pos apos p p2 : Pos} {i : Int} {z y : Str}
theorem i_str {tg it : Expr} (h : EV Y it γ M (.d (.str z)) M1) : EI Y tg it γ M ((z.cps.toList.map sgn).map S.d) (fun _ => True) M1 :=
  ⟨_, pi_str h.pe, fun F σ H R r ex k => ⟨F, r, fun F1 v H1 e1 r1 v1 => by
    cases v1
    exact ⟨z, rfl, k F1 H1 _ e1 r1 (walks_s z)⟩, ex⟩⟩
/-- str(number) -/
theorem e_strI (hg : Gl Y.X "str" := by rfl) (hm : Y.X.mg "str" = none) (ha : EA Y (e :: es) γ M [.d (.int i)] M1) (hl : i.natAbs.log2 < 1920)
    (he : starEach (e :: es) Y.X.env = (false, eval e Y.X.env) :: starEach es Y.X.env := by rfl) (hpl : (backTo pos (starEach es Y.X.env)).any (·.1) = false := by rfl) : EV Y (.Call (.Name "str" p) (e :: es) [] pos) γ M (.d (.str (Str.ofString (toString i)))) M1 :=
  e_callTy call_str_int hg hm (by decide +kernel) ha (he := he) (hpl := hpl) (hr := ⟨fun F vs H Q hm h q => by
    obtain ⟨v, rfl, h1⟩ := pair_one h
    cases h1
    exact ⟨i, rfl, hl, q F _ H (Same.refl F) hm (.str _)⟩⟩)
/-- int(text) -/
theorem e_intS {n : Int} (hg : Gl Y.X "int" := by rfl) (hm : Y.X.mg "int" = none) (ha : EA Y (e :: es) γ M [.d (.str z)] M1) (hn : PySem.intText? z = some n) (hl : z.length ≤ 640)
    (he : starEach (e :: es) Y.X.env = (false, eval e Y.X.env) :: starEach es Y.X.env := by rfl) (hpl : (backTo pos (starEach es Y.X.env)).any (·.1) = false := by rfl) : EV Y (.Call (.Name "int" p) (e :: es) [] pos) γ M (.d (.int n)) M1 :=
  e_callTy call_int_str hg hm (by decide +kernel) ha (he := he) (hpl := hpl) (hr := ⟨fun F vs H Q hm h q => by
    obtain ⟨v, rfl, h1⟩ := pair_one h
    cases h1
    exact ⟨z, n, rfl, hn, hl, q F _ H (Same.refl F) hm (.int _)⟩⟩)
/-- text + text -/
theorem e_catS (ha : EV Y a γ M (.d (.str z)) M1) (hb : EV Y b γ M1 (.d (.str y)) M2) (hl : z.length + y.length ≤ 100000) : EV Y (.BinOp a .Add b pos) γ M (.d (.str (z ++ y))) M2 :=
  e_op op_add_str ha hb ⟨fun F v w H Q hm h1 h2 q => by cases h1; cases h2; exact ⟨z, y, rfl, rfl, Nat.le_trans hl (by decide), q F _ H (Same.refl F) hm (.str _)⟩⟩
/-- text * int(truth) -/
theorem e_mulS {c : Bool} (ha : EV Y a γ M (.d (.str z)) M1) (hb : EV Y b γ M1 (.d (.int (if c then 1 else 0))) M2) : EV Y (.BinOp a .Mult b pos) γ M (.d (.str (if c then z else Str.empty))) M2 :=
  e_op op_mulS ha hb ⟨fun F v w H Q hm h1 h2 q => by cases h1; cases h2; exact ⟨z, c, rfl, rfl, q F _ H (Same.refl F) hm (.str _)⟩⟩
/-- a sign in a text -/
theorem rv_inS {K : PySem.W.Frag} {c : Nat} : RV K (fun x y H Q => ∃ (c : Nat) (z : Str), x = .str ⟨#[c]⟩ ∧ y = .str z ∧ Q (.bl (decide (c ∈ z.cps.toList))) H) (.d (sgn c)) (.d (.str z)) M (.d (.bool (decide (c ∈ z.cps.toList)))) M :=
  ⟨fun F v w H Q hm h1 h2 q => by cases h1; cases h2; exact ⟨c, z, rfl, rfl, q F _ H (Same.refl F) hm (.bl _)⟩⟩
theorem e_inS {c : Nat} (ha : EV Y a γ M (.d (sgn c)) M1) (hb : EV Y b γ M1 (.d (.str z)) M2) (hmk : behindInMarks .In b = false := by with_unfolding_all rfl) : EV Y (.Compare a [.In] [b] pos) γ M (.d (.bool (decide (c ∈ z.cps.toList)))) M2 :=
  e_bin (f := fun _ _ => pure .none) (fun h1 h2 => pe_cmpR op_in_sign h1 h2 hmk) ha hb rv_inS
/-- text[lo:hi] -/
theorem e_sliceS {lo hi : Option Expr} {l h : Option Int} (ha : EV Y a γ M (.d (.str z)) M1) (h1 : EO Y lo γ M1 l) (h2 : EO Y hi γ M1 h) (hz : z.length ≤ 100000) : EV Y (.Subscript a (.Slice lo hi none p2) pos) γ M (.d (.str (cutS z l h))) M1 := by
  obtain ⟨tl, pl, ql⟩ := h1.ex
  obtain ⟨th, ph, qh⟩ := h2.ex
  refine ⟨PE.imp (pe_slice sl_str ha.pe pl ph) fun σ H Q ⟨F, r, q, ex⟩ => ⟨F, r, fun F1 v H1 e1 r1 w1 => ql F1 σ H1 _ r1 (ex.mono e1) fun F2 H2 e2 r2 => qh F2 σ H2 _ r2 (ex.mono (e1.trans e2)) fun F3 H3 e3 r3 => ?_, ex⟩⟩
  cases w1
  exact ⟨z, rfl, Nat.le_trans hz (by decide), q F3 _ H3 ((e1.trans e2).trans e3) r3 (.str _)⟩
/-- text[i] -/
theorem e_ixS {c : Nat} (ha : EV Y a γ M (.d (.str z)) M1) (hb : EV Y b γ M1 (.d (.int i)) M2) (h : atI z.cps.toList i = some c) (hz : z.length ≤ 100000) (hs : PlainIx b := by exact fun _ _ => rfl) : EV Y (.Subscript a b pos) γ M (.d (sgn c)) M2 :=
  e_bin (f := fun _ _ => pure .none) (fun h1 h2 => pe_ix ix_str h1 h2 hs) ha hb ⟨fun F v w H Q hm h1 h2 q => by cases h1; cases h2; exact ⟨z, i, c, rfl, rfl, Nat.le_trans hz (by decide), h, q F _ H (Same.refl F) hm (.str _)⟩⟩
theorem dps_strs {K : PySem.W.Frag} {H : Hp} : ∀ ys : List Str, DpAll K H (ys.map V.str) (ys.map PyData.str)
  | [] => .nil
  | y :: ys => .cons (.str y) (dps_strs ys)
theorem dps_strs_of {K : PySem.W.Frag} {H : Hp} : ∀ {vs : List V} {ys : List Str}, DpAll K H vs (ys.map PyData.str) → vs = ys.map V.str
  | _, [], h => by cases h; rfl
  | _, y :: ys, h => by
    cases h with
    | cons h1 h2 =>
      cases h1
      rw [dps_strs_of h2]
      rfl
/-- text.split(sep) -/
theorem e_split (ho : EV Y o γ M (.d (.str z)) M1) (he : EV Y e γ M1 (.d (.str y)) M2) (hy : (y.length == 0) = false) (hz : z.length ≤ 100000)
    (hs : starEach [e] Y.X.env = [(false, eval e Y.X.env)] := by rfl) (hbase : attributeBase o "split" Y.X.env (eval o Y.X.env) = eval o Y.X.env := by rfl) (hline : (apos.endLine == pos.line) = true := by rfl) :
    EV Y (.Call (.Attribute o "split" apos) [e] [] pos) γ M (.d (.list ((Txt.split z y).map PyData.str))) M2 :=
  ⟨PE.imp (pe_split ho.pe he.pe hs hbase hline) fun σ H Q ⟨F, r, q, ex⟩ => ⟨F, r, fun F1 v H1 e1 r1 v1 => by
    cases v1
    refine ⟨⟨z, rfl⟩, F1, r1, fun F2 w H2 e2 r2 w2 => ?_, ex.mono e1⟩
    cases w2
    refine ⟨z, y, rfl, rfl, hy, Nat.le_trans (Nat.add_le_add_right hz 2) (by decide), fun p hp => ?_⟩
    obtain ⟨e3, h3⟩ := r2.hm.newF hp (.lst ((Txt.split z y).map V.str))
    exact q _ _ _ ((e1.trans e2).trans e3) (r2.ext e3 h3) (.lst (.inl (.inl upd_same)) (dps_strs _)), ex⟩⟩
/-- text.partition(sep) -/
theorem e_part (ho : EV Y o γ M (.d (.str z)) M1) (he : EV Y e γ M1 (.d (.str y)) M2) (hy : (y.length == 0) = false) (hz : z.length ≤ 100000)
    (hs : starEach [e] Y.X.env = [(false, eval e Y.X.env)] := by rfl) (hbase : attributeBase o "partition" Y.X.env (eval o Y.X.env) = eval o Y.X.env := by rfl) (hline : (apos.endLine == pos.line) = true := by rfl) :
    EV Y (.Call (.Attribute o "partition" apos) [e] [] pos) γ M (.d (.tuple [.str (Txt.partition z y).1, .str (Txt.partition z y).2.1, .str (Txt.partition z y).2.2])) M2 :=
  ⟨PE.imp (pe_partition ho.pe he.pe hs hbase hline) fun σ H Q ⟨F, r, q, ex⟩ => ⟨F, r, fun F1 v H1 e1 r1 v1 => by
    cases v1
    refine ⟨⟨z, rfl⟩, F1, r1, fun F2 w H2 e2 r2 w2 => ?_, ex.mono e1⟩
    cases w2
    refine ⟨z, y, rfl, rfl, hy, Nat.le_trans hz (by decide), fun p hp => ?_⟩
    obtain ⟨e3, h3⟩ := r2.hm.newF hp (.tup [.str (Txt.partition z y).1, .str (Txt.partition z y).2.1, .str (Txt.partition z y).2.2])
    exact q _ _ _ ((e1.trans e2).trans e3) (r2.ext e3 h3) (.tup (.inl (.inl upd_same)) (dps_strs [(Txt.partition z y).1, (Txt.partition z y).2.1, (Txt.partition z y).2.2])), ex⟩⟩
theorem strs_pair {K : PySem.W.Frag} {F : Hp} : ∀ {vs : List V} {ys : List Str}, Paired (SR K F) vs (ys.map fun y => S.d (.str y)) → vs = ys.map V.str
  | _, [], h => by cases h; rfl
  | _, y :: ys, h => by
    cases h with
    | cons h1 h2 =>
      cases h1
      rw [strs_pair h2]
      rfl
/-- sep.join(list) -/
theorem e_join {ys : List Str} {s : S} (ho : EV Y o γ M (.d (.str y)) M1) (he : EV Y e γ M1 s M2) (hv : VL M2 s (ys.map fun y => S.d (.str y))) (hz : (ys.map (·.length)).sum + ys.length * y.length ≤ 16777216)
    (hs : starEach [e] Y.X.env = [(false, eval e Y.X.env)] := by rfl) (hbase : attributeBase o "join" Y.X.env (eval o Y.X.env) = eval o Y.X.env := by rfl) (hline : (apos.endLine == pos.line) = true := by rfl) :
    EV Y (.Call (.Attribute o "join" apos) [e] [] pos) γ M (.d (.str (Str.join y ys))) M2 :=
  ⟨PE.imp (pe_join ho.pe he.pe hs hbase hline) fun σ H Q ⟨F, r, q, ex⟩ => ⟨F, r, fun F1 v H1 e1 r1 v1 => by
    cases v1
    refine ⟨⟨y, rfl⟩, F1, r1, fun F2 w H2 e2 r2 w2 => ?_, ex.mono e1⟩
    obtain ⟨a, vs, rfl, g1, g2⟩ := hv.ok r2.hm w2
    rw [strs_pair g2] at g1
    refine ⟨y, a, ys, rfl, rfl, .inl g1, hz, ?_⟩
    rw [TL.join_eq]
    exact q F2 _ H2 (e1.trans e2) r2 (.str _), ex⟩⟩
end
end Mi

/-! Mi: str(text), list.count(data). -/
namespace Mi
open PySem PySem.Spec PyProof.Rows L2
section
variable {X : Cx}
def rCountD (K : PySem.W.Frag) : V → List V → Hp → VK → Prop := fun x xs H Q => ∃ (a : Addr) (y : V) (d : PyData) (ds : List PyData), x = V.ref a ∧ xs = [y] ∧ Dp K H (V.ref a) (.list ds) ∧ Dp K H y d ∧
  SeqAt.shaped (.list ds) = true ∧ SeqAt.shaped d = true ∧ Q (.int ((ds.countP fun z => PyData.eqv z d : Nat) : Int)) H
theorem mt_countD (hu : X.A.units + 65 < cLine) : MtR X "list.count" (rCountD X.K) := by
  intro pins s σ H x xs v us Q I rx rxs h
  obtain ⟨a, y, d, ds, rfl, rfl, hl, hy, sl, sd, q⟩ := h
  cases rx
  cases rxs with
  | cons ry rt =>
    rename_i uy ut
    cases rt
    obtain ⟨bs, r1⟩ := Dp.reads I d y uy hy ry
    have hxs : PyData.canLayAll0 ds = true := SeqAt.canLay_of_shaped sl
    have hroom : X.A.units + 1 + min (PyData.depthAll ds) d.depth < cLine := room_in_shaped sd hu
    cases hl with
    | lst hs ha =>
      obtain ⟨its, rv, ⟨⟨cls, dd, data, sls⟩, n, ho, hc, hdn, hdt⟩, hlen⟩ := I.list hs
      simp only at hc hdt
      subst hc hdt
      obtain ⟨as, h4⟩ := Dp.readsAll I ds _ its ha rv
      have hmap : its.map (SeqAt.readOf s.heap) = ds := SeqAt.readsAll_map ds its as hxs h4
      refine call_meets PySem.F.slot_list_count ⟨_, ho, rfl⟩ PySem.F.entry_list_count (PySem.F.args_list_count_2 _ _)
        (SeqAt.list_countAt a its.toArray n dd sls uy (fun u => PyData.eqv (SeqAt.readOf s.heap u) d)) ⟨ho, SeqAt.items_eqAt (vs := its.toArray) (show ReadsAll s.heap its.toArray.toList ds as from h4) r1 hxs (SeqAt.canLay_of_shaped sd) hroom, ?_⟩
      have ec : its.toArray.toList.countP (fun u => PyData.eqv (SeqAt.readOf s.heap u) d) = ds.countP fun z => PyData.eqv z d := by
        rw [← hmap, List.countP_map]
        rfl
      refine ⟨.int ((ds.countP fun z => PyData.eqv z d : Nat) : Int), H, I.tok _, ⟨s.toks, ?_⟩, q⟩
      show Value.int ((its.toArray.toList.countP (fun u => PyData.eqv (SeqAt.readOf s.heap u) d) : Nat) : Int) s.toks = _
      rw [ec]
end
/-- str(text) -/
theorem e_strS {Y : Ct} {γ : List S} {M M1 : MM} {e : Expr} {es : List Expr} {p pos : Pos} {z : Str} (hg : Gl Y.X "str" := by rfl) (hm : Y.X.mg "str" = none) (ha : EA Y (e :: es) γ M [.d (.str z)] M1)
    (he : starEach (e :: es) Y.X.env = (false, eval e Y.X.env) :: starEach es Y.X.env := by rfl) (hpl : (backTo pos (starEach es Y.X.env)).any (·.1) = false := by rfl) : EV Y (.Call (.Name "str" p) (e :: es) [] pos) γ M (.d (.str z)) M1 :=
  e_callTy SkE.call_str_str hg hm (by decide +kernel) ha (he := he) (hpl := hpl) (hr := ⟨fun F vs H Q hm h q => by
    obtain ⟨v, rfl, h1⟩ := pair_one h
    cases h1
    exact ⟨z, rfl, q F _ H (Same.refl F) hm (.str _)⟩⟩)
section
variable {Y : Ct} {γ : List S} {M M1 M2 : MM} {s1 s2 : S} {o e : Expr} {pos : Pos}
/-- l.count(x): data -/
theorem e_countD {n : Nat} (hu : Y.X.A.units + 65 < cLine) {d : PyData} {ds : List PyData} {apos : Pos} (ho : EV Y o γ M (.d (.list ds)) M1) (he : EA Y [e] γ M1 [.d d] M2) (h1 : SeqAt.shaped (.list ds) = true) (h2 : SeqAt.shaped d = true) (hn : (ds.countP fun z => PyData.eqv z d) = n)
    (hbase : attributeBase o "count" Y.X.env (eval o Y.X.env) = eval o Y.X.env := by rfl)
    (hfew : ((backTo pos (starEach [e] Y.X.env)).all (fun x => !x.1) && (backToKw pos (keywordEach [] Y.X.env)).all (fun x => x.1.isSome)
      && decide ([e].length + ([] : List Keyword).length + (if ([] : List Keyword).isEmpty then 0 else 1) < 30)) = true := by rfl)
    (hline : (apos.endLine == pos.line) = true := by rfl) (hs : starEach [e] Y.X.env = (false, eval e Y.X.env) :: starEach [] Y.X.env := by rfl) (hplain : (backTo pos (starEach [] Y.X.env)).any (·.1) = false := by rfl) :
    EV Y (.Call (.Attribute o "count" apos) [e] [] pos) γ M (.d (.int (n : Int))) M2 :=
  ⟨PE.imp (pe_bm PySem.F.plainAttrs_list PySem.F.slot_list_count PySem.F.type_list_count (mt_countD hu) ho.pe he.pa hbase hfew hline hs hplain) fun σ H Q ⟨F, r, qq, ex⟩ => ⟨F, r, fun F1 v H1 e1 r1 v1 => by
    have v1' := v1
    cases v1 with
    | lst hs1 ha1 =>
    refine ⟨Or.inl ⟨rfl, _, r1.hm.fh.seq hs1⟩, F1, r1, fun F2 vs H2 e2 r2 v2 => ?_, ex.mono e1⟩
    obtain ⟨v, rfl, sv⟩ := pair_one v2
    refine ⟨_, _, d, ds, rfl, rfl, ?_, ?_, h1, h2, ?_⟩
    · exact (Vw.d (M := M2)).ok r2.hm ((SR.mono e2 v1' : SR Y.X.K F2 _ (.d (.list ds))))
    · exact (Vw.d (M := M2)).ok r2.hm sv
    · exact hn ▸ qq F2 _ H2 (e1.trans e2) r2 (.int _), ex⟩⟩
end
end Mi

namespace Pl
open PySem PySem.Spec PyProof.Rows L2 Mi
section
variable {P : Program} {w : World} {K : PySem.W.Frag} {mg : Str → Option Value} {base : Heap}
structure Fd where
  c : Int
  k : Int
  f : Int
def Fd.on (F : Fd) : Bool := decide (F.f = 1) && decide (0 < F.c)
def Fd.mix (F : Fd) : Int := ((F.c % 1000000000000000000 + 7919 * F.k * F.k + F.k) * 48271 % 2305843009213693951 * 1442695040888963407 + 4321) % 2305843009213693921
def Fd.v (F : Fd) (m : Int) : Int := if F.on = true then F.c % m else F.mix.fdiv 16 % m
def Fd.nx (F : Fd) (m : Int) : Fd := if F.on = true then ⟨F.c.fdiv m, F.k + 1, F.f⟩ else ⟨F.c, F.k + 1, F.f⟩
/-- at most n draws so far -/
def Fk (n : Nat) (F : Fd) : Prop := 0 ≤ F.k ∧ F.k ≤ n
theorem Fd.v_nn (F : Fd) {m : Int} (h : 0 < m) : 0 ≤ F.v m := by
  unfold Fd.v
  split <;> exact Int.emod_nonneg _ (by omega)
theorem Fd.v_lt (F : Fd) {m : Int} (h : 0 < m) : F.v m < m := by
  unfold Fd.v
  split <;> exact Int.emod_lt_of_pos _ h
theorem Fk.nx {n : Nat} {F : Fd} (h : Fk n F) (m : Int) : Fk (n + 1) (F.nx m) := by
  obtain ⟨h1, h2⟩ := h
  unfold Fd.nx
  split <;> exact ⟨by show 0 ≤ F.k + 1; omega, by show F.k + 1 ≤ _; omega⟩
theorem Fk.mono {n m : Nat} {F : Fd} (h : Fk n F) (k : n ≤ m) : Fk m F := ⟨h.1, by have := h.2; omega⟩
theorem gs {α : Type} {M : List α} {i : Nat} {x : α} (h : i < M.length) : (M.set i x)[i]? = some x := List.getElem?_set_self h
theorem mul_ok {i j : Int} {a b : Nat} (ha : i.natAbs < 2 ^ a) (hb : j.natAbs < 2 ^ b) (h0 : 0 < a := by decide) (h1 : 0 < b := by decide) (h : a + b ≤ 1000000 := by decide) : CMulW i j := wide_mul ha hb h0 h1 h
theorem div_ok {i j : Int} {b : Nat} (hj : j ≠ 0) (hb : j.natAbs < 2 ^ b) (h0 : 0 < b := by decide) (h1 : b ≤ 9000 := by decide) : CDivG i j := ⟨hj, Nat.lt_of_lt_of_le (PySem.Flt.log2_lt_of h0 hb) h1⟩
theorem ga1 {α : Type} (M : List α) (a : α) : (M ++ [a])[M.length]? = some a := by simp
theorem sa1 {α : Type} (M : List α) (a c : α) : (M ++ [a]).set M.length c = M ++ [c] := by simp
theorem fb_zero : Fb 1 (0 : Rat) := ⟨by decide, by decide⟩
theorem fb_one : Fb 1 (1 : Rat) := ⟨by decide, by decide⟩
local macro_rules | `(tactic| walk_at "fb") => `(tactic| with_reducible first | assumption | (apply fb_add <;> walk_at "fb") | (apply fb_sub <;> walk_at "fb") | (apply fb_mul <;> walk_at "fb") | (apply fb_div <;> walk_at "fb") | (apply fb_neg <;> walk_at "fb") | exact fb_one | exact fb_zero)
theorem nn_mul {x y : Rat} {n m : Nat} (hx : Fb n x) (hy : Fb m y) (h : n + m ≤ 9000) : CMulW x.num y.num := wide_mul hx.1 hy.1 hx.pos hy.pos (by omega)
theorem nd_mul {x y : Rat} {n m : Nat} (hx : Fb n x) (hy : Fb m y) (h : n + m ≤ 9000) : CMulW x.num y.den := wide_mul hx.1 (nd_lt hy) hx.pos hy.pos (by omega)
theorem dd_mul {x y : Rat} {n m : Nat} (hx : Fb n x) (hy : Fb m y) (h : n + m ≤ 9000) : CMulW x.den y.den := wide_mul (nd_lt hx) (nd_lt hy) hx.pos hy.pos (by omega)
theorem dd_lt {x y : Rat} {n m : Nat} (hx : Fb n x) (hy : Fb m y) (h : n + m ≤ 9000) : ((x.den : Int) * y.den).natAbs < 2 ^ 9000 := Nat.lt_of_lt_of_le (im_lt (nd_lt hx) (nd_lt hy)) (p2_le h)
theorem den_ne (x : Rat) : (x.den : Int) ≠ 0 := by have := x.den_pos; omega
theorem dd_ne (x y : Rat) : (x.den : Int) * y.den ≠ 0 := Int.mul_ne_zero (den_ne x) (den_ne y)
theorem eqv_tup2 (a b c d : PyData) : PyData.eqv (.tuple [a, b]) (.tuple [c, d]) = (PyData.eqv a c && (PyData.eqv b d && true)) := rfl
theorem eqv_fr (x y : Rat) : PyData.eqv (fr x) (fr y) = decide (x = y) := by
  unfold fr
  rw [eqv_tup2, eqv_int, eqv_int, Bool.and_true]
  by_cases h : x = y
  · subst h
    simp
  · rw [decide_eq_false h]
    by_cases h1 : x.num = y.num
    · by_cases h2 : (x.den : Int) = y.den
      · exact absurd (Rat.ext h1 (by omega)) h
      · rw [decide_eq_false h2, Bool.and_false]
    · rw [decide_eq_false h1, Bool.false_and]
/-- the items of a list in some place -/
theorem mem_of_map {l : List PyData} {i : Nat} {x : S} (h : (l.map S.d)[i]? = some x) : ∃ d ∈ l, x = .d d := by
  rw [List.getElem?_map] at h
  cases e : l[i]? with
  | none => rw [e] at h; cases h
  | some d => rw [e] at h; exact ⟨d, List.mem_of_getElem? e, (Option.some.inj h).symm⟩
/-- the cells that a law walks -/
theorem cells {ns : List Int} {lo hi : Option Int} {i : Nat} {x : S} (h : ((cutL (ns.map PyData.int ++ [.int 0]) lo hi).map S.d)[i]? = some x) : ∃ c : Int, x = .d (.int c) := by
  obtain ⟨d, h2, rfl⟩ := mem_of_map h
  have h3 : d ∈ ns.map PyData.int ++ [.int 0] := List.mem_of_mem_drop (List.mem_of_mem_take h2)
  rcases List.mem_append.mp h3 with h4 | h4
  · obtain ⟨c, _, rfl⟩ := List.mem_map.mp h4
    exact ⟨c, rfl⟩
  · exact ⟨0, by rw [List.mem_singleton.mp h4]⟩
local macro_rules | `(tactic| walk_at "fk") => `(tactic| with_reducible first | assumption | (apply Fk.nx; walk_at "fk"))
theorem fb_int {a : Int} {n : Nat} (h : a.natAbs < 2 ^ n) (h0 : 0 < n) : Fb n (a : Rat) := ⟨h, by show (1 : Nat) < _; exact one_lt_p2 h0⟩
def Ib (n : Nat) (i : Int) : Prop := 0 < n ∧ i.natAbs < 2 ^ n
theorem two_le {n : Nat} (h : 0 < n) : 2 ≤ 2 ^ n := by
  cases n with
  | zero => omega
  | succ n => rw [Nat.pow_succ]; have := Nat.two_pow_pos n; omega
theorem ib_num {x : Rat} {n : Nat} (h : Fb n x) : Ib n x.num := ⟨h.pos, h.1⟩
theorem ib_den {x : Rat} {n : Nat} (h : Fb n x) : Ib n (x.den : Int) := ⟨h.pos, nd_lt h⟩
theorem ib_mul {a b : Int} {n m : Nat} (ha : Ib n a) (hb : Ib m b) : Ib (n + m) (a * b) := ⟨by have := ha.1; omega, im_lt ha.2 hb.2⟩
theorem p2_sum {n m : Nat} (hn : 0 < n) (hm : 0 < m) : 2 ^ n + 2 ^ m ≤ 2 ^ (n + m) := by
  rw [Nat.pow_add]
  have h1 := two_le hn
  have h2 := two_le hm
  have h3 : 2 ^ n * 2 ≤ 2 ^ n * 2 ^ m := Nat.mul_le_mul_left _ h2
  have h4 : 2 * 2 ^ m ≤ 2 ^ n * 2 ^ m := Nat.mul_le_mul_right _ h1
  omega
theorem ib_add {a b : Int} {n m : Nat} (ha : Ib n a) (hb : Ib m b) : Ib (n + m) (a + b) := ⟨by have := ha.1; omega, by have := p2_sum ha.1 hb.1; have := ha.2; have := hb.2; omega⟩
theorem ib_sub {a b : Int} {n m : Nat} (ha : Ib n a) (hb : Ib m b) : Ib (n + m) (a - b) := ⟨by have := ha.1; omega, by have := p2_sum ha.1 hb.1; have := ha.2; have := hb.2; omega⟩
theorem ib_neg {a : Int} {n : Nat} (ha : Ib n a) : Ib n (-a) := ⟨ha.1, by rw [Int.natAbs_neg]; exact ha.2⟩
theorem ib_lit {a : Int} (h : Nat.ble (a.natAbs + 1) 18446744073709551616 = true) : Ib 64 a := ⟨by decide, by have := Nat.le_of_ble_eq_true h; show a.natAbs < 18446744073709551616; omega⟩
theorem ib_lit2 {a : Int} (h : Nat.ble (a.natAbs + 1) 1645504557321206042154969182557350504982735865633579863348609024 = true) : Ib 210 a := ⟨by decide, by
  have h2 := Nat.le_of_ble_eq_true h
  have e210 : (2 : Nat) ^ 210 = 1645504557321206042154969182557350504982735865633579863348609024 := by decide
  rw [e210]
  omega⟩
theorem ib_n (n : Nat) {a : Int} (h : (Nat.blt 0 n && Nat.ble (a.natAbs + 1) (2 ^ n)) = true) : Ib n a := by
  rw [Bool.and_eq_true] at h
  exact ⟨Nat.le_of_ble_eq_true h.1, Nat.le_of_ble_eq_true h.2⟩
theorem ib_v {F : Fd} {m : Int} {n : Nat} (hm : Ib n m) (h0 : 0 < m) : Ib n (F.v m) := ⟨hm.1, by have := F.v_nn h0; have := F.v_lt h0; have := hm.2; omega⟩
theorem Ib.mono {a : Int} {n m : Nat} (h : Ib n a) (k : n ≤ m) : Ib m a := ⟨by have := h.1; omega, Nat.lt_of_lt_of_le h.2 (p2_le k)⟩
theorem cmul_ib {a b : Int} {n m : Nat} (ha : Ib n a) (hb : Ib m b) (h : n + m ≤ 1000000) : CMulW a b := wide_mul ha.2 hb.2 ha.1 hb.1 h
theorem lt_ib {b : Int} {n : Nat} (hb : Ib n b) (h : n ≤ 9000) : b.natAbs < 2 ^ 9000 := Nat.lt_of_lt_of_le hb.2 (p2_le h)
theorem lt_ib8 {b : Int} {n : Nat} (hb : Ib n b) (h : n ≤ 8000) : b.natAbs < 2 ^ 8000 := Nat.lt_of_lt_of_le hb.2 (p2_le h)
theorem fb_ib {a b : Int} {n m : Nat} (ha : Ib n a) (hb : Ib m b) : Fb (n + m) (Rat.divInt a b) := fb_divInt (ha.mono (by omega)).2 (hb.mono (by omega)).2 (one_lt_p2 (by have := ha.1; omega))
theorem one_v {F : Fd} {m : Int} (h : 0 < m) : 1 + F.v m ≠ 0 := by have := F.v_nn h; omega
local macro_rules | `(tactic| walk_at "ib") => `(tactic| with_reducible first | assumption | (apply ib_num; walk_at "fb") | (apply ib_den; walk_at "fb") | (apply ib_mul <;> walk_at "ib") | (apply ib_add <;> walk_at "ib") | (apply ib_sub <;> walk_at "ib") | (apply ib_neg; walk_at "ib") | (apply ib_v; walk_at "ib"; decide) | exact ib_n 2 (by decide) | exact ib_n 6 (by decide) | exact ib_n 12 (by decide) | exact ib_n 20 (by decide) | exact ib_n 32 (by decide) | exact ib_lit (by decide) | exact ib_lit2 (by decide))
local macro_rules | `(tactic| walk_at "nz") => `(tactic| first | with_reducible exact den_ne _ | assumption | ((with_reducible apply one_v); decide) | ((with_reducible apply Int.mul_ne_zero) <;> walk_at "nz") | omega | decide)
local macro_rules | `(tactic| walk_at "ob") => `(tactic| first | ((with_reducible apply cmul_ib); walk_at "ib"; walk_at "ib"; omega) | ((with_reducible apply lt_ib); walk_at "ib"; omega) | ((with_reducible apply lt_ib8); walk_at "ib"; omega) | walk_at "nz" | (with_reducible rfl) | omega | decide | assumption | exact k_int_int | exact k_int_bool | exact k_bool_bool | exact k_tuple_tuple)
local macro_rules | `(tactic| walk_at "eqv") => `(tactic| first | exact SeqAt.eqv_refl _ rfl | (rw [eqv_fr]; first | exact decide_eq_true (by assumption) | exact decide_eq_false (by assumption)))
local macro_rules | `(tactic| walk_at "dec") => `(tactic| first | rfl | decide | exact decide_eq_true (by omega) | exact decide_eq_false (by omega))

structure Pt where
  x : Rat
  y : Rat
deriving DecidableEq
def pt (p : Pt) : PyData := .tuple [fr p.x, fr p.y]
def Pb (n : Nat) (p : Pt) : Prop := Fb n p.x ∧ Fb n p.y
def Pt.add (p q : Pt) : Pt := ⟨p.x + q.x, p.y + q.y⟩
def Pt.sub (p q : Pt) : Pt := ⟨p.x - q.x, p.y - q.y⟩
def Pt.smul (p : Pt) (t : Rat) : Pt := ⟨p.x * t, p.y * t⟩
def Pt.along (p q : Pt) : Rat := p.x * q.x + p.y * q.y
def Pt.across (p q : Pt) : Rat := p.x * q.y - p.y * q.x
def Pt.far (p q : Pt) : Rat := (p.sub q).along (p.sub q)
theorem Pb.fx {n : Nat} {p : Pt} (h : Pb n p) : Fb n p.x := h.1
theorem Pb.fy {n : Nat} {p : Pt} (h : Pb n p) : Fb n p.y := h.2
theorem Pb.mono {n m : Nat} {p : Pt} (h : Pb n p) (k : n ≤ m) : Pb m p := ⟨h.1.mono k, h.2.mono k⟩
theorem pb_add {p q : Pt} {n m : Nat} (hp : Pb n p) (hq : Pb m q) : Pb (n + m + 1) (p.add q) := ⟨fb_add hp.1 hq.1, fb_add hp.2 hq.2⟩
theorem pb_sub {p q : Pt} {n m : Nat} (hp : Pb n p) (hq : Pb m q) : Pb (n + m + 1) (p.sub q) := ⟨fb_sub hp.1 hq.1, fb_sub hp.2 hq.2⟩
theorem pb_smul {p : Pt} {t : Rat} {n m : Nat} (hp : Pb n p) (ht : Fb m t) : Pb (n + m) (p.smul t) := ⟨fb_mul hp.1 ht, fb_mul hp.2 ht⟩
theorem fb_along {p q : Pt} {n m : Nat} (hp : Pb n p) (hq : Pb m q) : Fb (n + m + (n + m) + 1) (p.along q) := fb_add (fb_mul hp.1 hq.1) (fb_mul hp.2 hq.2)
theorem fb_across {p q : Pt} {n m : Nat} (hp : Pb n p) (hq : Pb m q) : Fb (n + m + (n + m) + 1) (p.across q) := fb_sub (fb_mul hp.1 hq.2) (fb_mul hp.2 hq.1)
theorem fb_far {p q : Pt} {n m : Nat} (hp : Pb n p) (hq : Pb m q) : Fb (n + m + 1 + (n + m + 1) + (n + m + 1 + (n + m + 1)) + 1) (p.far q) := fb_along (pb_sub hp hq) (pb_sub hp hq)
local macro_rules | `(tactic| walk_at "fb") => `(tactic| with_reducible first | (apply Pb.fx; walk_at "fb") | (apply Pb.fy; walk_at "fb") | (apply pb_add <;> walk_at "fb") | (apply pb_sub <;> walk_at "fb") | (apply pb_smul <;> walk_at "fb") | (apply fb_along <;> walk_at "fb") | (apply fb_across <;> walk_at "fb") | (apply fb_far <;> walk_at "fb"))
def Pt.quarter (p : Pt) : Pt := ⟨-p.y, p.x⟩
def Pt.turn (p : Pt) : Nat → Pt
  | 0 => p
  | n + 1 => (p.turn n).quarter
theorem pt_eqv (p q : Pt) : PyData.eqv (pt p) (pt q) = decide (p = q) := by
  show (PyData.eqv (fr p.x) (fr q.x) && (PyData.eqv (fr p.y) (fr q.y) && true)) = _
  rw [eqv_fr, eqv_fr, Bool.and_true]
  cases p; cases q
  simp only [Pt.mk.injEq, Bool.decide_and]
/-- above, at, below -/
def sgI (a b : Int) : Int := (if decide (a > b) = true then 1 else 0) - (if decide (a < b) = true then 1 else 0)
def lessI (x y : Rat) : Int := x.num * y.den - y.num * x.den
theorem ib_less {x y : Rat} {n m : Nat} (hx : Fb n x) (hy : Fb m y) : Ib (n + m + (m + n)) (lessI x y) := ib_sub (ib_mul (ib_num hx) (ib_den hy)) (ib_mul (ib_num hy) (ib_den hx))
local macro_rules | `(tactic| walk_at "ib") => `(tactic| with_reducible (apply ib_less <;> walk_at "fb"))
def Pt.before (p q : Pt) : Bool := decide (p.x < q.x) || (decide (p.x = q.x) && decide (p.y < q.y))
theorem mul_den_num (x : Rat) : x * x.den = x.num := by
  have h : (x.den : Rat) ≠ 0 := by
    intro h
    have : x.den = 0 := by exact_mod_cast h
    exact x.den_nz this
  have h2 : x = (x.num : Rat) / (x.den : Rat) := by
    conv => lhs; rw [← Rat.num_divInt_den x, Rat.divInt_eq_div]
    rw [Rat.intCast_natCast]
  have h3 : (x.num : Rat) / x.den * x.den = x.num := by grind
  rw [← h2] at h3
  exact h3
theorem num_pos (q : Rat) : 0 < q.num ↔ 0 < q := by
  have h := @Rat.num_nonneg (-q)
  rw [Rat.neg_num] at h
  constructor
  · intro h1
    by_cases h2 : 0 < q
    · exact h2
    · have : (0 : Rat) ≤ -q := by grind
      have := h.mpr this
      omega
  · intro h1
    rcases Int.lt_or_le 0 q.num with h2 | h2
    · exact h2
    · have := h.mp (by omega)
      grind
theorem num_neg (q : Rat) : q.num < 0 ↔ q < 0 := by
  have h := num_pos (-q)
  rw [Rat.neg_num] at h
  constructor
  · intro h1
    have := h.mp (by omega)
    grind
  · intro h1
    have := h.mpr (by grind)
    omega
theorem fb_int8 {a : Int} (h : a.natAbs < 2 ^ 8) : Fb 8 (a : Rat) := fb_int h (by decide)
local macro_rules | `(tactic| walk_at "fb") => `(tactic| with_reducible first | (apply fb_ib <;> walk_at "ib") | (apply fb_int8; decide))
def Pt.mix (p q : Pt) (t : Rat) : Pt := ⟨p.x + (q.x - p.x) * t, p.y + (q.y - p.y) * t⟩
def onS (a b p : Pt) : Bool := decide (sgI ((b.sub a).across (p.sub a)).num 0 = 0) && (!(p.before a) && !(b.before p))
theorem bef_iff {p q : Pt} : p.before q = true ↔ p.x < q.x ∨ (p.x = q.x ∧ p.y < q.y) := by
  unfold Pt.before
  simp only [Bool.or_eq_true, Bool.and_eq_true, decide_eq_true_eq]
theorem bef_irr (p : Pt) : p.before p = false := by
  cases h : p.before p with
  | false => rfl
  | true =>
    rw [bef_iff] at h
    rcases h with h | ⟨_, h⟩ <;> exact absurd h Rat.lt_irrefl
/-- where a stretch is cut -/
def cutS (a b p : Pt) : Bool := onS a b p && !(decide (p = a)) && !(decide (p = b))
def stD (a b : Pt) : PyData := .tuple [.str "stretch", pt a, pt b]
def dotD (a : Pt) : PyData := .tuple [.str "dot", pt a]

def shU (t : Rat) : Rat := Rat.divInt ((t.den : Int) * t.den - t.num * t.num) ((t.den : Int) * t.den + t.num * t.num)
def shV (t : Rat) : Rat := Rat.divInt (2 * t.num * t.den) ((t.den : Int) * t.den + t.num * t.num)
def Pt.share (c a : Pt) (t : Rat) : Pt := c.add ⟨shU t * (a.x - c.x) - shV t * (a.y - c.y), shV t * (a.x - c.x) + shU t * (a.y - c.y)⟩
theorem sq_ib {i : Int} {k : Nat} (h : i.natAbs < 2 ^ k) : 0 ≤ i * i ∧ i * i < ((2 ^ (2 * k) : Nat) : Int) := by
  have h1 : (i * i).natAbs < 2 ^ (k + k) := im_lt h h
  rw [show k + k = 2 * k by omega] at h1
  have h2 : 0 ≤ i * i := by
    rcases Int.le_total 0 i with h | h
    · exact Int.mul_nonneg h h
    · exact Int.mul_nonneg_of_nonpos_of_nonpos h h
  exact ⟨h2, by omega⟩
theorem fb_uS {t : Rat} {k : Nat} (ht : Fb k t) : Fb (2 * k + 1) (shU t) := by
  obtain ⟨a1, a2⟩ := sq_ib ht.1
  obtain ⟨b1, b2⟩ := sq_ib (nd_lt ht)
  have e : 2 ^ (2 * k + 1) = 2 ^ (2 * k) * 2 := Nat.pow_succ ..
  exact fb_divInt (by omega) (by omega) (one_lt_p2 (by omega))
theorem fb_vS {t : Rat} {k : Nat} (ht : Fb k t) : Fb (2 * k + 1) (shV t) := by
  obtain ⟨a1, a2⟩ := sq_ib ht.1
  obtain ⟨b1, b2⟩ := sq_ib (nd_lt ht)
  have e : 2 ^ (2 * k + 1) = 2 ^ (2 * k) * 2 := Nat.pow_succ ..
  have h1 : (t.num * t.den).natAbs < 2 ^ (k + k) := im_lt ht.1 (nd_lt ht)
  rw [show k + k = 2 * k by omega] at h1
  have e2 : 2 * t.num * t.den = 2 * (t.num * t.den) := Int.mul_assoc ..
  exact fb_divInt (by rw [e2]; omega) (by omega) (one_lt_p2 (by omega))
theorem pb_share {c a : Pt} {t : Rat} {n m k : Nat} (hc : Pb n c) (ha : Pb m a) (ht : Fb k t) : Pb (3 * n + 2 * m + 4 * k + 8) (c.share a t) := by
  have hx := fb_sub ha.1 hc.1
  have hy := fb_sub ha.2 hc.2
  have hu := fb_uS ht
  have hv := fb_vS ht
  exact (pb_add hc (q := ⟨shU t * (a.x - c.x) - shV t * (a.y - c.y), shV t * (a.x - c.x) + shU t * (a.y - c.y)⟩) ⟨fb_sub (fb_mul hu hx) (fb_mul hv hy), fb_add (fb_mul hv hx) (fb_mul hu hy)⟩).mono (by omega)
theorem sq_nn (t : Rat) : 0 ≤ t * t := by
  rcases Rat.le_total (a := 0) (b := t) with h | h
  · exact Rat.mul_nonneg h h
  · have h2 : 0 ≤ -t := by grind
    have := Rat.mul_nonneg h2 h2
    grind
theorem one_sq (t : Rat) : 1 + t * t ≠ 0 := by
  have := sq_nn t
  grind
theorem uS_eq (t : Rat) : shU t = (1 - t * t) / (1 + t * t) := by
  have h1 := mul_den_num t
  have hd : (t.den : Rat) ≠ 0 := by
    intro h
    have : t.den = 0 := by exact_mod_cast h
    exact t.den_nz this
  have h2 := one_sq t
  unfold shU
  rw [Rat.divInt_eq_div]
  simp only [Rat.intCast_add, Rat.intCast_mul, Rat.intCast_sub, Rat.intCast_natCast, ← h1]
  generalize (t.den : Rat) = a at *
  have h3 : a * a + t * a * (t * a) ≠ 0 := by
    have : a * a + t * a * (t * a) = a * a * (1 + t * t) := by grind
    rw [this]
    grind
  grind
theorem vS_eq (t : Rat) : shV t = (t + t) / (1 + t * t) := by
  have h1 := mul_den_num t
  have hd : (t.den : Rat) ≠ 0 := by
    intro h
    have : t.den = 0 := by exact_mod_cast h
    exact t.den_nz this
  have h2 := one_sq t
  unfold shV
  rw [Rat.divInt_eq_div]
  simp only [Rat.intCast_add, Rat.intCast_mul, Rat.intCast_natCast, ← h1]
  generalize (t.den : Rat) = a at *
  have h3 : a * a + t * a * (t * a) ≠ 0 := by
    have : a * a + t * a * (t * a) = a * a * (1 + t * t) := by grind
    rw [this]
    grind
  have : ((2 : Int) : Rat) = 2 := rfl
  grind
local macro_rules | `(tactic| walk_at "fb") => `(tactic| with_reducible first | (apply fb_uS; walk_at "fb") | (apply fb_vS; walk_at "fb") | (apply pb_share <;> walk_at "fb"))
/-- the share told back -/
def Pt.whole (c a p : Pt) : Rat := (a.sub c).along (a.sub c) + (a.sub c).along (p.sub c)
theorem r_pos {c a : Pt} (h : a ≠ c) : 0 < (a.sub c).along (a.sub c) := by
  show 0 < (a.x - c.x) * (a.x - c.x) + (a.y - c.y) * (a.y - c.y)
  have h1 := sq_nn (a.x - c.x)
  have h2 := sq_nn (a.y - c.y)
  have h3 : ¬ ((a.x - c.x) * (a.x - c.x) = 0 ∧ (a.y - c.y) * (a.y - c.y) = 0) := by
    rintro ⟨e1, e2⟩
    refine h ?_
    have z1 : a.x - c.x = 0 := by rcases Rat.mul_eq_zero.mp e1 with z | z <;> exact z
    have z2 : a.y - c.y = 0 := by rcases Rat.mul_eq_zero.mp e2 with z | z <;> exact z
    cases a; cases c
    simp only [Pt.mk.injEq]
    exact ⟨by grind, by grind⟩
  grind
theorem share_sub (c a : Pt) (t : Rat) : (c.share a t).sub c = ⟨shU t * (a.x - c.x) - shV t * (a.y - c.y), shV t * (a.x - c.x) + shU t * (a.y - c.y)⟩ := by
  unfold Pt.share Pt.add Pt.sub
  congr 1 <;> grind
theorem whole_share {c a : Pt} {t : Rat} : c.whole a (c.share a t) = (a.sub c).along (a.sub c) * (1 + shU t) := by
  unfold Pt.whole
  rw [share_sub]
  unfold Pt.along Pt.sub
  grind
theorem across_share {c a : Pt} {t : Rat} : (a.sub c).across ((c.share a t).sub c) = (a.sub c).along (a.sub c) * shV t := by
  rw [share_sub]
  unfold Pt.along Pt.across Pt.sub
  grind
theorem uS1 (t : Rat) : 1 + shU t = 2 / (1 + t * t) := by
  have := one_sq t
  rw [uS_eq]
  grind
theorem share_0 (c a : Pt) : c.share a 0 = a := by
  have h1 : shU 0 = 1 := by decide
  have h2 : shV 0 = 0 := by decide
  unfold Pt.share Pt.add
  rw [h1, h2]
  cases a
  congr 1 <;> grind
def qOf (s l : Rat) : Int := if 0 < s ∧ 0 ≤ l then 0 else if 0 < l then 1 else if s < 0 then 2 else 3
def aheadB (c f p q : Pt) : Bool :=
  if qOf ((f.sub c).along (p.sub c)) ((f.sub c).across (p.sub c)) ≠ qOf ((f.sub c).along (q.sub c)) ((f.sub c).across (q.sub c)) then decide (qOf ((f.sub c).along (p.sub c)) ((f.sub c).across (p.sub c)) < qOf ((f.sub c).along (q.sub c)) ((f.sub c).across (q.sub c)))
  else decide (0 < (p.sub c).across (q.sub c))
/-- the place of a point: in which part of the way round, and how far by the half of the angle -/
def placeP (c f p : Pt) : Int × Rat :=
  if c.whole f p = 0 then (1, 0) else if (f.sub c).across (p.sub c) < 0 then (2, (f.sub c).across (p.sub c) / c.whole f p) else (0, (f.sub c).across (p.sub c) / c.whole f p)
def earlierB (z w : Int × Rat) : Bool := if z.1 ≠ w.1 then decide (z.1 < w.1) else decide (z.2 < w.2)
/-- on the circle -/
def OnC (c f p : Pt) : Prop := (p.sub c).along (p.sub c) = (f.sub c).along (f.sub c)
theorem pt_ext {p q : Pt} (h1 : p.x = q.x) (h2 : p.y = q.y) : p = q := by
  cases p; cases q
  simp only [Pt.mk.injEq]
  exact ⟨h1, h2⟩
theorem along_share {c a : Pt} {t : Rat} : (a.sub c).along ((c.share a t).sub c) = (a.sub c).along (a.sub c) * shU t := by
  rw [share_sub]
  unfold Pt.along Pt.sub
  grind
theorem uv_one (t : Rat) : shU t * shU t + shV t * shV t = 1 := by
  have := one_sq t
  rw [uS_eq, vS_eq]
  grind
theorem onC_share (c a : Pt) (t : Rat) : OnC c a (c.share a t) := by
  have h := uv_one t
  unfold OnC
  rw [share_sub]
  unfold Pt.along Pt.sub
  generalize shU t = u at *
  generalize shV t = v at *
  grind
theorem onC_opp (c a : Pt) : OnC c a ((c.add c).sub a) := by
  unfold OnC Pt.along Pt.sub Pt.add
  grind
theorem sum_sq {x y : Rat} (h : x * x + y * y = 0) : x = 0 ∧ y = 0 := by
  have h1 := sq_nn x
  have h2 := sq_nn y
  have e1 : x * x = 0 := by grind
  have e2 : y * y = 0 := by grind
  exact ⟨by rcases Rat.mul_eq_zero.mp e1 with z | z <;> exact z, by rcases Rat.mul_eq_zero.mp e2 with z | z <;> exact z⟩
/-- a point of the circle is opposite, or at a share -/
theorem onC_cases {c f p : Pt} (hf : f ≠ c) (h : OnC c f p) : p = (c.add c).sub f ∨ p = c.share f ((f.sub c).across (p.sub c) / c.whole f p) := by
  have hr := r_pos hf
  unfold OnC at h
  unfold Pt.whole
  by_cases hw : (f.sub c).along (f.sub c) + (f.sub c).along (p.sub c) = 0
  · left
    have e : ((f.x - c.x) + (p.x - c.x)) * ((f.x - c.x) + (p.x - c.x)) + ((f.y - c.y) + (p.y - c.y)) * ((f.y - c.y) + (p.y - c.y)) = 0 := by
      unfold Pt.along Pt.sub at hw h
      grind
    obtain ⟨e1, e2⟩ := sum_sq e
    refine pt_ext ?_ ?_ <;> unfold Pt.add Pt.sub <;> grind
  · right
    generalize ht : (f.sub c).across (p.sub c) / ((f.sub c).along (f.sub c) + (f.sub c).along (p.sub c)) = t
    have h1 := one_sq t
    unfold Pt.share
    rw [uS_eq, vS_eq]
    have hx : ∃ x, x = f.x - c.x := ⟨_, rfl⟩
    have hy : ∃ y, y = f.y - c.y := ⟨_, rfl⟩
    have hu : ∃ u, u = p.x - c.x := ⟨_, rfl⟩
    have hv : ∃ v, v = p.y - c.y := ⟨_, rfl⟩
    obtain ⟨x, hx⟩ := hx
    obtain ⟨y, hy⟩ := hy
    obtain ⟨u, hu⟩ := hu
    obtain ⟨v, hv⟩ := hv
    have hw2 : x * x + y * y + (x * u + y * v) ≠ 0 := by unfold Pt.along Pt.sub at hw; rw [hx, hy, hu, hv]; exact hw
    have hr2 : 0 < x * x + y * y := by unfold Pt.along Pt.sub at hr; rw [hx, hy]; exact hr
    have h2 : u * u + v * v = x * x + y * y := by unfold Pt.along Pt.sub at h; rw [hx, hy, hu, hv]; exact h
    have ht2 : t * (x * x + y * y + (x * u + y * v)) = x * v - y * u := by
      have : t = (x * v - y * u) / (x * x + y * y + (x * u + y * v)) := by rw [← ht, hx, hy, hu, hv]; rfl
      rw [this]
      grind
    have key : (1 + t * t) * (x * x + y * y + (x * u + y * v)) = 2 * (x * x + y * y) := by
      have : (1 + t * t) * (x * x + y * y + (x * u + y * v)) * (x * x + y * y + (x * u + y * v)) = 2 * (x * x + y * y) * (x * x + y * y + (x * u + y * v)) := by grind
      grind
    have gx : (1 - t * t) / (1 + t * t) * x - (t + t) / (1 + t * t) * y = u := by
      have : ((1 - t * t) * x - (t + t) * y) = u * (1 + t * t) := by
        have : (((1 - t * t) * x - (t + t) * y) - u * (1 + t * t)) * (x * x + y * y + (x * u + y * v)) = 0 := by grind
        grind
      grind
    have gy : (t + t) / (1 + t * t) * x + (1 - t * t) / (1 + t * t) * y = v := by
      have : ((t + t) * x + (1 - t * t) * y) = v * (1 + t * t) := by
        have : (((t + t) * x + (1 - t * t) * y) - v * (1 + t * t)) * (x * x + y * y + (x * u + y * v)) = 0 := by grind
        grind
      grind
    refine pt_ext ?_ ?_
    · show p.x = c.x + ((1 - t * t) / (1 + t * t) * (f.x - c.x) - (t + t) / (1 + t * t) * (f.y - c.y))
      rw [← hx, ← hy, gx]
      grind
    · show p.y = c.y + ((t + t) / (1 + t * t) * (f.x - c.x) + (1 - t * t) / (1 + t * t) * (f.y - c.y))
      rw [← hx, ← hy, gy]
      grind
theorem pos_mul_iff {r x : Rat} (hr : 0 < r) : 0 < r * x ↔ 0 < x := by
  have := @Rat.mul_lt_mul_right 0 x r hr
  rw [Rat.zero_mul, Rat.mul_comm x r] at this
  exact this
theorem neg_mul_iff {r x : Rat} (hr : 0 < r) : r * x < 0 ↔ x < 0 := by
  have := @Rat.mul_lt_mul_right x 0 r hr
  rw [Rat.zero_mul, Rat.mul_comm x r] at this
  exact this
theorem uS_pos (t : Rat) : 0 < shU t ↔ -1 < t ∧ t < 1 := by
  have h := one_sq t
  have h0 := sq_nn t
  have hd : 0 < 1 + t * t := by grind
  have e : shU t * (1 + t * t) = (1 - t) * (1 + t) := by rw [uS_eq]; grind
  rw [← pos_mul_iff hd, Rat.mul_comm, e]
  constructor
  · intro h
    constructor
    · by_cases h1 : -1 < t
      · exact h1
      · exfalso
        have : 0 ≤ (1 - t) * (-(1 + t)) := Rat.mul_nonneg (by grind) (by grind)
        grind
    · by_cases h1 : t < 1
      · exact h1
      · exfalso
        have : 0 ≤ (-(1 - t)) * (1 + t) := Rat.mul_nonneg (by grind) (by grind)
        grind
  · rintro ⟨h1, h2⟩
    exact Rat.mul_pos (by grind) (by grind)
theorem uS_neg (t : Rat) : shU t < 0 ↔ t < -1 ∨ 1 < t := by
  have h := one_sq t
  have h0 := sq_nn t
  have hd : 0 < 1 + t * t := by grind
  have e : shU t * (1 + t * t) = (1 - t) * (1 + t) := by rw [uS_eq]; grind
  rw [← neg_mul_iff hd, Rat.mul_comm, e]
  constructor
  · intro h
    by_cases h1 : t < -1
    · exact .inl h1
    · by_cases h2 : 1 < t
      · exact .inr h2
      · exfalso
        have : 0 ≤ (1 - t) * (1 + t) := Rat.mul_nonneg (by grind) (by grind)
        grind
  · rintro (h1 | h1)
    · have : 0 < (1 - t) * (-(1 + t)) := Rat.mul_pos (by grind) (by grind)
      grind
    · have : 0 < (-(1 - t)) * (1 + t) := Rat.mul_pos (by grind) (by grind)
      grind
theorem vS_pos (t : Rat) : 0 < shV t ↔ 0 < t := by
  have h := one_sq t
  have h0 := sq_nn t
  have hd : 0 < 1 + t * t := by grind
  have e : shV t * (1 + t * t) = 2 * t := by rw [vS_eq]; grind
  rw [← pos_mul_iff hd, Rat.mul_comm, e]
  grind
theorem vS_neg (t : Rat) : shV t < 0 ↔ t < 0 := by
  have h := one_sq t
  have h0 := sq_nn t
  have hd : 0 < 1 + t * t := by grind
  have e : shV t * (1 + t * t) = 2 * t := by rw [vS_eq]; grind
  rw [← neg_mul_iff hd, Rat.mul_comm, e]
  grind
theorem qOf_share {r t : Rat} (hr : 0 < r) : qOf (r * shU t) (r * shV t) = if 0 ≤ t then (if t < 1 then 0 else 1) else (if t < -1 then 2 else 3) := by
  unfold qOf
  have h1 : 0 ≤ r * shV t ↔ 0 ≤ t := by
    have := neg_mul_iff (x := shV t) hr
    have h3 := vS_neg t
    constructor
    · intro h
      by_cases h4 : 0 ≤ t
      · exact h4
      · have : r * shV t < 0 := this.mpr (h3.mpr (by grind))
        grind
    · intro h
      by_cases h4 : 0 ≤ r * shV t
      · exact h4
      · have := h3.mp (this.mp (by grind))
        grind
  simp only [pos_mul_iff hr, neg_mul_iff hr, h1, uS_pos, uS_neg, vS_pos]
  by_cases a : 0 ≤ t
  · rw [if_pos a]
    by_cases b : t < 1
    · rw [if_pos b, if_pos ⟨⟨by grind, b⟩, a⟩]
    · rw [if_neg b, if_neg (fun h => b h.1.2), if_pos (by grind)]
  · rw [if_neg a, if_neg (fun h => a h.2), if_neg (by grind)]
    by_cases b : t < -1
    · rw [if_pos b, if_pos (.inl b)]
    · rw [if_neg b, if_neg (by grind)]
theorem placeP_share {c f : Pt} (hf : f ≠ c) (t : Rat) : placeP c f (c.share f t) = if t < 0 then (2, t) else (0, t) := by
  have hr := r_pos hf
  have h1 := one_sq t
  unfold placeP
  rw [whole_share, across_share, uS1]
  simp only [neg_mul_iff hr, vS_neg]
  rw [vS_eq]
  generalize (f.sub c).along (f.sub c) = r at *
  have hw : r * (2 / (1 + t * t)) ≠ 0 := by
    have : r * (2 / (1 + t * t)) * (1 + t * t) = 2 * r := by grind
    grind
  rw [if_neg hw]
  have : r * ((t + t) / (1 + t * t)) / (r * (2 / (1 + t * t))) = t := by grind
  rw [this]
theorem placeP_opp {c f : Pt} : placeP c f ((c.add c).sub f) = (1, 0) := by
  unfold placeP
  rw [if_pos]
  unfold Pt.whole Pt.along Pt.sub Pt.add
  grind
theorem q_opp {c f : Pt} (hf : f ≠ c) : qOf ((f.sub c).along (((c.add c).sub f).sub c)) ((f.sub c).across (((c.add c).sub f).sub c)) = 2 := by
  have hr := r_pos hf
  have e1 : (f.sub c).along (((c.add c).sub f).sub c) = - (f.sub c).along (f.sub c) := by
    unfold Pt.along Pt.sub Pt.add
    grind
  have e2 : (f.sub c).across (((c.add c).sub f).sub c) = 0 := by
    unfold Pt.across Pt.sub Pt.add
    grind
  rw [e1, e2]
  unfold qOf
  rw [if_neg (by grind), if_neg (by grind), if_pos (by grind)]
theorem across_two {c f : Pt} {t s : Rat} : ((c.share f t).sub c).across ((c.share f s).sub c) = (f.sub c).along (f.sub c) * (shU t * shV s - shV t * shU s) := by
  rw [share_sub, share_sub]
  unfold Pt.along Pt.across Pt.sub
  grind
theorem cross_pos {t s : Rat} (h : 0 ≤ t ∧ 0 ≤ s ∨ t < 0 ∧ s < 0) : 0 < shU t * shV s - shV t * shU s ↔ t < s := by
  have h1 := one_sq t
  have h2 := one_sq s
  have a1 := sq_nn t
  have a2 := sq_nn s
  have hts : 0 ≤ t * s := by
    rcases h with ⟨x, y⟩ | ⟨x, y⟩
    · exact Rat.mul_nonneg x y
    · have : 0 ≤ (-t) * (-s) := Rat.mul_nonneg (by grind) (by grind)
      grind
  have hd : 0 < (1 + t * t) * (1 + s * s) := Rat.mul_pos (by grind) (by grind)
  have e : (1 + t * t) * (1 + s * s) * (shU t * shV s - shV t * shU s) = 2 * (1 + t * s) * (s - t) := by
    rw [uS_eq, uS_eq, vS_eq, vS_eq]
    grind
  rw [← pos_mul_iff hd, e, pos_mul_iff (by grind)]
  grind
theorem ahead_place {c f p q : Pt} (hf : f ≠ c) (hp : OnC c f p) (hq : OnC c f q) : aheadB c f p q = earlierB (placeP c f p) (placeP c f q) := by
  have hr := r_pos hf
  unfold aheadB
  rcases onC_cases hf hp with e | e <;> rcases onC_cases hf hq with e' | e'
  · rw [e, e', placeP_opp, q_opp hf]
    have : ((((c.add c).sub f).sub c).across (((c.add c).sub f).sub c)) = 0 := by unfold Pt.across; grind
    rw [this]
    rfl
  · generalize (f.sub c).across (q.sub c) / c.whole f q = s at e'
    rw [e, e', placeP_opp, q_opp hf, placeP_share hf, along_share, across_share, qOf_share hr]
    have : (((c.add c).sub f).sub c).across ((c.share f s).sub c) = - ((f.sub c).along (f.sub c) * shV s) := by
      rw [← across_share]
      unfold Pt.across Pt.sub Pt.add
      grind
    rw [this]
    have hv := neg_mul_iff (x := shV s) hr
    rw [vS_neg] at hv
    unfold earlierB
    by_cases a : 0 ≤ s
    · rw [if_pos a, if_neg (by grind : ¬ s < 0)]
      by_cases b : s < 1
      · rw [if_pos b] <;> rfl
      · rw [if_neg b] <;> rfl
    · rw [if_neg a, if_pos (by grind : s < 0)]
      by_cases b : s < -1
      · rw [if_pos b, if_neg (by decide)]
        have : 0 < -((f.sub c).along (f.sub c) * shV s) := by
          have := hv.mpr (by grind)
          grind
        rw [decide_eq_true this]
        rfl
      · rw [if_neg b] <;> rfl
  · generalize (f.sub c).across (p.sub c) / c.whole f p = s at e
    rw [e, e', placeP_opp, q_opp hf, placeP_share hf, along_share, across_share, qOf_share hr]
    have : ((c.share f s).sub c).across (((c.add c).sub f).sub c) = ((f.sub c).along (f.sub c) * shV s) := by
      rw [← across_share]
      unfold Pt.across Pt.sub Pt.add
      grind
    rw [this]
    have hv := neg_mul_iff (x := shV s) hr
    rw [vS_neg] at hv
    unfold earlierB
    by_cases a : 0 ≤ s
    · rw [if_pos a, if_neg (by grind : ¬ s < 0)]
      by_cases b : s < 1
      · rw [if_pos b] <;> rfl
      · rw [if_neg b] <;> rfl
    · rw [if_neg a, if_pos (by grind : s < 0)]
      by_cases b : s < -1
      · rw [if_pos b, if_neg (by decide)]
        have : ¬ 0 < ((f.sub c).along (f.sub c) * shV s) := by
          have := hv.mpr (by grind)
          grind
        rw [decide_eq_false this]
        rfl
      · rw [if_neg b] <;> rfl
  · generalize (f.sub c).across (p.sub c) / c.whole f p = t at e
    generalize (f.sub c).across (q.sub c) / c.whole f q = s at e'
    rw [e, e', placeP_share hf, placeP_share hf, along_share, across_share, along_share, across_share, qOf_share hr, qOf_share hr, across_two]
    unfold earlierB
    simp only [pos_mul_iff hr]
    by_cases a : 0 ≤ t <;> by_cases b : 0 ≤ s
    · rw [if_pos a, if_pos b, if_neg (by grind : ¬ t < 0), if_neg (by grind : ¬ s < 0)]
      simp only [cross_pos (.inl ⟨a, b⟩)]
      by_cases x : t < 1 <;> by_cases y : s < 1
      · rw [if_pos x, if_pos y] <;> rfl
      · rw [if_pos x, if_neg y]
        have : t < s := by grind
        rw [decide_eq_true this] <;> rfl
      · rw [if_neg x, if_pos y]
        have : ¬ t < s := by grind
        rw [decide_eq_false this] <;> rfl
      · rw [if_neg x, if_neg y] <;> rfl
    · rw [if_pos a, if_neg b, if_neg (by grind : ¬ t < 0), if_pos (by grind : s < 0)]
      by_cases x : t < 1 <;> by_cases y : s < -1
      · rw [if_pos x, if_pos y] <;> rfl
      · rw [if_pos x, if_neg y] <;> rfl
      · rw [if_neg x, if_pos y] <;> rfl
      · rw [if_neg x, if_neg y] <;> rfl
    · rw [if_neg a, if_pos b, if_pos (by grind : t < 0), if_neg (by grind : ¬ s < 0)]
      by_cases x : t < -1 <;> by_cases y : s < 1
      · rw [if_pos x, if_pos y] <;> rfl
      · rw [if_pos x, if_neg y] <;> rfl
      · rw [if_neg x, if_pos y] <;> rfl
      · rw [if_neg x, if_neg y] <;> rfl
    · rw [if_neg a, if_neg b, if_pos (by grind : t < 0), if_pos (by grind : s < 0)]
      simp only [cross_pos (t := t) (s := s) (.inr ⟨by grind, by grind⟩)]
      by_cases x : t < -1 <;> by_cases y : s < -1
      · rw [if_pos x, if_pos y] <;> rfl
      · rw [if_pos x, if_neg y]
        have : t < s := by grind
        rw [decide_eq_true this] <;> rfl
      · rw [if_neg x, if_pos y]
        have : ¬ t < s := by grind
        rw [decide_eq_false this] <;> rfl
      · rw [if_neg x, if_neg y] <;> rfl
/-- as the law draws points round a centre -/
def Rnd (k : Nat) (c a p : Pt) : Prop := p = (c.add c).sub a ∨ ∃ t, Fb k t ∧ p = c.share a t
theorem Rnd.on {k : Nat} {c a p : Pt} (h : Rnd k c a p) : OnC c a p := by
  rcases h with rfl | ⟨t, _, rfl⟩
  · exact onC_opp c a
  · exact onC_share c a t
theorem Rnd.pb {k n m : Nat} {c a p : Pt} (h : Rnd k c a p) (hc : Pb n c) (ha : Pb m a) : Pb (3 * n + 2 * m + 4 * k + 8) p := by
  rcases h with rfl | ⟨t, ht, rfl⟩
  · exact (pb_sub (pb_add hc hc) ha).mono (by omega)
  · exact pb_share hc ha ht
def Lay (n : Nat) (d : PyData) : Prop := d.canLay0 = true ∧ d.depth ≤ n
theorem Lay.mono {n m : Nat} {d : PyData} (h : Lay n d) (k : n ≤ m) : Lay m d := ⟨h.1, Nat.le_trans h.2 k⟩
theorem lay_all {n : Nat} : ∀ {ds : List PyData}, (∀ d ∈ ds, Lay n d) → PyData.canLayAll0 ds = true ∧ PyData.depthAll ds ≤ n
  | [], _ => ⟨by simp only [PyData.canLayAll0], by simp only [PyData.depthAll]; omega⟩
  | d :: ds, h => by
    have h1 := h d List.mem_cons_self
    have h2 := lay_all fun e he => h e (List.mem_cons_of_mem _ he)
    refine ⟨by simp only [PyData.canLayAll0, h1.1, h2.1, Bool.and_self], ?_⟩
    have := h1.2
    have := h2.2
    simp only [PyData.depthAll]
    omega
theorem lay_list {n : Nat} {ds : List PyData} (h : ∀ d ∈ ds, Lay n d) : Lay (n + 1) (.list ds) := by
  have := lay_all h
  exact ⟨by simp only [PyData.canLay0]; exact this.1, by simp only [PyData.depth]; omega⟩
theorem lay_tup {n : Nat} {ds : List PyData} (h : ∀ d ∈ ds, Lay n d) : Lay (n + 1) (.tuple ds) := by
  have := lay_all h
  exact ⟨by simp only [PyData.canLay0]; exact this.1, by simp only [PyData.depth]; omega⟩
theorem lay_nil {n : Nat} : ∀ d ∈ ([] : List PyData), Lay n d := fun _ h => nomatch h
theorem lay_cons {n : Nat} {d : PyData} {ds : List PyData} (h : Lay n d) (t : ∀ e ∈ ds, Lay n e) : ∀ e ∈ d :: ds, Lay n e := fa_cons h t
theorem lay_map {α : Type} {n : Nat} {l : List α} {f : α → PyData} (h : ∀ a, Lay n (f a)) : ∀ d ∈ l.map f, Lay n d := fun d hd => by
  obtain ⟨a, _, rfl⟩ := List.mem_map.mp hd
  exact h a
theorem lay_int (i : Int) : Lay 0 (.int i) := ⟨rfl, Nat.le_refl _⟩
theorem lay_none : Lay 0 .none := ⟨rfl, Nat.le_refl _⟩
theorem lay_str {x : Str} (h : PyData.canLay0 (.str x) = true) : Lay 0 (.str x) := ⟨h, Nat.le_refl _⟩
theorem lay_fr (x : Rat) : Lay 1 (fr x) := lay_tup (lay_cons (lay_int _) (lay_cons (lay_int _) lay_nil))
theorem lay_pt (p : Pt) : Lay 2 (pt p) := lay_tup (lay_cons (lay_fr _) (lay_cons (lay_fr _) lay_nil))
theorem Lay.sh {n : Nat} {d : PyData} (h : Lay n d) (k : n ≤ 64 := by decide) : SeqAt.shaped d = true := by
  show (d.canLay0 && decide (d.depth ≤ 64)) = true
  rw [h.1, decide_eq_true (Nat.le_trans h.2 k)]
  rfl
theorem Lay.rfl {n : Nat} {d : PyData} (h : Lay n d) : PyData.eqv d d = true := SeqAt.eqv_refl d h.1
local macro_rules | `(tactic| walk_at "ob") => `(tactic| with_reducible exact div_ok (b := 64) (by decide) (by decide))
theorem itI {rs : List Int} {i : Nat} (h : i < rs.length) : itD (.list (rs.map PyData.int)) (i : Int) = some (.int (rs.getD i 0)) := by
  show atI (rs.map PyData.int) (i : Int) = _
  have h1 : ixN (rs.map PyData.int).length (i : Int) = some i := by
    unfold ixN
    simp [h]
  unfold atI
  rw [h1]
  show (rs.map PyData.int)[i]? = _
  rw [List.getElem?_map, List.getElem?_eq_getElem h, List.getD_eq_getElem?_getD, List.getElem?_eq_getElem h]
  rfl
/-- numbers below a million -/
def Mil (rs : List Int) : Prop := ∀ r ∈ rs, 0 ≤ r ∧ r < 1000000
structure Fr where
  place : Pt
  turns : Int
  hand : Int
  size : Rat
deriving DecidableEq
def frD (f : Fr) : PyData := .tuple [pt f.place, .int f.turns, .int f.hand, fr f.size]
structure Fr.ok (f : Fr) : Prop where
  t0 : 0 ≤ f.turns
  t1 : f.turns < 4
  hd : f.hand = 1 ∨ f.hand = -1
  sz : 0 < f.size
structure Frb (n : Nat) (f : Fr) : Prop where
  pl : Pb n f.place
  sz : Fb n f.size
def Fr.one : Fr := ⟨⟨0, 0⟩, 0, 1, 1⟩
def Fr.led (f : Fr) (p : Pt) : Pt := (((⟨p.x, (f.hand : Rat) * p.y⟩ : Pt).turn (f.turns % 4).toNat).smul f.size).add f.place
theorem led_one (p : Pt) : Fr.one.led p = p := by
  show ((⟨p.x, ((1 : Int) : Rat) * p.y⟩ : Pt).smul 1).add ⟨0, 0⟩ = p
  have : ((1 : Int) : Rat) * p.y = p.y := Rat.one_mul _
  rw [this]
  unfold Pt.smul Pt.add
  cases p
  simp only [Pt.mk.injEq]
  exact ⟨by grind, by grind⟩
theorem one_ok : Fr.one.ok := ⟨by decide, by decide, .inl rfl, by decide⟩
def Fr.behind (f g : Fr) : Fr := ⟨f.led g.place, (f.turns + f.hand * g.turns) % 4, f.hand * g.hand, f.size * g.size⟩
def Fr.undone (f : Fr) : Fr := ⟨(⟨0, 0⟩ : Pt).sub ((⟨⟨0, 0⟩, (0 - f.hand * f.turns) % 4, f.hand, 1 / f.size⟩ : Fr).led f.place), (0 - f.hand * f.turns) % 4, f.hand, 1 / f.size⟩
/-- what a frame does, by its turns and hand -/
def lin (t : Nat) (h : Rat) (p : Pt) : Pt := (⟨p.x, h * p.y⟩ : Pt).turn t
theorem led_lin (f : Fr) (p : Pt) : f.led p = ((lin (f.turns % 4).toNat f.hand p).smul f.size).add f.place := rfl
theorem behind_ok {f g : Fr} (hf : f.ok) (hg : g.ok) : (f.behind g).ok where
  t0 := Int.emod_nonneg _ (by decide)
  t1 := Int.emod_lt_of_pos _ (by decide)
  hd := by
    show f.hand * g.hand = 1 ∨ f.hand * g.hand = -1
    rcases hf.hd with h | h <;> rcases hg.hd with h' | h' <;> rw [h, h'] <;> decide
  sz := Rat.mul_pos hf.sz hg.sz
theorem Frb.mono {n m : Nat} {f : Fr} (h : Frb n f) (k : n ≤ m) : Frb m f := ⟨h.pl.mono k, h.sz.mono k⟩

inductive Pc where
  | dot (p : Pt)
  | st (p q : Pt)
  | arc (c p q : Pt)
  | ring (c p : Pt)
deriving DecidableEq
def Pc.D : Pc → PyData
  | .dot p => .tuple [.str "dot", pt p]
  | .st p q => .tuple [.str "stretch", pt p, pt q]
  | .arc c p q => .tuple [.str "arc", pt c, pt p, pt q]
  | .ring c p => .tuple [.str "ring", pt c, pt p]
def Pc.pb (n : Nat) : Pc → Prop
  | .dot p => Pb n p
  | .st p q => Pb n p ∧ Pb n q
  | .arc c p q => Pb n c ∧ Pb n p ∧ Pb n q
  | .ring c p => Pb n c ∧ Pb n p
def stretchP (p q : Pt) : Pc := if p = q then .dot p else if q.before p = true then .st q p else .st p q
def Pc.led (f : Fr) : Pc → Pc
  | .dot p => .dot (f.led p)
  | .st p q => stretchP (f.led p) (f.led q)
  | .arc c p q => if f.hand < 0 then .arc (f.led c) (f.led q) (f.led p) else .arc (f.led c) (f.led p) (f.led q)
  | .ring c p => .ring (f.led c) (f.led p)
inductive Raw where
  | dot (p : Pt)
  | st (p q : Pt)
  | arc (c p q : Pt)
def Raw.ok : Raw → Prop
  | .st p q => p.before q = true
  | _ => True
def Raw.led (f : Fr) : Raw → Pc
  | .dot p => .dot (f.led p)
  | .st p q => if (f.led q).before (f.led p) = true then .st (f.led q) (f.led p) else if f.led p = f.led q then .dot (f.led p) else .st (f.led p) (f.led q)
  | .arc c p q => if f.led p = f.led q then .ring (f.led c) (f.led p) else if f.hand < 0 then .arc (f.led c) (f.led q) (f.led p) else .arc (f.led c) (f.led p) (f.led q)
def Pc.on : Pc → Pt → Bool
  | .dot p, x => decide (x = p)
  | .st a b, x => onS a b x
  | .arc c p q, x => decide (c.far x = c.far p) && (decide (x = p) || decide (x = q) || aheadB c p x q)
  | .ring c p, x => decide (c.far x = c.far p)
def Pc.ok : Pc → Prop
  | .dot _ => True
  | .st p q => p.before q = true
  | .arc c p q => p ≠ c ∧ OnC c p q ∧ p ≠ q
  | .ring c p => p ≠ c
def Pc.flat : Pc → Prop
  | .dot _ => True
  | .st _ _ => True
  | _ => False
def Pc.last : Pc → Pt
  | .dot p => p
  | .st _ q => q
  | .arc _ _ q => q
  | .ring _ p => p
theorem far_on {c p x : Pt} : (c.far x = c.far p) ↔ OnC c p x := by
  unfold OnC Pt.far Pt.along Pt.sub
  constructor <;> intro h <;> grind
theorem placeP_self {c p : Pt} (h : p ≠ c) : placeP c p p = (0, 0) := by
  have e : p = c.share p 0 := (share_0 c p).symm
  have h2 := placeP_share h 0
  rw [← e] at h2
  rw [h2, if_neg (by decide)]
theorem placeP_inj {c f p q : Pt} (hf : f ≠ c) (hp : OnC c f p) (hq : OnC c f q) (h : placeP c f p = placeP c f q) : p = q := by
  rcases onC_cases hf hp with e | e <;> rcases onC_cases hf hq with e' | e'
  · rw [e, e']
  · generalize (f.sub c).across (q.sub c) / c.whole f q = s at e'
    rw [e, e', placeP_opp, placeP_share hf] at h
    exfalso
    have := congrArg Prod.fst h
    split at this <;> simp at this
  · generalize (f.sub c).across (p.sub c) / c.whole f p = s at e
    rw [e, e', placeP_opp, placeP_share hf] at h
    exfalso
    have := congrArg Prod.fst h
    split at this <;> simp at this
  · generalize (f.sub c).across (p.sub c) / c.whole f p = t at e
    generalize (f.sub c).across (q.sub c) / c.whole f q = s at e'
    rw [e, e', placeP_share hf, placeP_share hf] at h
    have h2 := congrArg Prod.snd h
    have g : ∀ t : Rat, (if t < 0 then ((2 : Int), t) else (0, t)).2 = t := fun t => by split <;> rfl
    rw [g, g] at h2
    rw [e, e', h2]
theorem place_nn {c f p : Pt} (hf : f ≠ c) (hp : OnC c f p) : earlierB (placeP c f p) (0, 0) = false := by
  rcases onC_cases hf hp with e | e
  · rw [e, placeP_opp]
    rfl
  · generalize (f.sub c).across (p.sub c) / c.whole f p = t at e
    rw [e, placeP_share hf]
    unfold earlierB
    by_cases c1 : t < 0
    · rw [if_pos c1]; rfl
    · rw [if_neg c1]
      show decide (t < 0) = false
      exact decide_eq_false c1
theorem earlier_irr (z : Int × Rat) : earlierB z z = false := by
  unfold earlierB
  rw [if_neg (fun h => h rfl)]
  exact decide_eq_false Rat.lt_irrefl
theorem earlier_not {z w : Int × Rat} (h : z ≠ w) : earlierB z w = !earlierB w z := by
  obtain ⟨i, x⟩ := z
  obtain ⟨j, y⟩ := w
  unfold earlierB
  by_cases c1 : i = j
  · subst c1
    rw [if_neg (fun h => h rfl), if_neg (fun h => h rfl)]
    have hxy : x ≠ y := fun e => h (by rw [e])
    show decide (x < y) = !decide (y < x)
    by_cases c2 : x < y
    · rw [decide_eq_true c2, decide_eq_false (by grind)]; rfl
    · rw [decide_eq_false c2, decide_eq_true (by grind)]; rfl
  · rw [if_pos c1, if_pos (fun e => c1 e.symm)]
    show decide (i < j) = !decide (j < i)
    by_cases c2 : i < j
    · rw [decide_eq_true c2, decide_eq_false (by omega)]; rfl
    · rw [decide_eq_false c2, decide_eq_true (by omega)]; rfl
theorem arc_on {c p q x : Pt} (hp : p ≠ c) (hq : OnC c p q) (hx : OnC c p x) : (decide (x = p) || decide (x = q) || aheadB c p x q) = !earlierB (placeP c p q) (placeP c p x) := by
  rw [ahead_place hp hx hq]
  by_cases c1 : x = p
  · subst c1
    rw [decide_eq_true rfl, Bool.true_or, Bool.true_or, placeP_self hp, place_nn hp hq]
    rfl
  · rw [decide_eq_false c1, Bool.false_or]
    by_cases c2 : x = q
    · subst c2
      rw [decide_eq_true rfl, Bool.true_or, earlier_irr]
      rfl
    · rw [decide_eq_false c2, Bool.false_or]
      exact earlier_not (fun e => c2 (placeP_inj hp hx hq e))
def Pc.pc (n m : Nat) : Pc → Prop
  | .dot p => Pb m p
  | .st p q => Pb m p ∧ Pb m q
  | .arc c p q => Pb n c ∧ Pb m p ∧ Pb m q
  | .ring c p => Pb n c ∧ Pb m p
def Pc.word : Pc → PyData
  | .dot _ => .str "dot"
  | .st _ _ => .str "stretch"
  | .arc _ _ _ => .str "arc"
  | .ring _ _ => .str "ring"
/-- ahead or alike, by x, then by y -/
def Le (p q : Pt) : Prop := q.before p = false
theorem le_iff {p q : Pt} : Le p q ↔ p.x < q.x ∨ (p.x = q.x ∧ p.y ≤ q.y) := by
  unfold Le
  rw [← Bool.not_eq_true, bef_iff]
  constructor <;> intro h <;> grind
theorem le_refl (p : Pt) : Le p p := bef_irr p
theorem le_trans {p q r : Pt} (h1 : Le p q) (h2 : Le q r) : Le p r := by
  rw [le_iff] at *
  grind
theorem le_total (p q : Pt) : Le p q ∨ Le q p := by
  rw [le_iff, le_iff]
  grind
theorem pt_ne {p q : Pt} (h : p ≠ q) : q.x - p.x ≠ 0 ∨ q.y - p.y ≠ 0 := by
  by_cases h1 : q.x - p.x = 0
  · by_cases h2 : q.y - p.y = 0
    · exact absurd (pt_ext (by grind) (by grind)) h
    · exact .inr h2
  · exact .inl h1
def pw (f : Fr) : Nat → Fr
  | 0 => Fr.one
  | k + 1 => f.behind (pw f k)
/-- so many parts of E, not beyond B -/
def InE (E : Nat) (B : Rat) (x : Rat) : Prop := (∃ z : Int, x * (E : Rat) = (z : Rat)) ∧ -B ≤ x ∧ x ≤ B
structure Gd (D q P : Nat) (f : Fr) : Prop where
  ok : f.ok
  sz : ∃ p : Nat, f.size * (q : Rat) = (p : Rat)
  le : f.size ≤ 1
  ix : InE D P f.place.x
  iy : InE D P f.place.y
/-- the least of 1, 2, 4 whose power neither turns nor mirrors -/
def plainB (f : Fr) : Bool := decide (f.turns = 0) && decide (f.hand = 1)
def cntI (f : Fr) : Nat := if plainB (pw f 1) = true then 1 else if plainB (pw f 2) = true then 2 else 4
def midP (g : Fr) : Pt := g.place.smul (1 / (1 - g.size))
/-- a map as it is drawn -/
structure MapOk (f : Fr) : Prop where
  ok : f.ok
  pl : Pb 41 f.place
  sz : ∃ q p : Nat, 0 < q ∧ q ≤ 12 ∧ f.size * (q : Rat) = (p : Rat) ∧ (f.size = 1 → q = 1)
  le : f.size ≤ 1
def absR (x : Rat) : Rat := if x < 0 then -x else x
theorem absR_tup (x : Rat) : PyData.tuple [.int ((x.num.natAbs : Nat) : Int), .int (x.den : Int)] = fr (absR x) := by
  unfold absR fr
  by_cases h : x < 0
  · have h2 := (num_neg x).mpr h
    rw [if_pos h, Rat.neg_num, Rat.neg_den, show ((x.num.natAbs : Nat) : Int) = -x.num by omega]
  · have h2 : ¬ x.num < 0 := fun z => h ((num_neg x).mp z)
    rw [if_neg h, show ((x.num.natAbs : Nat) : Int) = x.num by omega]
theorem fb_abs {x : Rat} {n : Nat} (h : Fb n x) : Fb n (absR x) := by
  unfold absR
  split
  · exact fb_neg h
  · exact h
local macro_rules | `(tactic| walk_at "fb") => `(tactic| with_reducible (apply fb_abs; walk_at "fb"))
/-- kinds as such -/
inductive Kd where
  | round
  | on (w : Pt)
  | smaller (c : Pt) (s : Rat)
def Kd.D : Kd → PyData
  | .round => .tuple [.str "round"]
  | .on w => .tuple [.str "on", pt w]
  | .smaller c s => .tuple [.str "smaller", pt c, fr s]
def kdOf (f : Fr) : Kd := if (pw f (cntI f)).size = 1 then (if (pw f (cntI f)).place = ⟨0, 0⟩ then .round else .on (pw f (cntI f)).place) else .smaller (midP (pw f (cntI f))) (pw f (cntI f)).size
def Kd.word : Kd → Str
  | .round => "round"
  | .on _ => "on"
  | .smaller _ _ => "smaller"
def Kd.pb (m : Nat) : Kd → Prop
  | .round => True
  | .on w => Pb m w
  | .smaller c s => Pb m c ∧ Fb m s
/-- told pieces of an end -/
abbrev Tl := Pc × PyData × PyData
/-- heights of a piece, by a step; squares of distances, from a middle -/
def wdR (w c p : Pt) : Rat := (absR (p.sub c).x + absR (p.sub c).y) * (absR w.x + absR w.y)
def hgL (w : Pt) : Pc → List Rat
  | .dot p => [w.along p]
  | .st p q => [w.along p, w.along q]
  | .arc c p _ => [w.along c - wdR w c p, w.along c + wdR w c p]
  | .ring c p => [w.along c - wdR w c p, w.along c + wdR w c p]
def dsL (m : Pt) : Pc → List Rat
  | .dot p => [p.far m]
  | .st p q => [p.far m, q.far m]
  | .arc c p _ => [2 * (c.far m + c.far p)]
  | .ring c p => [2 * (c.far m + c.far p)]
def minL (l : List Rat) : Rat := l.foldl (fun f x => if x < f then x else f) (l.headD 0)
def maxL (l : List Rat) : Rat := l.foldl (fun f x => if f < x then x else f) (l.headD 0)
/-- by form: straight ones with their points, round ones with centre and first point -/
inductive PcV : Pc → Type where
  | fl {z : Pc} (ps : List Pt) (hD : z.D = .tuple (z.word :: ps.map pt)) (hn : ps.length ≤ 2) (h0 : PyData.eqv z.word (.str "dot") = true ∨ PyData.eqv z.word (.str "stretch") = true) (hi : ([PyData.str "dot", .str "stretch"].any fun y => PyData.eqv y z.word) = true) (hh : ∀ w, hgL w z = ps.map fun p => w.along p) (hd : ∀ m, dsL m z = ps.map fun p => p.far m) (hb : ∀ n, z.pc n n → ∀ p ∈ ps, Pb n p) : PcV z
  | rd {z : Pc} (c p : Pt) (r : List PyData) (hD : z.D = .tuple (z.word :: pt c :: pt p :: r)) (h0 : PyData.eqv z.word (.str "dot") = false ∧ PyData.eqv z.word (.str "stretch") = false) (hi : ([PyData.str "dot", .str "stretch"].any fun y => PyData.eqv y z.word) = false) (hh : ∀ w, hgL w z = [w.along c - wdR w c p, w.along c + wdR w c p]) (hd : ∀ m, dsL m z = [2 * (c.far m + c.far p)]) (hb : ∀ n, z.pc n n → Pb n c ∧ Pb n p) : PcV z
theorem map_at {α : Type} {l : List α} {f : α → PyData} {i : Nat} {x : S} (h : ((l.map f).map S.d)[i]? = some x) : ∃ a, l[i]? = some a ∧ x = .d (f a) := by
  rw [List.getElem?_map, List.getElem?_map] at h
  cases e : l[i]? with
  | none => rw [e] at h; cases h
  | some a => rw [e] at h; cases h; exact ⟨a, rfl, rfl⟩
theorem mm {α : Type} {f : α → Rat} {l : List α} : (l.map f).map fr = l.map fun p => fr (f p) := by
  rw [List.map_map]
  rfl
structure EndOk (f : Fr) (ts : List Tl) (n : Nat) : Prop where
  map : MapOk f
  ne : ts ≠ []
  len : ts.length ≤ 1000
  pcs : ∀ t ∈ ts, t.1.ok ∧ t.1.pc 20 n ∧ Lay 1 t.2.1 ∧ Lay 1 t.2.2
theorem nd_mulW {x y : Rat} {n m : Nat} (hx : Fb n x) (hy : Fb m y) (h : n + m ≤ 1000000) : CMulW x.num y.den := wide_mul hx.1 (nd_lt hy) hx.pos hy.pos h
def floorI (x : Rat) : Int := x.num.fdiv x.den
def ceilI (x : Rat) : Int := -((-x.num).fdiv x.den)
def spB (at_ high each : Rat) : Int := max 0 (ceilI ((at_ - high) / each))
def spP (at_ low high each : Rat) : Int := max (spB at_ high each) (floorI ((at_ - low) / each) + 1)
/-- so often shrunk -/
def mst (m s : Rat) : Nat → Rat
  | 0 => m
  | k + 1 => mst m s k * s
structure Stop (m s away : Rat) (k : Nat) : Prop where
  le : k ≤ 1001
  no : ∀ j, j < k → ¬ mst m s j < away
  yes : k = 1001 ∨ mst m s k < away
theorem stop_one {m s away : Rat} {k l : Nat} (h : Stop m s away k) (h' : Stop m s away l) : k = l := by
  rcases Nat.lt_trichotomy k l with z | z | z
  · rcases h.yes with e | e
    · have := h'.le; omega
    · exact absurd e (h'.no k z)
  · exact z
  · rcases h'.yes with e | e
    · have := h.le; omega
    · exact absurd e (h.no l z)
/-- the numbers stay small while they are looked at -/
def SmB (m s away : Rat) : Prop := ∀ k, k ≤ 1001 → (∀ j, j < k → ¬ mst m s j < away) → Fb 8900 (mst m s k)
/-- what a span is -/
def eachR (f : Fr) (w : Pt) : Rat := w.along w / (cntI f : Rat)
def SpR (f : Fr) (zs : List Pc) (p : Pt) (b e : Int) : Prop :=
  match kdOf f with
  | .round => b = 0 ∧ e = cntI f
  | .on w => b = spB (w.along p) (maxL (zs.flatMap (hgL w))) (eachR f w) ∧ e = spP (w.along p) (minL (zs.flatMap (hgL w))) (maxL (zs.flatMap (hgL w))) (eachR f w)
  | .smaller c _ => (p = c ∧ b = 0 ∧ e = 1) ∨ (p ≠ c ∧ b = 0 ∧ ∃ k : Nat, e = k ∧ Stop (maxL (zs.flatMap (dsL c))) (f.size * f.size) (p.far c) k)
structure SpanOk (f : Fr) (ts : List Tl) (p : Pt) : Prop where
  ok : f.ok
  bd : ∀ k, k ≤ 9 → Frb 165 (pw f k)
  sz : Fb 4 f.size
  le : f.size ≤ 1
  ne : ts ≠ []
  len : ts.length ≤ 1000
  pcs : ∀ t ∈ ts, t.1.pc 72 72
  pp : Pb 575 p
  sm : ∀ c s, kdOf f = .smaller c s → p ≠ c → SmB (maxL ((ts.map (·.1)).flatMap (dsL c))) (f.size * f.size) (p.far c)
/-- an arc lies at the right of its chord -/
theorem chord_share {c p : Pt} {t s : Rat} : ((c.share p t).sub p).across ((c.share p s).sub p) = (p.sub c).along (p.sub c) * ((shU t - 1) * shV s - shV t * (shU s - 1)) := by
  unfold Pt.share Pt.add Pt.sub Pt.across Pt.along
  simp only
  grind
theorem chord_sign {t s : Rat} : ∃ k : Rat, 0 < k ∧ (shU t - 1) * shV s - shV t * (shU s - 1) = k * (t * s * (s - t)) := by
  have h1 := sq_nn t
  have h2 := sq_nn s
  refine ⟨4 * ((1 + t * t)⁻¹ * (1 + s * s)⁻¹), Rat.mul_pos (by decide) (Rat.mul_pos (Rat.inv_pos.mpr (by grind)) (Rat.inv_pos.mpr (by grind))), ?_⟩
  rw [uS_eq, uS_eq, vS_eq, vS_eq]
  have a : 1 + t * t ≠ 0 := by grind
  have b : 1 + s * s ≠ 0 := by grind
  grind
theorem le_mul_iff {k x : Rat} (hk : 0 < k) : k * x ≤ 0 ↔ x ≤ 0 := by
  have := pos_mul_iff (x := x) hk
  constructor
  · intro h
    have : ¬ 0 < x := fun z => by have := this.mpr z; grind
    grind
  · intro h
    have : ¬ 0 < k * x := fun z => by have := this.mp z; grind
    grind
theorem sgn3p {t s : Rat} (c : 0 < t) : t * s * (s - t) ≤ 0 ↔ 0 ≤ s ∧ s ≤ t := by
  rw [Rat.mul_assoc, le_mul_iff c]
  constructor
  · intro h
    constructor
    · by_cases d : 0 ≤ s
      · exact d
      · exfalso
        have : 0 < (-s) * (t - s) := Rat.mul_pos (by grind) (by grind)
        grind
    · by_cases d : s ≤ t
      · exact d
      · exfalso
        have : 0 < s * (s - t) := Rat.mul_pos (by grind) (by grind)
        grind
  · rintro ⟨a, b⟩
    have : 0 ≤ s * (t - s) := Rat.mul_nonneg a (by grind)
    grind
theorem sgn3n {t s : Rat} (c : t < 0) : t * s * (s - t) ≤ 0 ↔ 0 ≤ s ∨ s ≤ t := by
  have e : t * s * (s - t) = (-t) * (s * (t - s)) := by grind
  rw [e, le_mul_iff (by grind)]
  constructor
  · intro h
    by_cases d : 0 ≤ s
    · exact .inl d
    · right
      by_cases d2 : s ≤ t
      · exact d2
      · exfalso
        have : 0 < (-s) * (s - t) := Rat.mul_pos (by grind) (by grind)
        grind
  · rintro (a | a)
    · have : 0 ≤ s * (s - t) := Rat.mul_nonneg a (by grind)
      grind
    · have : 0 ≤ (-s) * (t - s) := Rat.mul_nonneg (by grind) (by grind)
      grind
theorem vS_sign (t : Rat) : ∃ k : Rat, 0 < k ∧ shV t = k * t := by
  have h1 := sq_nn t
  refine ⟨2 * (1 + t * t)⁻¹, Rat.mul_pos (by decide) (Rat.inv_pos.mpr (by grind)), ?_⟩
  rw [vS_eq, Rat.div_def]
  grind
theorem arc_chord {c p q x : Pt} (hp : p ≠ c) (hq : OnC c p q) (hpq : p ≠ q) (hx : OnC c p x) : (!earlierB (placeP c p q) (placeP c p x)) = decide ((q.sub p).across (x.sub p) ≤ 0) := by
  have hr := r_pos hp
  have e0 : ((c.add c).sub p).sub p = ⟨2 * (c.x - p.x), 2 * (c.y - p.y)⟩ := by
    unfold Pt.add Pt.sub
    simp only
    congr 1 <;> grind
  have op : ∀ t : Rat, (((c.add c).sub p).sub p).across ((c.share p t).sub p) = -2 * shV t * (p.sub c).along (p.sub c) := fun t => by
    rw [e0]
    unfold Pt.share Pt.add Pt.sub Pt.across Pt.along
    simp only
    grind
  have po : ∀ t : Rat, ((c.share p t).sub p).across (((c.add c).sub p).sub p) = 2 * shV t * (p.sub c).along (p.sub c) := fun t => by
    rw [e0]
    unfold Pt.share Pt.add Pt.sub Pt.across Pt.along
    simp only
    grind
  rcases onC_cases hp hq with e | e <;> rcases onC_cases hp hx with e' | e'
  · rw [e, e', placeP_opp]
    rw [show ((((c.add c).sub p).sub p).across (((c.add c).sub p).sub p)) = 0 by unfold Pt.across; grind]
    rfl
  · generalize (p.sub c).across (x.sub c) / c.whole p x = s at e'
    rw [e, e', placeP_opp, placeP_share hp, op]
    obtain ⟨k, hk, hv⟩ := vS_sign s
    rw [hv]
    have e2 : -2 * (k * s) * (p.sub c).along (p.sub c) = (2 * k * (p.sub c).along (p.sub c)) * (-s) := by grind
    rw [e2, decide_eq_decide.mpr (le_mul_iff (Rat.mul_pos (Rat.mul_pos (by decide) hk) hr))]
    by_cases d : s < 0
    · rw [if_pos d, decide_eq_false (by grind)]
      rfl
    · rw [if_neg d, decide_eq_true (by grind)]
      rfl
  · generalize (p.sub c).across (q.sub c) / c.whole p q = t at e
    have ht : t ≠ 0 := fun z => hpq (by rw [e, z, share_0])
    rw [e, e', placeP_opp, placeP_share hp, po]
    obtain ⟨k, hk, hv⟩ := vS_sign t
    rw [hv]
    have e2 : 2 * (k * t) * (p.sub c).along (p.sub c) = (2 * k * (p.sub c).along (p.sub c)) * t := by grind
    rw [e2, decide_eq_decide.mpr (le_mul_iff (Rat.mul_pos (Rat.mul_pos (by decide) hk) hr))]
    by_cases d : t < 0
    · rw [if_pos d, decide_eq_true (by grind)]
      rfl
    · rw [if_neg d, decide_eq_false (by grind)]
      rfl
  · generalize (p.sub c).across (q.sub c) / c.whole p q = t at e
    generalize (p.sub c).across (x.sub c) / c.whole p x = s at e'
    have ht : t ≠ 0 := fun z => hpq (by rw [e, z, share_0])
    rw [e, e', placeP_share hp, placeP_share hp, chord_share]
    obtain ⟨k, hk, hv⟩ := chord_sign (t := t) (s := s)
    rw [hv]
    have e2 : (p.sub c).along (p.sub c) * (k * (t * s * (s - t))) = ((p.sub c).along (p.sub c) * k) * (t * s * (s - t)) := by grind
    rw [e2, decide_eq_decide.mpr (le_mul_iff (Rat.mul_pos hr hk))]
    by_cases d1 : t < 0
    · have E : decide (t * s * (s - t) ≤ 0) = decide (0 ≤ s ∨ s ≤ t) := decide_eq_decide.mpr (sgn3n d1)
      rw [E, if_pos d1]
      unfold earlierB
      by_cases d2 : s < 0
      · rw [if_pos d2]
        by_cases d3 : s ≤ t
        · rw [decide_eq_true (.inr d3 : 0 ≤ s ∨ s ≤ t), if_neg (by simp), decide_eq_false (show ¬ t < s by grind)]
          rfl
        · rw [decide_eq_false (show ¬ (0 ≤ s ∨ s ≤ t) by grind), if_neg (by simp), decide_eq_true (show t < s by grind)]
          rfl
      · rw [if_neg d2, decide_eq_true (.inl (by grind) : 0 ≤ s ∨ s ≤ t)]
        rfl
    · have d4 : 0 < t := by grind
      have E : decide (t * s * (s - t) ≤ 0) = decide (0 ≤ s ∧ s ≤ t) := decide_eq_decide.mpr (sgn3p d4)
      rw [E, if_neg d1]
      unfold earlierB
      by_cases d2 : s < 0
      · rw [if_pos d2, decide_eq_false (show ¬ (0 ≤ s ∧ s ≤ t) by grind)]
        rfl
      · rw [if_neg d2]
        by_cases d3 : s ≤ t
        · rw [decide_eq_true (show 0 ≤ s ∧ s ≤ t by grind), if_neg (by simp), decide_eq_false (show ¬ t < s by grind)]
          rfl
        · rw [decide_eq_false (show ¬ (0 ≤ s ∧ s ≤ t) by grind), if_neg (by simp), decide_eq_true (show t < s by grind)]
          rfl
theorem on_arc {c p q x : Pt} (h : (Pc.arc c p q).ok) : (Pc.arc c p q).on x = (decide (c.far x = c.far p) && decide ((q.sub p).across (x.sub p) ≤ 0)) := by
  obtain ⟨h1, h2, h3⟩ := h
  show (decide (c.far x = c.far p) && (decide (x = p) || decide (x = q) || aheadB c p x q)) = _
  by_cases e : c.far x = c.far p
  · rw [decide_eq_true e, Bool.true_and, Bool.true_and, arc_on h1 h2 (far_on.mp e), arc_chord h1 h2 h3 (far_on.mp e)]
  · rw [decide_eq_false e, Bool.false_and, Bool.false_and]
theorem absR_sq (x : Rat) : absR x * absR x = x * x := by
  unfold absR
  split <;> grind
theorem det3 {t1 t2 s : Rat} : ∃ k : Rat, 0 < k ∧ (shU t2 - shU t1) * (shV s - shV t1) - (shV t2 - shV t1) * (shU s - shU t1) = k * ((t2 - t1) * ((s - t1) * (s - t2))) := by
  have h1 := sq_nn t1
  have h2 := sq_nn t2
  have h3 := sq_nn s
  refine ⟨4 * ((1 + t1 * t1)⁻¹ * ((1 + t2 * t2)⁻¹ * (1 + s * s)⁻¹)), Rat.mul_pos (by decide) (Rat.mul_pos (Rat.inv_pos.mpr (by grind)) (Rat.mul_pos (Rat.inv_pos.mpr (by grind)) (Rat.inv_pos.mpr (by grind)))), ?_⟩
  rw [uS_eq, uS_eq, uS_eq, vS_eq, vS_eq, vS_eq]
  have a : 1 + t1 * t1 ≠ 0 := by grind
  have b : 1 + t2 * t2 ≠ 0 := by grind
  have d : 1 + s * s ≠ 0 := by grind
  clear h1 h2 h3
  grind
theorem det_q {t1 s : Rat} : ∃ k : Rat, 0 < k ∧ (-1 - shU t1) * (shV s - shV t1) - (0 - shV t1) * (shU s - shU t1) = k * (t1 - s) := by
  have h1 := sq_nn t1
  have h3 := sq_nn s
  refine ⟨4 * ((1 + t1 * t1)⁻¹ * (1 + s * s)⁻¹), Rat.mul_pos (by decide) (Rat.mul_pos (Rat.inv_pos.mpr (by grind)) (Rat.inv_pos.mpr (by grind))), ?_⟩
  rw [uS_eq, uS_eq, vS_eq, vS_eq]
  have a : 1 + t1 * t1 ≠ 0 := by grind
  have d : 1 + s * s ≠ 0 := by grind
  clear h1 h3
  grind
theorem det_x {t1 t2 : Rat} : ∃ k : Rat, 0 < k ∧ (shU t2 - shU t1) * (0 - shV t1) - (shV t2 - shV t1) * (-1 - shU t1) = k * (t2 - t1) := by
  have h1 := sq_nn t1
  have h3 := sq_nn t2
  refine ⟨4 * ((1 + t1 * t1)⁻¹ * (1 + t2 * t2)⁻¹), Rat.mul_pos (by decide) (Rat.mul_pos (Rat.inv_pos.mpr (by grind)) (Rat.inv_pos.mpr (by grind))), ?_⟩
  rw [uS_eq, uS_eq, vS_eq, vS_eq]
  have a : 1 + t1 * t1 ≠ 0 := by grind
  have d : 1 + t2 * t2 ≠ 0 := by grind
  clear h1 h3
  grind
theorem det_p {t2 s : Rat} : ∃ k : Rat, 0 < k ∧ (shU t2 - -1) * (shV s - 0) - (shV t2 - 0) * (shU s - -1) = k * (s - t2) := by
  have h1 := sq_nn t2
  have h3 := sq_nn s
  refine ⟨4 * ((1 + t2 * t2)⁻¹ * (1 + s * s)⁻¹), Rat.mul_pos (by decide) (Rat.mul_pos (Rat.inv_pos.mpr (by grind)) (Rat.inv_pos.mpr (by grind))), ?_⟩
  rw [uS_eq, uS_eq, vS_eq, vS_eq]
  have a : 1 + t2 * t2 ≠ 0 := by grind
  have d : 1 + s * s ≠ 0 := by grind
  clear h1 h3
  grind
/-- where a point stands on the circle, from a first one -/
inductive Ps where
  | sh (t : Rat)
  | opp
def Ps.U : Ps → Rat
  | .sh t => shU t
  | .opp => -1
def Ps.V : Ps → Rat
  | .sh t => shV t
  | .opp => 0
def Ps.key : Ps → Int × Rat
  | .sh t => if t < 0 then (2, t) else (0, t)
  | .opp => (1, 0)
def Ps.pt (c a : Pt) (z : Ps) : Pt := c.add ⟨z.U * (a.x - c.x) - z.V * (a.y - c.y), z.V * (a.x - c.x) + z.U * (a.y - c.y)⟩
theorem ps_of {c a p : Pt} (ha : a ≠ c) (h : OnC c a p) : ∃ z : Ps, p = z.pt c a ∧ placeP c a p = z.key := by
  rcases onC_cases ha h with e | e
  · refine ⟨.opp, ?_, by rw [e, placeP_opp]; rfl⟩
    rw [e]
    unfold Ps.pt Ps.U Ps.V Pt.add Pt.sub
    simp only
    congr 1 <;> grind
  · exact ⟨.sh _, e, by (conv => lhs; rw [e, placeP_share ha]); rfl⟩
theorem ps_across {c a : Pt} (p q x : Ps) : ((q.pt c a).sub (p.pt c a)).across ((x.pt c a).sub (p.pt c a)) = (a.sub c).along (a.sub c) * ((q.U - p.U) * (x.V - p.V) - (q.V - p.V) * (x.U - p.U)) := by
  unfold Ps.pt Pt.add Pt.sub Pt.across Pt.along
  simp only
  grind
def Ps.det (p q x : Ps) : Rat := (q.U - p.U) * (x.V - p.V) - (q.V - p.V) * (x.U - p.U)
theorem pm_le {y z : Rat} (h : z < y) : y * z ≤ 0 ↔ 0 ≤ y ∧ z ≤ 0 := by
  constructor
  · intro k
    constructor
    · by_cases c : 0 ≤ y
      · exact c
      · exfalso
        have : 0 < (-y) * (-z) := Rat.mul_pos (by grind) (by grind)
        grind
    · by_cases c : z ≤ 0
      · exact c
      · exfalso
        have : 0 < y * z := Rat.mul_pos (by grind) (by grind)
        grind
  · rintro ⟨a, b⟩
    have : 0 ≤ y * (-z) := Rat.mul_nonneg a (by grind)
    grind
theorem pm_ge {y z : Rat} (h : z < y) : 0 ≤ y * z ↔ y ≤ 0 ∨ 0 ≤ z := by
  constructor
  · intro k
    by_cases c : y ≤ 0
    · exact .inl c
    · right
      by_cases d : 0 ≤ z
      · exact d
      · exfalso
        have : 0 < y * (-z) := Rat.mul_pos (by grind) (by grind)
        grind
  · rintro (a | a)
    · have : 0 ≤ (-y) * (-z) := Rat.mul_nonneg (by grind) (by grind)
      grind
    · exact Rat.mul_nonneg (by grind) a
theorem key_lt {z w : Ps} : earlierB z.key w.key = true ↔ (match z, w with
    | .sh t, .sh s => if t < 0 then s < 0 ∧ t < s else s < 0 ∨ t < s
    | .sh t, .opp => 0 ≤ t
    | .opp, .sh s => s < 0
    | .opp, .opp => False) := by
  cases z with
  | sh t =>
    cases w with
    | sh s =>
      unfold Ps.key earlierB
      by_cases a : t < 0 <;> by_cases b : s < 0 <;> simp [a, b] <;> grind
    | opp =>
      unfold Ps.key earlierB
      by_cases a : t < 0 <;> simp [a] <;> grind
  | opp =>
    cases w with
    | sh s =>
      unfold Ps.key earlierB
      by_cases b : s < 0 <;> simp [b]
    | opp => unfold Ps.key earlierB; simp
/-- from p to a later q: what lies between -/
theorem det_between {p q x : Ps} (h : earlierB p.key q.key = true) : p.det q x ≤ 0 ↔ earlierB x.key p.key = false ∧ earlierB q.key x.key = false := by
  rw [key_lt] at h
  rw [← Bool.not_eq_true, ← Bool.not_eq_true, key_lt, key_lt]
  cases p with
  | sh t1 =>
    cases q with
    | sh t2 =>
      cases x with
      | sh s =>
        obtain ⟨k, hk, e⟩ := det3 (t1 := t1) (t2 := t2) (s := s)
        show (shU t2 - shU t1) * (shV s - shV t1) - (shV t2 - shV t1) * (shU s - shU t1) ≤ 0 ↔ _
        rw [e, le_mul_iff hk]
        by_cases c : t1 < t2
        · rw [le_mul_iff (show 0 < t2 - t1 by grind), pm_le (by grind)]
          simp only at h ⊢
          constructor
          · rintro ⟨a, b⟩
            constructor <;> split <;> grind
          · rintro ⟨a, b⟩
            split at a <;> split at b <;> split at h <;> grind
        · have c2 : t2 < t1 := by simp only at h; split at h <;> grind
          have e2 : (t2 - t1) * ((s - t1) * (s - t2)) ≤ 0 ↔ 0 ≤ (s - t2) * (s - t1) := by
            have e3 : (t2 - t1) * ((s - t1) * (s - t2)) = (t1 - t2) * (-((s - t2) * (s - t1))) := by grind
            rw [e3, le_mul_iff (by grind)]
            constructor <;> intro z <;> grind
          rw [e2, pm_ge (by grind)]
          simp only at h ⊢
          constructor
          · rintro (a | a)
            · constructor <;> split <;> split at h <;> grind
            · constructor <;> split <;> split at h <;> grind
          · rintro ⟨a, b⟩
            split at a <;> split at b <;> split at h <;> grind
      | opp =>
        obtain ⟨k, hk, e⟩ := det_x (t1 := t1) (t2 := t2)
        show (shU t2 - shU t1) * (0 - shV t1) - (shV t2 - shV t1) * (-1 - shU t1) ≤ 0 ↔ _
        rw [e, le_mul_iff hk]
        simp only at h ⊢
        split at h <;> constructor
        · intro z; exfalso; grind
        · intro z; exfalso; grind
        · intro z; constructor <;> grind
        · intro z; grind
    | opp =>
      cases x with
      | sh s =>
        obtain ⟨k, hk, e⟩ := det_q (t1 := t1) (s := s)
        show (-1 - shU t1) * (shV s - shV t1) - (0 - shV t1) * (shU s - shU t1) ≤ 0 ↔ _
        rw [e, le_mul_iff hk]
        simp only at h ⊢
        constructor
        · intro z; constructor
          · split <;> grind
          · grind
        · rintro ⟨a, b⟩; split at a <;> grind
      | opp =>
        show (-1 - shU t1) * (0 - shV t1) - (0 - shV t1) * (-1 - shU t1) ≤ 0 ↔ _
        simp only at h ⊢
        constructor
        · intro z; constructor <;> grind
        · intro z; grind
  | opp =>
    cases q with
    | sh t2 =>
      cases x with
      | sh s =>
        obtain ⟨k, hk, e⟩ := det_p (t2 := t2) (s := s)
        show (shU t2 - -1) * (shV s - 0) - (shV t2 - 0) * (shU s - -1) ≤ 0 ↔ _
        rw [e, le_mul_iff hk]
        simp only at h ⊢
        constructor
        · intro z; constructor
          · grind
          · split <;> grind
        · rintro ⟨a, b⟩; split at b <;> grind
      | opp =>
        show (shU t2 - -1) * (0 - 0) - (shV t2 - 0) * (-1 - -1) ≤ 0 ↔ _
        simp only at h ⊢
        constructor
        · intro z; constructor <;> grind
        · intro z; grind
    | opp => exact absurd h id
def ltK (c a p q : Pt) : Bool := earlierB (placeP c a p) (placeP c a q)
section
variable {c a : Pt} (ha : a ≠ c)
theorem ltK_irr {p : Pt} : ltK c a p p = false := earlier_irr _
include ha
theorem ltK_tri {p q : Pt} (hp : OnC c a p) (hq : OnC c a q) (h : p ≠ q) : ltK c a p q = !ltK c a q p := earlier_not fun e => h (placeP_inj ha hp hq e)
theorem ltK_a {p : Pt} (hp : OnC c a p) (h : p ≠ a) : ltK c a a p = true := by
  have hn := place_nn ha hp
  rw [← placeP_self ha] at hn
  have e : OnC c a a := rfl
  rw [ltK_tri ha e hp (Ne.symm h)]
  show (!earlierB (placeP c a p) (placeP c a a)) = true
  rw [hn]
  rfl
theorem onC_neK {p : Pt} (hp : OnC c a p) : p ≠ c := fun e => by
  have := r_pos ha
  rw [e] at hp
  unfold OnC at hp
  rw [← hp] at this
  unfold Pt.along Pt.sub at this
  simp only at this
  grind
theorem onC_trK {p q : Pt} (hp : OnC c a p) (hq : OnC c a q) : OnC c p q := by unfold OnC at *; rw [hp, hq]
theorem arc_okK {p q : Pt} (hp : OnC c a p) (hq : OnC c a q) (h : p ≠ q) : (Pc.arc c p q).ok := ⟨onC_neK ha hp, onC_trK ha hp hq, h⟩
theorem arc_btw {p q x : Pt} (hp : OnC c a p) (hq : OnC c a q) (hx : OnC c a x) (h : ltK c a p q = true) : (Pc.arc c p q).on x = (!ltK c a x p && !ltK c a q x) := by
  have hne : p ≠ q := fun e => by rw [e, ltK_irr] at h; cases h
  rw [on_arc (arc_okK ha hp hq hne), decide_eq_true (far_on.mpr (onC_trK ha hp hx)), Bool.true_and]
  obtain ⟨zp, ep, kp⟩ := ps_of ha hp
  obtain ⟨zq, eq, kq⟩ := ps_of ha hq
  obtain ⟨zx, ex, kx⟩ := ps_of ha hx
  unfold ltK at h ⊢
  rw [kp, kq] at h
  rw [kp, kq, kx, ep, eq, ex, ps_across, decide_eq_decide.mpr (le_mul_iff (r_pos ha))]
  have hd := det_between (x := zx) h
  unfold Ps.det at hd
  apply Bool.eq_iff_iff.mpr
  rw [decide_eq_true_eq, hd, Bool.and_eq_true, Bool.not_eq_true', Bool.not_eq_true']
end
section
variable {c a : Pt} (ha : a ≠ c)
include ha
end
theorem SpR.one {f : Fr} {zs : List Pc} {p : Pt} {b e b' e' : Int} (h : SpR f zs p b e) (g : SpR f zs p b' e') : b = b' ∧ e = e' := by
  unfold SpR at h g
  cases kd : kdOf f with
  | round =>
    simp only [kd] at h g
    exact ⟨h.1.trans g.1.symm, h.2.trans g.2.symm⟩
  | on w =>
    simp only [kd] at h g
    exact ⟨h.1.trans g.1.symm, h.2.trans g.2.symm⟩
  | smaller c s =>
    simp only [kd] at h g
    rcases h with ⟨h1, h2, h3⟩ | ⟨h1, h2, k, h3, h4⟩ <;> rcases g with ⟨g1, g2, g3⟩ | ⟨g1, g2, l, g3, g4⟩
    · exact ⟨h2.trans g2.symm, h3.trans g3.symm⟩
    · exact absurd h1 g1
    · exact absurd g1 h1
    · exact ⟨h2.trans g2.symm, by rw [h3, g3, stop_one h4 g4]⟩
inductive Outc where
  | much
  | none
  | data (d : PyData)
inductive Rw where
  | go (x : Rat)
  | skip (x : Rat)
  | side (x y : Rat)
  | dot
  | left
  | right
  | round
  | mirror
  | grow (s : Rat)
  | quarter (x : Rat)
  | half (x : Rat)
  | arc (c q : Pt)
  | again (n : Nat) (rs : List Rw)
  | keep (rs : List Rw)
  | ever (rs : List Rw)
def Rw.word : Rw → Str
  | .go _ => "go"
  | .skip _ => "skip"
  | .side _ _ => "side"
  | .dot => "dot"
  | .left => "left"
  | .right => "right"
  | .round => "round"
  | .mirror => "mirror"
  | .grow _ => "grow"
  | .quarter _ => "quarter"
  | .half _ => "half"
  | .arc _ _ => "arc"
  | .again _ _ => "again"
  | .keep _ => "keep"
  | .ever _ => "ever"
mutual
def Rw.D : Rw → PyData
  | .go x => .tuple [.str "go", fr x]
  | .skip x => .tuple [.str "skip", fr x]
  | .side x y => .tuple [.str "side", fr x, fr y]
  | .dot => .tuple [.str "dot"]
  | .left => .tuple [.str "left"]
  | .right => .tuple [.str "right"]
  | .round => .tuple [.str "round"]
  | .mirror => .tuple [.str "mirror"]
  | .grow x => .tuple [.str "grow", fr x]
  | .quarter x => .tuple [.str "quarter", fr x]
  | .half x => .tuple [.str "half", fr x]
  | .arc c q => .tuple [.str "arc", fr c.x, fr c.y, fr q.x, fr q.y]
  | .again n rs => .tuple [.str "again", .int (n : Int), .tuple (rowsD rs)]
  | .keep rs => .tuple [.str "keep", .tuple (rowsD rs)]
  | .ever rs => .tuple [.str "ever", .tuple (rowsD rs)]
def rowsD : List Rw → List PyData
  | [] => []
  | r :: rs => r.D :: rowsD rs
end
theorem rowsD_map : ∀ rs : List Rw, rowsD rs = rs.map Rw.D
  | [] => rfl
  | r :: rs => by rw [List.map_cons, ← rowsD_map rs]; rfl
theorem rowsD_len (rs : List Rw) : (rowsD rs).length = rs.length := by rw [rowsD_map, List.length_map]
def Rw.isW (r : Rw) (w : Str) : Bool := PyData.eqv (.str r.word) (.str w)
theorem it_word (r : Rw) : itD r.D 0 = some (.str r.word) := by cases r <;> rfl
theorem sh_word (r : Rw) : SeqAt.shaped (.str r.word) = true := by cases r <;> simp only [Rw.word] <;> decide +kernel
theorem of_go {r : Rw} (h : r.isW "go" = true) : ∃ x, r = .go x := by cases r <;> first | exact ⟨_, rfl⟩ | (simp only [Rw.isW, Rw.word] at h; exact absurd h (by decide +kernel))
theorem of_skip {r : Rw} (h : r.isW "skip" = true) : ∃ x, r = .skip x := by cases r <;> first | exact ⟨_, rfl⟩ | (simp only [Rw.isW, Rw.word] at h; exact absurd h (by decide +kernel))
theorem of_side {r : Rw} (h : r.isW "side" = true) : ∃ x y, r = .side x y := by cases r <;> first | exact ⟨_, _, rfl⟩ | (simp only [Rw.isW, Rw.word] at h; exact absurd h (by decide +kernel))
theorem of_dot {r : Rw} (h : r.isW "dot" = true) : r = .dot := by cases r <;> first | rfl | (simp only [Rw.isW, Rw.word] at h; exact absurd h (by decide +kernel))
theorem of_mirror {r : Rw} (h : r.isW "mirror" = true) : r = .mirror := by cases r <;> first | rfl | (simp only [Rw.isW, Rw.word] at h; exact absurd h (by decide +kernel))
theorem of_grow {r : Rw} (h : r.isW "grow" = true) : ∃ x, r = .grow x := by cases r <;> first | exact ⟨_, rfl⟩ | (simp only [Rw.isW, Rw.word] at h; exact absurd h (by decide +kernel))
theorem of_quarter {r : Rw} (h : r.isW "quarter" = true) : ∃ x, r = .quarter x := by cases r <;> first | exact ⟨_, rfl⟩ | (simp only [Rw.isW, Rw.word] at h; exact absurd h (by decide +kernel))
theorem of_half {r : Rw} (h : r.isW "half" = true) : ∃ x, r = .half x := by cases r <;> first | exact ⟨_, rfl⟩ | (simp only [Rw.isW, Rw.word] at h; exact absurd h (by decide +kernel))
theorem of_arc {r : Rw} (h : r.isW "arc" = true) : ∃ c q, r = .arc c q := by cases r <;> first | exact ⟨_, _, rfl⟩ | (simp only [Rw.isW, Rw.word] at h; exact absurd h (by decide +kernel))
theorem of_again {r : Rw} (h : r.isW "again" = true) : ∃ n rs, r = .again n rs := by cases r <;> first | exact ⟨_, _, rfl⟩ | (simp only [Rw.isW, Rw.word] at h; exact absurd h (by decide +kernel))
theorem of_keep {r : Rw} (h : r.isW "keep" = true) : ∃ rs, r = .keep rs := by cases r <;> first | exact ⟨_, rfl⟩ | (simp only [Rw.isW, Rw.word] at h; exact absurd h (by decide +kernel))
theorem of_ever {r : Rw} (h : r.isW "ever" = true) : ∃ rs, r = .ever rs := by cases r <;> first | exact ⟨_, rfl⟩ | (simp only [Rw.isW, Rw.word] at h; exact absurd h (by decide +kernel))
def Rw.plain : Rw → Bool
  | .again _ _ => false
  | .keep _ => false
  | .ever _ => false
  | _ => true
theorem plain_of {r : Rw} (h1 : r.isW "again" = false) (h2 : r.isW "keep" = false) (h3 : r.isW "ever" = false) : r.plain = true := by
  cases r <;> first | rfl | (simp only [Rw.isW, Rw.word] at h1; exact absurd h1 (by decide +kernel)) | (simp only [Rw.isW, Rw.word] at h2; exact absurd h2 (by decide +kernel)) | (simp only [Rw.isW, Rw.word] at h3; exact absurd h3 (by decide +kernel))
mutual
def Rw.lines : Rw → Nat
  | .again _ rs => 2 + linesL rs
  | .keep rs => 2 + linesL rs
  | .ever rs => 2 + linesL rs
  | _ => 1
def linesL : List Rw → Nat
  | [] => 0
  | r :: rs => r.lines + linesL rs
end
mutual
def Rw.done : Rw → Nat
  | .again n rs => n * doneL rs
  | .keep rs => doneL rs
  | .ever rs => doneL rs
  | _ => 1
def doneL : List Rw → Nat
  | [] => 0
  | r :: rs => r.done + doneL rs
end
mutual
def Rw.deep : Rw → Nat
  | .again _ rs => 1 + deepL rs
  | .keep rs => 1 + deepL rs
  | .ever rs => 1 + deepL rs
  | _ => 0
def deepL : List Rw → Nat
  | [] => 0
  | r :: rs => max r.deep (deepL rs)
end
theorem linesL_app : ∀ as bs : List Rw, linesL (as ++ bs) = linesL as + linesL bs
  | [], bs => by rw [List.nil_append]; exact (Nat.zero_add _).symm
  | a :: as, bs => by rw [List.cons_append, linesL, linesL, linesL_app as bs, Nat.add_assoc]
theorem doneL_app : ∀ as bs : List Rw, doneL (as ++ bs) = doneL as + doneL bs
  | [], bs => by rw [List.nil_append]; exact (Nat.zero_add _).symm
  | a :: as, bs => by rw [List.cons_append, doneL, doneL, doneL_app as bs, Nat.add_assoc]
theorem deep_mem : ∀ {rs : List Rw} {r : Rw}, r ∈ rs → r.deep ≤ deepL rs
  | a :: as, r, h => by
    rw [deepL]
    rcases List.mem_cons.mp h with rfl | h
    · exact Nat.le_max_left _ _
    · exact Nat.le_trans (deep_mem h) (Nat.le_max_right _ _)
theorem take_at {α : Type} {l : List α} {i : Nat} {x : α} (h : l[i]? = some x) : l.take (i + 1) = l.take i ++ [x] := by rw [List.take_add_one, h]; rfl
theorem doneL_take {rs : List Rw} {i : Nat} {r : Rw} (h : rs[i]? = some r) : doneL (rs.take i) + r.done ≤ doneL rs := by
  have e : rs = rs.take (i + 1) ++ rs.drop (i + 1) := (List.take_append_drop _ _).symm
  have h2 : doneL rs = doneL (rs.take (i + 1)) + doneL (rs.drop (i + 1)) := by rw [← doneL_app, ← e]
  rw [take_at h, doneL_app, doneL, doneL] at h2
  omega
theorem linesL_take {rs : List Rw} {i : Nat} {r : Rw} (h : rs[i]? = some r) : linesL (rs.take (i + 1)) = linesL (rs.take i) + r.lines := by
  rw [take_at h, linesL_app, linesL, linesL, Nat.add_zero]
def stand (p : Pt) (t : Int) : Fr := ⟨p, t, 1, 1⟩
def Rw.mv : Rw → Fr
  | .go x => stand ⟨x, 0⟩ 0
  | .skip x => stand ⟨x, 0⟩ 0
  | .side x y => stand ⟨x, y⟩ 0
  | .left => stand ⟨0, 0⟩ 1
  | .right => stand ⟨0, 0⟩ 3
  | .round => stand ⟨0, 0⟩ 2
  | .mirror => ⟨⟨0, 0⟩, 0, -1, 1⟩
  | .grow s => ⟨⟨0, 0⟩, 0, 1, s⟩
  | .quarter x => stand ⟨absR x, x⟩ (if 0 < x then 1 else 3)
  | .half x => stand ⟨0, x + x⟩ 2
  | .arc _ q => stand q 0
  | _ => Fr.one
def Rw.raw : Rw → Option Raw
  | .go x => some (.st ⟨0, 0⟩ ⟨x, 0⟩)
  | .side x y => some (.st ⟨0, 0⟩ ⟨x, y⟩)
  | .dot => some (.dot ⟨0, 0⟩)
  | .quarter x => some (if 0 < x then .arc ⟨0, x⟩ ⟨0, 0⟩ ⟨absR x, x⟩ else .arc ⟨0, x⟩ ⟨absR x, x⟩ ⟨0, 0⟩)
  | .half x => some (if 0 < x then .arc ⟨0, x⟩ ⟨0, 0⟩ ⟨0, x + x⟩ else .arc ⟨0, x⟩ ⟨0, x + x⟩ ⟨0, 0⟩)
  | .arc c q => some (.arc c ⟨0, 0⟩ q)
  | _ => none
def rawPD : Option Raw → PyData
  | none => .none
  | some z => (z.led Fr.one).D
def shapeD (r : Rw) : PyData := .tuple [rawPD r.raw, frD r.mv]
def iterF (g : Fr) : Nat → Fr
  | 0 => Fr.one
  | n + 1 => (iterF g n).behind g
mutual
def Rw.move : Rw → Fr
  | .again n rs => iterF (moveA rs Fr.one) n
  | .keep _ => Fr.one
  | .ever _ => Fr.one
  | .go x => (Rw.go x).mv
  | .skip x => (Rw.skip x).mv
  | .side x y => (Rw.side x y).mv
  | .dot => Rw.dot.mv
  | .left => Rw.left.mv
  | .right => Rw.right.mv
  | .round => Rw.round.mv
  | .mirror => Rw.mirror.mv
  | .grow x => (Rw.grow x).mv
  | .quarter x => (Rw.quarter x).mv
  | .half x => (Rw.half x).mv
  | .arc c q => (Rw.arc c q).mv
def moveA : List Rw → Fr → Fr
  | [], f => f
  | r :: rs, f => moveA rs (f.behind r.move)
end
theorem moveA_app : ∀ (as bs : List Rw) (f : Fr), moveA (as ++ bs) f = moveA bs (moveA as f)
  | [], bs, f => rfl
  | a :: as, bs, f => by rw [List.cons_append, moveA, moveA, moveA_app as bs]
theorem moveA_take {rs : List Rw} {i : Nat} {r : Rw} (h : rs[i]? = some r) (f : Fr) : moveA (rs.take (i + 1)) f = (moveA (rs.take i) f).behind r.move := by
  rw [take_at h, moveA_app, moveA, moveA]
def rdD (q : List Int) : PyData := .tuple (q.map PyData.int)
/-- an ever met: where the pen stood, where it stood behind its rows, its number, the rounds round it, its pieces -/
structure En where
  f : Fr
  g : Fr
  k : Int
  q : List Int
  ts : List Tl
abbrev Ro := Fr × List Tl × List En
def loopR (F : Nat → Fr → Ro) (f : Fr) : Nat → Ro
  | 0 => (f, [], [])
  | n + 1 => ((F n (loopR F f n).1).1, (loopR F f n).2.1 ++ (F n (loopR F f n).1).2.1, (loopR F f n).2.2 ++ (F n (loopR F f n).1).2.2)
def pcsR (r : Rw) (k : Int) (f : Fr) (q : List Int) : List Tl :=
  match r.raw with
  | none => []
  | some z => [(z.led f, .int k, rdD q)]
def plainR (r : Rw) (k : Int) (f : Fr) (q : List Int) : Ro := (f.behind r.mv, pcsR r k f q, [])
mutual
def Rw.run : Rw → Int → Fr → List Int → Ro
  | .again n rs, k, f, q => loopR (fun i g => runL rs (k + 1) g (q ++ [(i : Int)])) f n
  | .keep rs, k, f, q => (f, (runL rs (k + 1) f q).2)
  | .ever rs, k, f, q => (f, [], [⟨f, moveA rs f, k, q, (runL rs (k + 1) f []).2.1⟩])
  | .go x, k, f, q => plainR (.go x) k f q
  | .skip x, k, f, q => plainR (.skip x) k f q
  | .side x y, k, f, q => plainR (.side x y) k f q
  | .dot, k, f, q => plainR .dot k f q
  | .left, k, f, q => plainR .left k f q
  | .right, k, f, q => plainR .right k f q
  | .round, k, f, q => plainR .round k f q
  | .mirror, k, f, q => plainR .mirror k f q
  | .grow x, k, f, q => plainR (.grow x) k f q
  | .quarter x, k, f, q => plainR (.quarter x) k f q
  | .half x, k, f, q => plainR (.half x) k f q
  | .arc c p, k, f, q => plainR (.arc c p) k f q
def runL : List Rw → Int → Fr → List Int → Ro
  | [], _, f, _ => (f, [], [])
  | r :: rs, k, f, q => ((runL rs (k + r.lines) (r.run k f q).1 q).1, (r.run k f q).2.1 ++ (runL rs (k + r.lines) (r.run k f q).1 q).2.1, (r.run k f q).2.2 ++ (runL rs (k + r.lines) (r.run k f q).1 q).2.2)
end
def Co (L : Nat) (x : Rat) : Prop := Fb 40 x ∧ ∃ z : Int, x * (L : Rat) = (z : Rat)
mutual
def Rw.good (L : Nat) : Rw → Prop
  | .go x => Co L x
  | .skip x => Co L x
  | .side x y => Co L x ∧ Co L y
  | .grow s => 0 < s ∧ s.num.natAbs ≤ 12 ∧ s.den ≤ 12
  | .quarter x => Co L x ∧ x ≠ 0
  | .half x => Co L x ∧ x ≠ 0
  | .arc c q => Pb 40 c ∧ (Co L q.x ∧ Co L q.y) ∧ c ≠ ⟨0, 0⟩ ∧ c.far ⟨0, 0⟩ = c.far q
  | .again n rs => n ≤ 12 ∧ goodL L rs
  | .keep rs => goodL L rs
  | .ever rs => goodL L rs
  | .dot => True
  | .left => True
  | .right => True
  | .round => True
  | .mirror => True
def goodL (L : Nat) : List Rw → Prop
  | [] => True
  | r :: rs => r.good L ∧ goodL L rs
end
theorem good_mem {L : Nat} : ∀ {rs : List Rw} {r : Rw}, goodL L rs → r ∈ rs → r.good L
  | a :: as, r, h, hr => by
    rw [goodL] at h
    rcases List.mem_cons.mp hr with rfl | hr
    · exact h.1
    · exact good_mem h.2 hr
theorem good_all {L : Nat} : ∀ {rs : List Rw}, (∀ r ∈ rs, r.good L) → goodL L rs
  | [], _ => by rw [goodL]; trivial
  | a :: as, h => by rw [goodL]; exact ⟨h a List.mem_cons_self, good_all fun r hr => h r (List.mem_cons_of_mem _ hr)⟩
theorem good_take {L : Nat} {rs : List Rw} (h : goodL L rs) (i : Nat) : goodL L (rs.take i) := good_all fun r hr => good_mem h (List.mem_of_mem_take hr)
structure Sz (L n : Nat) (f : Fr) : Prop where
  ok : f.ok
  ex : ∃ (d a : Nat) (X Y : Int), 0 < d ∧ d ≤ 12 ^ n ∧ a ≤ 12 ^ n ∧ f.size * (d : Rat) = (a : Rat) ∧ f.place.x * ((d : Rat) * (L : Rat)) = (X : Rat) ∧ f.place.y * ((d : Rat) * (L : Rat)) = (Y : Rat) ∧
    X.natAbs ≤ n * 12 ^ n * L * 2 ^ 41 ∧ Y.natAbs ≤ n * 12 ^ n * L * 2 ^ 41
theorem sz_one (L : Nat) : Sz L 0 Fr.one := ⟨one_ok, 1, 1, 0, 0, by decide, by decide, by decide, Rat.one_mul _, Rat.zero_mul _, Rat.zero_mul _, by simp, by simp⟩
theorem sz_mono {L n m : Nat} {f : Fr} (h : Sz L n f) (k : n ≤ m) : Sz L m f := by
  obtain ⟨ok, d, a, X, Y, h0, h1, h2, h3, h4, h5, h6, h7⟩ := h
  have p : 12 ^ n ≤ 12 ^ m := Nat.pow_le_pow_right (by decide) k
  have q : n * 12 ^ n * L * 2 ^ 41 ≤ m * 12 ^ m * L * 2 ^ 41 := Nat.mul_le_mul_right _ (Nat.mul_le_mul_right _ (Nat.mul_le_mul k p))
  exact ⟨ok, d, a, X, Y, h0, Nat.le_trans h1 p, Nat.le_trans h2 p, h3, h4, h5, Nat.le_trans h6 q, Nat.le_trans h7 q⟩
/-- turned and mirrored, whole parts stay whole -/
theorem lin_int {t : Nat} {h : Int} (hh : h = 1 ∨ h = -1) {p : Pt} {D : Rat} {B : Nat} {X Y : Int} (hx : p.x * D = (X : Rat)) (hy : p.y * D = (Y : Rat)) (bx : X.natAbs ≤ B) (bY : Y.natAbs ≤ B) :
    ∃ U W : Int, (lin t (h : Rat) p).x * D = (U : Rat) ∧ (lin t (h : Rat) p).y * D = (W : Rat) ∧ U.natAbs ≤ B ∧ W.natAbs ≤ B := by
  unfold lin
  induction t with
  | zero =>
    refine ⟨X, h * Y, hx, ?_, bx, ?_⟩
    · show (h : Rat) * p.y * D = _
      rw [Rat.mul_assoc, hy, Rat.intCast_mul]
    · rw [Int.natAbs_mul]
      rcases hh with rfl | rfl <;> simpa using bY
  | succ n ih =>
    obtain ⟨U, W, h1, h2, h3, h4⟩ := ih
    refine ⟨-W, U, ?_, h1, by rw [Int.natAbs_neg]; exact h4, h3⟩
    show -(_ : Rat) * D = _
    rw [Rat.neg_mul, h2, Rat.intCast_neg]
theorem sz_arith {n m L C a d' Z X d : Nat} (ha : a ≤ 12 ^ n) (hZ : Z ≤ m * 12 ^ m * L * C) (hX : X ≤ n * 12 ^ n * L * C) (hd : d' ≤ 12 ^ m) : Z * a + X * d' ≤ (n + m) * 12 ^ (n + m) * L * C := by
  have h1 : Z * a ≤ m * 12 ^ m * L * C * 12 ^ n := Nat.mul_le_mul hZ ha
  have h2 : X * d' ≤ n * 12 ^ n * L * C * 12 ^ m := Nat.mul_le_mul hX hd
  have e : (n + m) * 12 ^ (n + m) * L * C = m * 12 ^ m * L * C * 12 ^ n + n * 12 ^ n * L * C * 12 ^ m := by
    rw [Nat.pow_add]
    grind
  omega
theorem sz_coord {x y s : Rat} {d d' L a : Nat} {U X : Int} (hs : s * (d : Rat) = (a : Rat)) (hu : x * ((d' : Rat) * (L : Rat)) = (U : Rat)) (hx : y * ((d : Rat) * (L : Rat)) = (X : Rat)) : (x * s + y) * (((d * d' : Nat) : Rat) * (L : Rat)) = ((U * (a : Int) + X * (d' : Int) : Int) : Rat) := by
  have e1 : ((a : Int) : Rat) = (a : Rat) := rfl
  have e2 : ((d' : Int) : Rat) = (d' : Rat) := rfl
  rw [Rat.natCast_mul, Rat.intCast_add, Rat.intCast_mul, Rat.intCast_mul, ← hu, ← hx, e1, e2, ← hs]
  grind
theorem sz_behind {L n m : Nat} {f g : Fr} (hf : Sz L n f) (hg : Sz L m g) : Sz L (n + m) (f.behind g) := by
  obtain ⟨ok, d, a, X, Y, h0, h1, h2, h3, h4, h5, h6, h7⟩ := hf
  obtain ⟨ok', d', a', X', Y', k0, k1, k2, k3, k4, k5, k6, k7⟩ := hg
  obtain ⟨U, W, u1, u2, u3, u4⟩ := lin_int (t := (f.turns % 4).toNat) ok.hd k4 k5 k6 k7
  refine ⟨behind_ok ok ok', d * d', a * a', U * a + X * d', W * a + Y * d', Nat.mul_pos h0 k0, by rw [Nat.pow_add]; exact Nat.mul_le_mul h1 k1, by rw [Nat.pow_add]; exact Nat.mul_le_mul h2 k2, ?_, ?_, ?_, ?_, ?_⟩
  · show f.size * g.size * _ = _
    rw [Rat.natCast_mul, Rat.natCast_mul, ← h3, ← k3]
    grind
  · show (f.led g.place).x * _ = _
    rw [led_lin]
    exact sz_coord h3 u1 h4
  · show (f.led g.place).y * _ = _
    rw [led_lin]
    exact sz_coord h3 u2 h5
  · have := sz_arith (d := 0) h2 u3 h6 k1
    refine Nat.le_trans (Int.natAbs_add_le _ _) ?_
    rw [Int.natAbs_mul, Int.natAbs_mul, Int.natAbs_natCast, Int.natAbs_natCast]
    exact this
  · have := sz_arith (d := 0) h2 u4 h7 k1
    refine Nat.le_trans (Int.natAbs_add_le _ _) ?_
    rw [Int.natAbs_mul, Int.natAbs_mul, Int.natAbs_natCast, Int.natAbs_natCast]
    exact this
theorem co_bound {L : Nat} {x : Rat} (h : Co L x) : ∃ z : Int, x * (L : Rat) = (z : Rat) ∧ z.natAbs ≤ L * 2 ^ 40 := by
  obtain ⟨hb, z, hz⟩ := h
  refine ⟨z, hz, ?_⟩
  -- |z| * den = |num| * L
  have hd : (0 : Rat) < (x.den : Rat) := Rat.natCast_pos.mpr x.den_pos
  have e : x * (x.den : Rat) = (x.num : Rat) := mul_den_num x
  have e2 : ((z * (x.den : Int) : Int) : Rat) = ((x.num * (L : Int) : Int) : Rat) := by
    have c1 : ((x.den : Int) : Rat) = (x.den : Rat) := rfl
    have c2 : ((L : Int) : Rat) = (L : Rat) := rfl
    rw [Rat.intCast_mul, Rat.intCast_mul, c1, c2, ← hz, ← e]
    grind
  have e3 : z * (x.den : Int) = x.num * (L : Int) := Rat.intCast_inj.mp e2
  have e4 : z.natAbs * x.den = x.num.natAbs * L := by
    have := congrArg Int.natAbs e3
    rw [Int.natAbs_mul, Int.natAbs_mul, Int.natAbs_natCast, Int.natAbs_natCast] at this
    exact this
  have h1 : z.natAbs ≤ z.natAbs * x.den := Nat.le_mul_of_pos_right _ x.den_pos
  have h2 : x.num.natAbs * L ≤ 2 ^ 40 * L := Nat.mul_le_mul_right _ (Nat.le_of_lt hb.1)
  rw [Nat.mul_comm L]
  omega
theorem sz_stand {L : Nat} {p : Pt} {t : Int} (h0 : 0 ≤ t) (h1 : t < 4) {X Y : Int} (hx : p.x * (L : Rat) = (X : Rat)) (hy : p.y * (L : Rat) = (Y : Rat)) (bx : X.natAbs ≤ L * 2 ^ 41) (bY : Y.natAbs ≤ L * 2 ^ 41) : Sz L 1 (stand p t) := by
  have e : ((1 : Nat) : Rat) * (L : Rat) = (L : Rat) := Rat.one_mul _
  have one : (0 : Rat) < 1 := by decide
  have g : ∀ Z : Int, Z.natAbs ≤ L * 2 ^ 41 → Z.natAbs ≤ 1 * 12 ^ 1 * L * 2 ^ 41 := fun Z h => Nat.le_trans h (Nat.mul_le_mul_right _ (Nat.le_mul_of_pos_left _ (by decide)))
  exact ⟨⟨h0, h1, .inl rfl, one⟩, 1, 1, X, Y, by decide, by decide, by decide, Rat.one_mul _, by rw [e]; exact hx, by rw [e]; exact hy, g X bx, g Y bY⟩
theorem to41 {L z : Nat} (h : z ≤ L * 2 ^ 40) : z ≤ L * 2 ^ 41 := Nat.le_trans h (Nat.mul_le_mul_left _ (p2_le (by decide)))
theorem co_zero (L : Nat) : (0 : Rat) * (L : Rat) = ((0 : Int) : Rat) := Rat.zero_mul _
theorem absR_co {x : Rat} {L : Nat} {z : Int} {B : Nat} (h : x * (L : Rat) = (z : Rat)) (hb : z.natAbs ≤ B) : ∃ y : Int, absR x * (L : Rat) = (y : Rat) ∧ y.natAbs ≤ B := by
  unfold absR
  split
  · exact ⟨-z, by rw [Rat.neg_mul, h, Rat.intCast_neg], by rw [Int.natAbs_neg]; exact hb⟩
  · exact ⟨z, h, hb⟩
theorem sz_mv {L : Nat} {r : Rw} (hp : r.plain = true) (h : r.good L) : Sz L 1 r.mv := by
  have z0 : (0 : Int).natAbs ≤ L * 2 ^ 41 := Nat.zero_le _
  cases r with
  | go x =>
    rw [Rw.good] at h
    obtain ⟨z, hz, bz⟩ := co_bound h
    exact sz_stand (by decide) (by decide) hz (co_zero L) (to41 bz) z0
  | skip x =>
    rw [Rw.good] at h
    obtain ⟨z, hz, bz⟩ := co_bound h
    exact sz_stand (by decide) (by decide) hz (co_zero L) (to41 bz) z0
  | side x y =>
    rw [Rw.good] at h
    obtain ⟨z, hz, bz⟩ := co_bound h.1
    obtain ⟨y', hy, bY⟩ := co_bound h.2
    exact sz_stand (by decide) (by decide) hz hy (to41 bz) (to41 bY)
  | dot => exact sz_mono (sz_one L) (by decide)
  | left => exact sz_stand (by decide) (by decide) (co_zero L) (co_zero L) z0 z0
  | right => exact sz_stand (by decide) (by decide) (co_zero L) (co_zero L) z0 z0
  | round => exact sz_stand (by decide) (by decide) (co_zero L) (co_zero L) z0 z0
  | mirror => exact ⟨⟨by decide, by decide, .inr rfl, by decide⟩, 1, 1, 0, 0, by decide, by decide, by decide, Rat.one_mul _, Rat.zero_mul _, Rat.zero_mul _, Nat.zero_le _, Nat.zero_le _⟩
  | grow s =>
    rw [Rw.good] at h
    obtain ⟨h0, h1, h2⟩ := h
    have e : s * (s.den : Rat) = (s.num : Rat) := mul_den_num s
    have hn : 0 < s.num := (num_pos s).mpr h0
    refine ⟨⟨Int.le_refl 0, (by decide : (0 : Int) < 4), .inl rfl, h0⟩, s.den, s.num.natAbs, 0, 0, s.den_pos, h2, h1, ?_, Rat.zero_mul _, Rat.zero_mul _, Nat.zero_le _, Nat.zero_le _⟩
    show s * (s.den : Rat) = _
    rw [e]
    have c : ((s.num.natAbs : Int) : Rat) = (s.num.natAbs : Rat) := rfl
    rw [← c, Int.natAbs_of_nonneg (Int.le_of_lt hn)]
  | quarter x =>
    rw [Rw.good] at h
    obtain ⟨z, hz, bz⟩ := co_bound h.1
    obtain ⟨y, hy, bY⟩ := absR_co hz bz
    show Sz L 1 (stand _ _)
    refine sz_stand ?_ ?_ hy hz (to41 bY) (to41 bz)
    · split <;> decide
    · split <;> decide
  | half x =>
    rw [Rw.good] at h
    obtain ⟨z, hz, bz⟩ := co_bound h.1
    refine sz_stand (by decide) (by decide) (co_zero L) (Y := z + z) ?_ z0 ?_
    · show (x + x) * _ = _
      rw [Rat.add_mul, hz, Rat.intCast_add]
    · have e : L * 2 ^ 41 = L * 2 ^ 40 + L * 2 ^ 40 := by rw [← Nat.mul_add]
      exact Nat.le_trans (Int.natAbs_add_le z z) (by rw [e]; exact Nat.add_le_add bz bz)
  | arc c q =>
    rw [Rw.good] at h
    obtain ⟨z, hz, bz⟩ := co_bound h.2.1.1
    obtain ⟨y', hy, bY⟩ := co_bound h.2.1.2
    exact sz_stand (by decide) (by decide) hz hy (to41 bz) (to41 bY)
  | again n rs => cases hp
  | keep rs => cases hp
  | ever rs => cases hp
theorem sz_iter {L n : Nat} {g : Fr} (h : Sz L n g) : ∀ k, Sz L (k * n) (iterF g k)
  | 0 => by rw [Nat.zero_mul]; exact sz_one L
  | k + 1 => by
    rw [Nat.succ_mul]
    exact sz_behind (sz_iter h k) h
mutual
theorem sz_move {L : Nat} : ∀ r : Rw, r.good L → Sz L r.done r.move
  | .again n rs, h => by
    rw [Rw.good] at h
    have := sz_moveA rs h.2 0 Fr.one (sz_one L)
    rw [Nat.zero_add] at this
    exact sz_iter this n
  | .keep rs, _ => sz_mono (sz_one L) (Nat.zero_le _)
  | .ever rs, _ => sz_mono (sz_one L) (Nat.zero_le _)
  | .go x, h => sz_mv rfl h
  | .skip x, h => sz_mv rfl h
  | .side x y, h => sz_mv rfl h
  | .dot, h => sz_mv (r := .dot) rfl h
  | .left, h => sz_mv (r := .left) rfl h
  | .right, h => sz_mv (r := .right) rfl h
  | .round, h => sz_mv (r := .round) rfl h
  | .mirror, h => sz_mv (r := .mirror) rfl h
  | .grow x, h => sz_mv rfl h
  | .quarter x, h => sz_mv rfl h
  | .half x, h => sz_mv rfl h
  | .arc c q, h => sz_mv rfl h
theorem sz_moveA {L : Nat} : ∀ rs : List Rw, goodL L rs → ∀ (n : Nat) (f : Fr), Sz L n f → Sz L (n + doneL rs) (moveA rs f)
  | [], _, n, f, h => h
  | r :: rs, hg, n, f, h => by
    rw [goodL] at hg
    rw [moveA, doneL, ← Nat.add_assoc]
    exact sz_moveA rs hg.2 _ _ (sz_behind h (sz_move r hg.1))
end
theorem done_plain {r : Rw} (h : r.plain = true) : r.done = 1 := by cases r <;> first | rfl | cases h
structure Lim (S P L N : Nat) : Prop where
  l0 : 0 < L
  s0 : 0 < S
  p0 : 0 < P
  s : 12 ^ N < 2 ^ S
  p : (N + 1) * 12 ^ N * L * 2 ^ 41 < 2 ^ P
structure Frs (s p : Nat) (f : Fr) : Prop where
  sz : Fb s f.size
  pl : Pb p f.place
theorem fb_part {x : Rat} {D : Nat} {X : Int} {b : Nat} (h : x * (D : Rat) = (X : Rat)) (h0 : 0 < D) (h1 : D < 2 ^ b) (h2 : X.natAbs < 2 ^ b) (hb : 1 < 2 ^ b) : Fb b x := by
  have hd : (0 : Rat) < (D : Rat) := Rat.natCast_pos.mpr h0
  have e : x = Rat.divInt X (D : Int) := by
    rw [Rat.divInt_eq_div, ← h]
    have c : ((D : Int) : Rat) = (D : Rat) := rfl
    rw [c]
    grind
  rw [e]
  exact fb_divInt h2 (by rw [Int.natAbs_natCast]; exact h1) hb
theorem Frs.mono {f : Fr} {s b s' b' : Nat} (h : Frs s b f) (h1 : s ≤ s') (h2 : b ≤ b') : Frs s' b' f := ⟨h.sz.mono h1, h.pl.1.mono h2, h.pl.2.mono h2⟩
/-- a frame's way alone -/
def Fr.pure (f : Fr) : Fr := ⟨⟨0, 0⟩, f.turns, f.hand, f.size⟩
theorem rows_at {rs : List Rw} {i : Nat} {x : S} (h : ((rowsD rs).map S.d)[i]? = some x) : ∃ r, rs[i]? = some r ∧ x = .d r.D := by
  rw [rowsD_map, List.getElem?_map, List.getElem?_map] at h
  cases e : rs[i]? with
  | none => rw [e] at h; cases h
  | some r => rw [e] at h; exact ⟨r, rfl, (Option.some.inj h).symm⟩
theorem take_rows (rs : List Rw) : rs.take ((rowsD rs).map S.d).length = rs := by
  rw [List.length_map, rowsD_len, List.take_length]
def Rw.inner : Rw → List Rw
  | .again _ rs => rs
  | .keep rs => rs
  | .ever rs => rs
  | _ => []
theorem blk_any (r : Rw) : ([PyData.str "again", .str "keep", .str "ever"].any fun z => PyData.eqv z (.str r.word)) = !r.plain := by
  cases r <;> simp only [Rw.word, Rw.plain] <;> decide +kernel
theorem blk_last {r : Rw} (h : r.plain = false) : itD r.D (-1) = some (.tuple (rowsD r.inner)) := by
  cases r <;> first | rfl | cases h
theorem blk_lines {r : Rw} (h : r.plain = false) : r.lines = 2 + linesL r.inner := by
  cases r <;> first | rfl | cases h
theorem plain_lines {r : Rw} (h : r.plain = true) : r.lines = 1 := by
  cases r <;> first | rfl | cases h
theorem blk_deep {r : Rw} (h : r.plain = false) : r.deep = 1 + deepL r.inner := by
  cases r <;> first | rfl | cases h
theorem deep_inner {rs : List Rw} {r : Rw} {d : Nat} (h : deepL rs ≤ d) (hr : r ∈ rs) (hb : r.plain = false) : ∃ e, d = e + 1 ∧ deepL r.inner ≤ e := by
  have h1 := deep_mem hr
  rw [blk_deep hb] at h1
  exact ⟨d - 1, by omega, by omega⟩
theorem good_inner {L : Nat} {r : Rw} (h : r.good L) : goodL L r.inner := by
  cases r <;> first | exact h | exact h.2 | trivial
mutual
def Rw.size : Rw → Nat
  | .again _ rs => 1 + sizeL rs
  | .keep rs => 1 + sizeL rs
  | .ever rs => 1 + sizeL rs
  | _ => 1
def sizeL : List Rw → Nat
  | [] => 0
  | r :: rs => r.size + sizeL rs
end
theorem size_mem : ∀ {rs : List Rw} {r : Rw}, r ∈ rs → r.size ≤ sizeL rs
  | a :: as, r, h => by
    rw [sizeL]
    rcases List.mem_cons.mp h with rfl | h
    · omega
    · have := size_mem h
      omega
theorem size_inner {r : Rw} : sizeL r.inner ≤ r.size := by
  cases r <;> simp [Rw.inner, Rw.size, sizeL]
theorem size_blk {rs : List Rw} {r : Rw} (h : r ∈ rs) : sizeL r.inner ≤ sizeL rs := Nat.le_trans size_inner (size_mem h)
theorem len_size : ∀ rs : List Rw, rs.length ≤ sizeL rs
  | [] => Nat.le_refl _
  | r :: rs => by
    have h1 := len_size rs
    have h2 : 1 ≤ r.size := by cases r <;> simp [Rw.size]
    rw [sizeL, List.length_cons]
    omega
mutual
theorem done_le {L : Nat} : ∀ (r : Rw) (d : Nat), r.good L → r.deep ≤ d → r.done ≤ r.size * 12 ^ d
  | .again n rs, d, h, k => by
    rw [Rw.good] at h
    rw [Rw.deep] at k
    obtain ⟨e, rfl⟩ : ∃ e, d = e + 1 := ⟨d - 1, by omega⟩
    have h1 := doneL_le rs e h.2 (by omega)
    rw [Rw.done, Rw.size, Nat.pow_succ]
    have h2 : n * doneL rs ≤ 12 * (sizeL rs * 12 ^ e) := Nat.mul_le_mul h.1 h1
    have h3 : 12 * (sizeL rs * 12 ^ e) = sizeL rs * (12 ^ e * 12) := by grind
    have h4 : (1 + sizeL rs) * (12 ^ e * 12) = 12 ^ e * 12 + sizeL rs * (12 ^ e * 12) := by rw [Nat.add_mul, Nat.one_mul]
    omega
  | .keep rs, d, h, k => by
    rw [Rw.good] at h
    rw [Rw.deep] at k
    have h1 := doneL_le rs d h (by omega)
    rw [Rw.done, Rw.size, Nat.add_mul]
    omega
  | .ever rs, d, h, k => by
    rw [Rw.good] at h
    rw [Rw.deep] at k
    have h1 := doneL_le rs d h (by omega)
    rw [Rw.done, Rw.size, Nat.add_mul]
    omega
  | .go x, d, _, _ => by show 1 ≤ 1 * 12 ^ d; rw [Nat.one_mul]; exact Nat.pow_pos (by decide)
  | .skip x, d, _, _ => by show 1 ≤ 1 * 12 ^ d; rw [Nat.one_mul]; exact Nat.pow_pos (by decide)
  | .side x y, d, _, _ => by show 1 ≤ 1 * 12 ^ d; rw [Nat.one_mul]; exact Nat.pow_pos (by decide)
  | .dot, d, _, _ => by show 1 ≤ 1 * 12 ^ d; rw [Nat.one_mul]; exact Nat.pow_pos (by decide)
  | .left, d, _, _ => by show 1 ≤ 1 * 12 ^ d; rw [Nat.one_mul]; exact Nat.pow_pos (by decide)
  | .right, d, _, _ => by show 1 ≤ 1 * 12 ^ d; rw [Nat.one_mul]; exact Nat.pow_pos (by decide)
  | .round, d, _, _ => by show 1 ≤ 1 * 12 ^ d; rw [Nat.one_mul]; exact Nat.pow_pos (by decide)
  | .mirror, d, _, _ => by show 1 ≤ 1 * 12 ^ d; rw [Nat.one_mul]; exact Nat.pow_pos (by decide)
  | .grow x, d, _, _ => by show 1 ≤ 1 * 12 ^ d; rw [Nat.one_mul]; exact Nat.pow_pos (by decide)
  | .quarter x, d, _, _ => by show 1 ≤ 1 * 12 ^ d; rw [Nat.one_mul]; exact Nat.pow_pos (by decide)
  | .half x, d, _, _ => by show 1 ≤ 1 * 12 ^ d; rw [Nat.one_mul]; exact Nat.pow_pos (by decide)
  | .arc c q, d, _, _ => by show 1 ≤ 1 * 12 ^ d; rw [Nat.one_mul]; exact Nat.pow_pos (by decide)
theorem doneL_le {L : Nat} : ∀ (rs : List Rw) (d : Nat), goodL L rs → deepL rs ≤ d → doneL rs ≤ sizeL rs * 12 ^ d
  | [], d, _, _ => Nat.zero_le _
  | r :: rs, d, h, k => by
    rw [goodL] at h
    rw [deepL] at k
    have h1 := done_le r d h.1 (by omega)
    have h2 := doneL_le rs d h.2 (by omega)
    rw [doneL, sizeL, Nat.add_mul]
    omega
end
/-- rows of a program, not too many, not too deep -/
structure Prg (L d : Nat) (rs : List Rw) : Prop where
  g : goodL L rs
  d : deepL rs ≤ d
  z : sizeL rs ≤ 1000
theorem prg_inner {L d : Nat} {rs : List Rw} {r : Rw} (h : Prg L d rs) (hr : r ∈ rs) (hb : r.plain = false) : ∃ e, d = e + 1 ∧ Prg L e r.inner := by
  obtain ⟨e, h1, h2⟩ := deep_inner h.d hr hb
  exact ⟨e, h1, good_inner (good_mem h.g hr), h2, Nat.le_trans (size_blk hr) h.z⟩
theorem prg_done {L d : Nat} {rs : List Rw} (h : Prg L d rs) (k : d ≤ 8) : doneL rs < 2 ^ 40 := by
  have h1 := doneL_le rs d h.g h.d
  have h2 : 12 ^ d ≤ 12 ^ 8 := Nat.pow_le_pow_right (by decide) k
  have h3 : sizeL rs * 12 ^ d ≤ 1000 * 12 ^ 8 := Nat.mul_le_mul h.z h2
  have h4 : 1000 * 12 ^ 8 < 2 ^ 40 := by decide
  omega
theorem prg_mono {L d e : Nat} {rs : List Rw} (h : Prg L d rs) (k : d ≤ e) : Prg L e rs := ⟨h.g, Nat.le_trans h.d k, h.z⟩
theorem done_step {rs : List Rw} {i : Nat} {r : Rw} (h : rs[i]? = some r) : doneL (rs.take (i + 1)) = doneL (rs.take i) + r.done := by
  rw [take_at h, doneL_app, doneL, doneL, Nat.add_zero]
mutual
def Rw.alld (N : Nat) : Rw → Prop
  | .again _ rs => doneL rs ≤ N ∧ alldL N rs
  | .keep rs => doneL rs ≤ N ∧ alldL N rs
  | .ever rs => doneL rs ≤ N ∧ alldL N rs
  | _ => True
def alldL (N : Nat) : List Rw → Prop
  | [] => True
  | r :: rs => r.alld N ∧ alldL N rs
end
theorem alld_mem {N : Nat} : ∀ {rs : List Rw} {r : Rw}, alldL N rs → r ∈ rs → r.alld N
  | a :: as, r, h, hr => by
    rw [alldL] at h
    rcases List.mem_cons.mp hr with rfl | hr
    · exact h.1
    · exact alld_mem h.2 hr
theorem alld_all {N : Nat} : ∀ {rs : List Rw}, (∀ r ∈ rs, r.alld N) → alldL N rs
  | [], _ => by rw [alldL]; trivial
  | a :: as, h => by rw [alldL]; exact ⟨h a List.mem_cons_self, alld_all fun r hr => h r (List.mem_cons_of_mem _ hr)⟩
/-- the bits of a move -/
structure Mv (L lb N : Nat) : Prop where
  l0 : 0 < L
  l1 : L ≤ 2 ^ lb
  n : N ≤ 2000
  b : 8 * N + 2 * lb + 200 ≤ 8800
theorem p12 (n : Nat) : 12 ^ n ≤ 2 ^ (4 * n) := by
  rw [Nat.pow_mul]
  exact Nat.pow_le_pow_left (by decide) n
theorem mv_bits {L lb N n : Nat} {f : Fr} (hM : Mv L lb N) (h : Sz L n f) (k : n ≤ N) : Frs (4 * n + 1) (4 * n + lb + 60) f := by
  obtain ⟨ok, d, a, X, Y, h0, h1, h2, h3, h4, h5, h6, h7⟩ := h
  have c : ((d * L : Nat) : Rat) = (d : Rat) * (L : Rat) := Rat.natCast_mul _ _
  have c2 : ((a : Int) : Rat) = (a : Rat) := rfl
  have e1 := p12 n
  have e2 : 2 ^ (4 * n) < 2 ^ (4 * n + 1) := by rw [Nat.pow_succ]; have := Nat.two_pow_pos (4 * n); omega
  have hn : n < 2 ^ 11 := by have := hM.n; show n < 2048; omega
  have hdl : d * L < 2 ^ (4 * n + lb + 60) := by
    have a1 : d * L ≤ 2 ^ (4 * n) * 2 ^ lb := Nat.mul_le_mul (Nat.le_trans h1 e1) hM.l1
    rw [← Nat.pow_add] at a1
    exact Nat.lt_of_le_of_lt a1 (Nat.pow_lt_pow_right (by decide) (by omega))
  have hX : n * 12 ^ n * L * 2 ^ 41 < 2 ^ (4 * n + lb + 60) := by
    have a1 : n * 12 ^ n * L * 2 ^ 41 ≤ 2 ^ 11 * 2 ^ (4 * n) * 2 ^ lb * 2 ^ 41 := Nat.mul_le_mul_right _ (Nat.mul_le_mul (Nat.mul_le_mul (Nat.le_of_lt hn) e1) hM.l1)
    rw [← Nat.pow_add, ← Nat.pow_add, ← Nat.pow_add] at a1
    exact Nat.lt_of_le_of_lt a1 (Nat.pow_lt_pow_right (by decide) (by omega))
  refine ⟨fb_part (X := (a : Int)) (by rw [c2]; exact h3) h0 (Nat.lt_of_le_of_lt (Nat.le_trans h1 e1) e2) (by rw [Int.natAbs_natCast]; exact Nat.lt_of_le_of_lt (Nat.le_trans h2 e1) e2) (one_lt_p2 (by omega)), ?_, ?_⟩
  · exact fb_part (by rw [c]; exact h4) (Nat.mul_pos h0 hM.l0) hdl (Nat.lt_of_le_of_lt h6 hX) (one_lt_p2 (by omega))
  · exact fb_part (by rw [c]; exact h5) (Nat.mul_pos h0 hM.l0) hdl (Nat.lt_of_le_of_lt h7 hX) (one_lt_p2 (by omega))

section
variable {M : MM} {p C qs qe : Addr} {ts : List Tl} {es : List En}
end
mutual
def Rw.acts : Rw → Nat
  | .again n rs => n * actsL rs
  | .keep rs => actsL rs
  | .ever rs => 1 + actsL rs
  | _ => 1
def actsL : List Rw → Nat
  | [] => 0
  | r :: rs => r.acts + actsL rs
end
structure RunOk (L N lb N2 d : Nat) (rs : List Rw) : Prop where
  g : goodL L rs
  d : deepL rs ≤ d
  l1 : Lim 1080 2600 L N
  l2 : Mv L lb N2
  ev : alldL N2 rs
section
variable {M B : MM} {p C qs qe : Addr} {ts : List Tl} {es : List En}
end

section
variable {M B : MM} {t qs qe : Addr} {ts : List Tl} {es : List En}
end
/-- ends whose numbers are not too great -/
structure EnB (e : En) : Prop where
  f : e.f.ok
  g : e.g.ok
  fb : Frs 1080 2600 e.f
  lb : Frs 1200 5000 (e.g.behind e.f.undone)
theorem plains : ∀ {rs : List Rw}, (∀ r ∈ rs, r.plain = true) → doneL rs = rs.length ∧ actsL rs = rs.length ∧ sizeL rs = rs.length ∧ deepL rs = 0 ∧ ∀ N, alldL N rs
  | [], _ => ⟨rfl, rfl, rfl, rfl, fun _ => by rw [alldL]; trivial⟩
  | r :: rs, h => by
    obtain ⟨h1, h2, h4, h5, h6⟩ := plains fun a ha => h a (List.mem_cons_of_mem _ ha)
    have hp := h r List.mem_cons_self
    have e : r.done = 1 ∧ r.acts = 1 ∧ r.size = 1 ∧ r.deep = 0 ∧ ∀ N, r.alld N := by
      cases r <;> first | exact ⟨rfl, rfl, rfl, rfl, fun _ => trivial⟩ | cases hp
    obtain ⟨e1, e2, e4, e5, e6⟩ := e
    refine ⟨?_, ?_, ?_, ?_, fun N => ?_⟩
    · rw [doneL, e1, h1, List.length_cons, Nat.add_comm]
    · rw [actsL, e2, h2, List.length_cons, Nat.add_comm]
    · rw [sizeL, e4, h4, List.length_cons, Nat.add_comm]
    · rw [deepL, e5, h5]
      rfl
    · rw [alldL]
      exact ⟨e6 N, h6 N⟩
mutual
def Rw.draws : Rw → Bool
  | .again n rs => !decide (n = 0) && drawsL rs
  | .keep rs => drawsL rs
  | .ever rs => drawsL rs
  | .go _ => true
  | .side _ _ => true
  | .dot => true
  | .quarter _ => true
  | .half _ => true
  | .arc _ _ => true
  | _ => false
def drawsL : List Rw → Bool
  | [] => false
  | r :: rs => r.draws || drawsL rs
end
theorem drawsL_app : ∀ as bs : List Rw, drawsL (as ++ bs) = (drawsL as || drawsL bs)
  | [], bs => rfl
  | a :: as, bs => by rw [List.cons_append, drawsL, drawsL, drawsL_app as bs, Bool.or_assoc]
theorem draws_step {rs : List Rw} {i : Nat} {r : Rw} (h : rs[i]? = some r) : drawsL (rs.take (i + 1)) = (drawsL (rs.take i) || r.draws) := by
  rw [take_at h, drawsL_app, drawsL, drawsL, Bool.or_false]
theorem draws_plain {r : Rw} (h : r.plain = true) : r.draws = r.raw.isSome := by cases r <;> first | rfl | cases h
def sizeR (rs : List Rw) : Rat := (moveA rs Fr.one).size
theorem size_step {rs : List Rw} {i : Nat} {r : Rw} (h : rs[i]? = some r) : sizeR (rs.take (i + 1)) = sizeR (rs.take i) * r.move.size := by
  unfold sizeR
  rw [moveA_take h]
  rfl
theorem move_size {r : Rw} (h1 : r.isW "grow" = false) (h2 : r.isW "again" = false) : r.move.size = 1 := by
  cases r <;> first | rfl | (simp only [Rw.isW, Rw.word] at h1; exact absurd h1 (by decide +kernel)) | (simp only [Rw.isW, Rw.word] at h2; exact absurd h2 (by decide +kernel))
theorem fb_size {L lb N n : Nat} {f : Fr} (hM : Mv L lb N) (h : Sz L n f) (k : n ≤ N) : Fb (4 * N + 1) f.size := (mv_bits hM h k).sz.mono (by omega)
theorem fb_mv2 {L lb N : Nat} (hM : Mv L lb N) : (4 * N + 1) + (4 * N + 1) ≤ 9000 := by
  have := hM.b
  omega
def small34 (x : Rat) : Bool := decide (x = 1) || decide (4 * x.num ≤ 3 * (x.den : Int))
def endlessB (rs : List Rw) : Bool := !decide (300 < doneL rs) && (small34 (sizeR rs) && drawsL rs)
mutual
def Rw.bare : Rw → Rw
  | .again n rs => .again n (bareL rs)
  | .keep rs => .keep (bareL rs)
  | .ever rs => .keep (bareL rs)
  | .go x => .go x
  | .skip x => .skip x
  | .side x y => .side x y
  | .dot => .dot
  | .left => .left
  | .right => .right
  | .round => .round
  | .mirror => .mirror
  | .grow x => .grow x
  | .quarter x => .quarter x
  | .half x => .half x
  | .arc c q => .arc c q
def bareL : List Rw → List Rw
  | [] => []
  | r :: rs => r.bare :: bareL rs
end
inductive Bw where
  | no
  | again
  | keep
  | ever
def Bw.word : Bw → Str
  | .no => ""
  | .again => "again"
  | .keep => "keep"
  | .ever => "ever"
def Bw.isE : Bw → Bool
  | .ever => true
  | _ => false
def twelfth : Rat := ⟨1, 12, by decide, by decide⟩
def dotsFor (rs : List Rw) : List Rw := rs ++ List.replicate (if !drawsL rs then 1 else 0) Rw.dot
def growsFor (rs : List Rw) : List Rw := rs ++ List.replicate (if !endlessB rs then 1 else 0) (Rw.grow twelfth)
def everRows (rs : List Rw) : List Rw := growsFor (dotsFor rs)
/-- how great rows are, by the cells they were built of -/
structure Mz (c lb d : Nat) (rs : List Rw) : Prop where
  ex : ∃ L N : Nat, 0 < L ∧ L ≤ 2 ^ lb ∧ goodL L rs ∧ alldL N rs ∧ lb + 4 * N ≤ 80 * c
  hb : lb ≤ 40 * c
  dn : doneL rs ≤ c ∨ (lb + 80 ≤ 40 * c ∧ 3 ≤ c)
  d4 : lb + 4 * doneL rs ≤ 80 * c
  dp : deepL rs ≤ d
  sz : sizeL rs ≤ 2 * c
theorem deepL_app : ∀ as bs : List Rw, deepL (as ++ bs) = max (deepL as) (deepL bs)
  | [], bs => by rw [List.nil_append]; exact (Nat.zero_max _).symm
  | a :: as, bs => by rw [List.cons_append, deepL, deepL, deepL_app as bs, Nat.max_assoc]
theorem sizeL_app : ∀ as bs : List Rw, sizeL (as ++ bs) = sizeL as + sizeL bs
  | [], bs => by rw [List.nil_append]; exact (Nat.zero_add _).symm
  | a :: as, bs => by rw [List.cons_append, sizeL, sizeL, sizeL_app as bs, Nat.add_assoc]
mutual
theorem alld_mono {N N' : Nat} (k : N ≤ N') : ∀ r : Rw, r.alld N → r.alld N'
  | .again n rs, h => by rw [Rw.alld] at h ⊢; exact ⟨Nat.le_trans h.1 k, alldL_mono k rs h.2⟩
  | .keep rs, h => by rw [Rw.alld] at h ⊢; exact ⟨Nat.le_trans h.1 k, alldL_mono k rs h.2⟩
  | .ever rs, h => by rw [Rw.alld] at h ⊢; exact ⟨Nat.le_trans h.1 k, alldL_mono k rs h.2⟩
  | .go x, _ => trivial
  | .skip x, _ => trivial
  | .side x y, _ => trivial
  | .dot, _ => trivial
  | .left, _ => trivial
  | .right, _ => trivial
  | .round, _ => trivial
  | .mirror, _ => trivial
  | .grow x, _ => trivial
  | .quarter x, _ => trivial
  | .half x, _ => trivial
  | .arc c q, _ => trivial
theorem alldL_mono {N N' : Nat} (k : N ≤ N') : ∀ rs : List Rw, alldL N rs → alldL N' rs
  | [], _ => by rw [alldL]; trivial
  | r :: rs, h => by rw [alldL] at h ⊢; exact ⟨alld_mono k r h.1, alldL_mono k rs h.2⟩
end
structure Fm where
  t : Addr
  l : Addr
  b : Bw
  n : Nat
  rs : List Rw
section
variable {B : MM} {st : Addr} {fs : List Fm} {i : Nat} {f : Fm}
end

theorem SqV.kn {M : MM} {s : S} {ds : List PyData} (h : SqV M s ds) : s.known = true := by
  rcases h with rfl | h
  · rfl
  · revert h
    generalize ds.map S.d = xs
    intro h
    cases h <;> rfl
theorem words_lay : PyData.canLay0 (.str "go") = true ∧ PyData.canLay0 (.str "skip") = true ∧ PyData.canLay0 (.str "side") = true ∧ PyData.canLay0 (.str "dot") = true ∧ PyData.canLay0 (.str "left") = true ∧ PyData.canLay0 (.str "right") = true ∧ PyData.canLay0 (.str "round") = true ∧ PyData.canLay0 (.str "mirror") = true ∧ PyData.canLay0 (.str "grow") = true ∧ PyData.canLay0 (.str "quarter") = true ∧ PyData.canLay0 (.str "half") = true ∧ PyData.canLay0 (.str "arc") = true ∧ PyData.canLay0 (.str "again") = true ∧ PyData.canLay0 (.str "keep") = true ∧ PyData.canLay0 (.str "ever") = true := by decide +kernel
mutual
theorem lay_row : ∀ (r : Rw) (d : Nat), r.deep ≤ d → Lay (2 * d + 2) r.D
  | .again n rs, d, h => by
    rw [Rw.deep] at h
    obtain ⟨e, rfl⟩ : ∃ e, d = e + 1 := ⟨d - 1, by omega⟩
    have h2 := lay_rows rs e (by omega)
    rw [Rw.D]
    exact lay_tup (lay_cons ((lay_str words_lay.2.2.2.2.2.2.2.2.2.2.2.2.1).mono (by omega)) (lay_cons ((lay_int _).mono (by omega)) (lay_cons h2 lay_nil)))
  | .keep rs, d, h => by
    rw [Rw.deep] at h
    obtain ⟨e, rfl⟩ : ∃ e, d = e + 1 := ⟨d - 1, by omega⟩
    have h2 := lay_rows rs e (by omega)
    rw [Rw.D]
    exact lay_tup (lay_cons ((lay_str words_lay.2.2.2.2.2.2.2.2.2.2.2.2.2.1).mono (by omega)) (lay_cons h2 lay_nil))
  | .ever rs, d, h => by
    rw [Rw.deep] at h
    obtain ⟨e, rfl⟩ : ∃ e, d = e + 1 := ⟨d - 1, by omega⟩
    have h2 := lay_rows rs e (by omega)
    rw [Rw.D]
    exact lay_tup (lay_cons ((lay_str words_lay.2.2.2.2.2.2.2.2.2.2.2.2.2.2).mono (by omega)) (lay_cons h2 lay_nil))
  | .go x, d, _ => by rw [Rw.D]; exact (lay_tup (n := 1) (lay_cons ((lay_str words_lay.1).mono (by omega)) (lay_cons (lay_fr x) lay_nil))).mono (by omega)
  | .skip x, d, _ => by rw [Rw.D]; exact (lay_tup (n := 1) (lay_cons ((lay_str words_lay.2.1).mono (by omega)) (lay_cons (lay_fr x) lay_nil))).mono (by omega)
  | .side x y, d, _ => by rw [Rw.D]; exact (lay_tup (n := 1) (lay_cons ((lay_str words_lay.2.2.1).mono (by omega)) (lay_cons (lay_fr x) (lay_cons (lay_fr y) lay_nil)))).mono (by omega)
  | .dot, d, _ => by rw [Rw.D]; exact (lay_tup (n := 1) (lay_cons ((lay_str words_lay.2.2.2.1).mono (by omega)) lay_nil)).mono (by omega)
  | .left, d, _ => by rw [Rw.D]; exact (lay_tup (n := 1) (lay_cons ((lay_str words_lay.2.2.2.2.1).mono (by omega)) lay_nil)).mono (by omega)
  | .right, d, _ => by rw [Rw.D]; exact (lay_tup (n := 1) (lay_cons ((lay_str words_lay.2.2.2.2.2.1).mono (by omega)) lay_nil)).mono (by omega)
  | .round, d, _ => by rw [Rw.D]; exact (lay_tup (n := 1) (lay_cons ((lay_str words_lay.2.2.2.2.2.2.1).mono (by omega)) lay_nil)).mono (by omega)
  | .mirror, d, _ => by rw [Rw.D]; exact (lay_tup (n := 1) (lay_cons ((lay_str words_lay.2.2.2.2.2.2.2.1).mono (by omega)) lay_nil)).mono (by omega)
  | .grow x, d, _ => by rw [Rw.D]; exact (lay_tup (n := 1) (lay_cons ((lay_str words_lay.2.2.2.2.2.2.2.2.1).mono (by omega)) (lay_cons (lay_fr x) lay_nil))).mono (by omega)
  | .quarter x, d, _ => by rw [Rw.D]; exact (lay_tup (n := 1) (lay_cons ((lay_str words_lay.2.2.2.2.2.2.2.2.2.1).mono (by omega)) (lay_cons (lay_fr x) lay_nil))).mono (by omega)
  | .half x, d, _ => by rw [Rw.D]; exact (lay_tup (n := 1) (lay_cons ((lay_str words_lay.2.2.2.2.2.2.2.2.2.2.1).mono (by omega)) (lay_cons (lay_fr x) lay_nil))).mono (by omega)
  | .arc c q, d, _ => by rw [Rw.D]; exact (lay_tup (n := 1) (lay_cons ((lay_str words_lay.2.2.2.2.2.2.2.2.2.2.2.1).mono (by omega)) (lay_cons (lay_fr _) (lay_cons (lay_fr _) (lay_cons (lay_fr _) (lay_cons (lay_fr _) lay_nil)))))).mono (by omega)
theorem lay_rows : ∀ (rs : List Rw) (d : Nat), deepL rs ≤ d → Lay (2 * d + 3) (.tuple (rowsD rs))
  | [], d, _ => by rw [rowsD]; exact lay_tup lay_nil
  | r :: rs, d, h => by
    rw [deepL] at h
    have h1 := lay_row r d (by omega)
    have h2 := lay_rows rs d (by omega)
    have e : ∀ x ∈ rowsD rs, Lay (2 * d + 2) x := by
      intro x hx
      rw [rowsD_map] at hx
      obtain ⟨a, ha, rfl⟩ := List.mem_map.mp hx
      exact lay_row a d (Nat.le_trans (deep_mem ha) (by omega))
    rw [rowsD]
    exact lay_tup (lay_cons h1 e)
end
theorem sizeR_iter {rs : List Rw} {g : Fr} {j : Nat} : ((moveA rs Fr.one).behind (iterF g j)).size = sizeR rs * (iterF g j).size := rfl
theorem iter_size (g : Fr) (j : Nat) : (iterF g (j + 1)).size = (iterF g j).size * g.size := rfl
theorem fb_sizeR {L lb N : Nat} {rs : List Rw} (hM : Mv L lb N) (hg : goodL L rs) (k : doneL rs ≤ N) : Fb (4 * N + 1) (sizeR rs) := by
  have h := sz_moveA rs hg 0 Fr.one (sz_one L)
  rw [Nat.zero_add] at h
  exact fb_size hM h k
/-- the second number of a block's row is not 0 -/
def Rw.second : Rw → PyData
  | .again n _ => .int (n : Int)
  | .keep rs => .tuple (rowsD rs)
  | .ever rs => .tuple (rowsD rs)
  | _ => .none
def Rw.sec0 : Rw → Bool
  | .again n _ => decide (n = 0)
  | _ => false
theorem sec_it {r : Rw} (h : r.plain = false) : itD r.D 1 = some r.second := by cases r <;> first | rfl | cases h
theorem sec_sh {r : Rw} {d : Nat} (h : r.plain = false) (k : r.deep ≤ d) (h8 : d ≤ 8) : SeqAt.shaped r.second = true := by
  cases r <;> first | (cases h; done) | skip
  · rfl
  · rw [Rw.deep] at k
    exact (lay_rows _ d (by omega)).sh (by omega)
  · rw [Rw.deep] at k
    exact (lay_rows _ d (by omega)).sh (by omega)
theorem sec_eqv {r : Rw} (h : r.plain = false) : PyData.eqv r.second (.int 0) = r.sec0 := by
  cases r <;> first | (cases h; done) | skip
  · rename_i n rs
    show PyData.eqv (.int (n : Int)) (.int 0) = decide (n = 0)
    rw [eqv_int]
    exact decide_eq_decide.mpr (by omega)
  · rfl
  · rfl
theorem draws_blk {r : Rw} (h : r.plain = false) : r.draws = (!r.sec0 && drawsL r.inner) := by
  cases r <;> first | (cases h; done) | rfl
theorem atI_last {α : Type} {xs : List α} {x : α} : atI (xs ++ [x]) (-1) = some x := by
  unfold atI
  have : ixN (xs ++ [x]).length (-1) = some xs.length := by
    unfold ixN
    rw [List.length_append, List.length_singleton]
    simp
    omega
  rw [this]
  simp
theorem atI_zero {α : Type} {xs : List α} {x : α} : atI (x :: xs) 0 = some x := by
  unfold atI
  have : ixN (x :: xs).length 0 = some 0 := by
    unfold ixN
    simp
  rw [this]
  rfl
/-- rows that may be looked at -/
structure Pk (L lb N : Nat) (rs : List Rw) : Prop where
  g : goodL L rs
  a : alldL N rs
  n : doneL rs ≤ N
  d : deepL rs ≤ 8
  z : sizeL rs ≤ 1000
  m : Mv L lb N
theorem Pk.p {L lb N : Nat} {rs : List Rw} (h : Pk L lb N rs) : Prg L 8 rs := ⟨h.g, h.d, h.z⟩
/-- the open blocks' measures: cells, bits -/
inductive FmsOk : List Fm → Nat → Nat → Prop where
  | one {f : Fm} {c lb : Nat} (h : Mz c lb 4 f.rs) : FmsOk [f] c lb
  | snoc {fs : List Fm} {C LB c lb : Nat} {f : Fm} (h : FmsOk fs C LB) (k : Mz c lb (4 - fs.length) f.rs) (hn : f.n ≤ 12) (hb : f.b ≠ .no) : FmsOk (fs ++ [f]) (C + c) (LB + lb)
/-- a program that a law builds -/
structure Built (rs : List Rw) : Prop where
  ex : ∃ c lb : Nat, Mz c lb 4 rs ∧ c ≤ 40 ∧ lb ≤ 1440
  dn : doneL rs ≤ 300
theorem lim300 {L : Nat} (h0 : 0 < L) (h : L ≤ 2 ^ 1440) : Lim 1080 2600 L 300 := by
  refine ⟨h0, by decide, by decide, by decide +kernel, ?_⟩
  have h1 : (300 + 1) * 12 ^ 300 * L * 2 ^ 41 ≤ (300 + 1) * 12 ^ 300 * 2 ^ 1440 * 2 ^ 41 := Nat.mul_le_mul_right _ (Nat.mul_le_mul_left _ h)
  have h2 : (300 + 1) * 12 ^ 300 * 2 ^ 1440 * 2 ^ 41 < 2 ^ 2600 := by decide +kernel
  exact Nat.lt_of_le_of_lt h1 h2
theorem built_run {rs : List Rw} (h : Built rs) : ∃ L lb N : Nat, Prg L 8 rs ∧ RunOk L 300 lb N 8 rs ∧ doneL rs ≤ N := by
  obtain ⟨⟨c, lb, ⟨⟨L, N0, h0, h1, h2, h3, h4⟩, hlb, hdn, hd4, hdp, hsz⟩, hc, hl⟩, hd⟩ := h
  have hn : 4 * max N0 (doneL rs) + lb ≤ 80 * c := by
    rcases Nat.le_total N0 (doneL rs) with z | z
    · rw [Nat.max_eq_right z]; omega
    · rw [Nat.max_eq_left z]; omega
  exact ⟨L, lb, max N0 (doneL rs), ⟨h2, by omega, by omega⟩, ⟨h2, by omega, lim300 h0 (Nat.le_trans h1 (p2_le hl)), ⟨h0, h1, by omega, by omega⟩, alldL_mono (Nat.le_max_left _ _) rs h3⟩, Nat.le_max_right _ _⟩
mutual
def Rw.opn : Rw → Nat
  | .again n rs => n * opnL rs
  | .keep rs => 1 + opnL rs
  | .ever rs => 1 + opnL rs
  | _ => 1
def opnL : List Rw → Nat
  | [] => 0
  | r :: rs => r.opn + opnL rs
end
mutual
def Rw.opens : Rw → List Rw
  | .again n rs => (List.replicate n (openL rs)).flatten
  | .keep rs => [.keep (openL rs)]
  | .ever rs => [.ever (openL rs)]
  | .go x => [.go x]
  | .skip x => [.skip x]
  | .side x y => [.side x y]
  | .dot => [.dot]
  | .left => [.left]
  | .right => [.right]
  | .round => [.round]
  | .mirror => [.mirror]
  | .grow x => [.grow x]
  | .quarter x => [.quarter x]
  | .half x => [.half x]
  | .arc c q => [.arc c q]
def openL : List Rw → List Rw
  | [] => []
  | r :: rs => r.opens ++ openL rs
end
mutual
def Rw.kp : Rw → Nat
  | .again n rs => n * kpL rs
  | .keep rs => 1 + kpL rs
  | .ever rs => 1 + kpL rs
  | _ => 0
def kpL : List Rw → Nat
  | [] => 0
  | r :: rs => r.kp + kpL rs
end
mutual
theorem opn_kp : ∀ r : Rw, r.opn = r.done + r.kp ∧ r.acts ≤ r.opn
  | .again n rs => by
    obtain ⟨h1, h2⟩ := opnL_kp rs
    rw [Rw.opn, Rw.done, Rw.kp, Rw.acts, h1, Nat.mul_add]
    refine ⟨rfl, ?_⟩
    rw [← Nat.mul_add, ← h1]
    exact Nat.mul_le_mul_left _ h2
  | .keep rs => by
    obtain ⟨h1, h2⟩ := opnL_kp rs
    rw [Rw.opn, Rw.done, Rw.kp, Rw.acts]
    omega
  | .ever rs => by
    obtain ⟨h1, h2⟩ := opnL_kp rs
    rw [Rw.opn, Rw.done, Rw.kp, Rw.acts]
    omega
  | .go x => ⟨rfl, Nat.le_refl _⟩
  | .skip x => ⟨rfl, Nat.le_refl _⟩
  | .side x y => ⟨rfl, Nat.le_refl _⟩
  | .dot => ⟨rfl, Nat.le_refl _⟩
  | .left => ⟨rfl, Nat.le_refl _⟩
  | .right => ⟨rfl, Nat.le_refl _⟩
  | .round => ⟨rfl, Nat.le_refl _⟩
  | .mirror => ⟨rfl, Nat.le_refl _⟩
  | .grow x => ⟨rfl, Nat.le_refl _⟩
  | .quarter x => ⟨rfl, Nat.le_refl _⟩
  | .half x => ⟨rfl, Nat.le_refl _⟩
  | .arc c q => ⟨rfl, Nat.le_refl _⟩
theorem opnL_kp : ∀ rs : List Rw, opnL rs = doneL rs + kpL rs ∧ actsL rs ≤ opnL rs
  | [] => ⟨rfl, Nat.le_refl _⟩
  | r :: rs => by
    obtain ⟨h1, h2⟩ := opn_kp r
    obtain ⟨k1, k2⟩ := opnL_kp rs
    rw [opnL, doneL, kpL, actsL]
    omega
end
theorem kpL_flat : ∀ rs : List Rw, deepL rs = 0 → kpL rs = 0
  | [], _ => rfl
  | r :: rs, h => by
    rw [deepL] at h
    have h1 := kpL_flat rs (by omega)
    have h2 : r.deep = 0 := by omega
    have h3 : r.kp = 0 := by
      cases r <;> first | rfl | (rw [Rw.deep] at h2; omega)
    rw [kpL, h1, h3]
mutual
theorem kp_le {L : Nat} : ∀ (r : Rw) (d : Nat), r.good L → r.deep ≤ d + 1 → r.kp ≤ r.size * 12 ^ d
  | .again n rs, d, h, k => by
    rw [Rw.good] at h
    rw [Rw.deep] at k
    rw [Rw.kp, Rw.size]
    cases d with
    | zero => rw [kpL_flat rs (by omega), Nat.mul_zero]; exact Nat.zero_le _
    | succ e =>
      have h1 := kpL_le rs e h.2 (by omega)
      have h2 : n * kpL rs ≤ 12 * (sizeL rs * 12 ^ e) := Nat.mul_le_mul h.1 h1
      have h3 : 12 * (sizeL rs * 12 ^ e) = sizeL rs * (12 ^ e * 12) := by grind
      rw [Nat.pow_succ]
      have h4 : (1 + sizeL rs) * (12 ^ e * 12) = 12 ^ e * 12 + sizeL rs * (12 ^ e * 12) := by rw [Nat.add_mul, Nat.one_mul]
      omega
  | .keep rs, d, h, k => by
    rw [Rw.good] at h
    rw [Rw.deep] at k
    have h2 : 1 ≤ 12 ^ d := Nat.pow_pos (by decide)
    have h1 := kpL_le rs d h (by omega)
    rw [Rw.kp, Rw.size, Nat.add_mul]
    omega
  | .ever rs, d, h, k => by
    rw [Rw.good] at h
    rw [Rw.deep] at k
    have h2 : 1 ≤ 12 ^ d := Nat.pow_pos (by decide)
    have h1 := kpL_le rs d h (by omega)
    rw [Rw.kp, Rw.size, Nat.add_mul]
    omega
  | .go x, d, _, _ => Nat.zero_le _
  | .skip x, d, _, _ => Nat.zero_le _
  | .side x y, d, _, _ => Nat.zero_le _
  | .dot, d, _, _ => Nat.zero_le _
  | .left, d, _, _ => Nat.zero_le _
  | .right, d, _, _ => Nat.zero_le _
  | .round, d, _, _ => Nat.zero_le _
  | .mirror, d, _, _ => Nat.zero_le _
  | .grow x, d, _, _ => Nat.zero_le _
  | .quarter x, d, _, _ => Nat.zero_le _
  | .half x, d, _, _ => Nat.zero_le _
  | .arc c q, d, _, _ => Nat.zero_le _
theorem kpL_le {L : Nat} : ∀ (rs : List Rw) (d : Nat), goodL L rs → deepL rs ≤ d + 1 → kpL rs ≤ sizeL rs * 12 ^ d
  | [], d, _, _ => Nat.zero_le _
  | r :: rs, d, h, k => by
    rw [goodL] at h
    rw [deepL] at k
    have h1 := kp_le r d h.1 (by omega)
    have h2 := kpL_le rs d h.2 (by omega)
    rw [kpL, sizeL, Nat.add_mul]
    omega
end
theorem mz_drop {c lb d : Nat} {rs : List Rw} (h : Mz c lb d rs) (i : Nat) : Mz c lb d (rs.drop i) := by
  obtain ⟨⟨L, N, h0, h1, h2, h3, h4⟩, hlb, hdn, hd4, hdp, hsz⟩ := h
  have e : rs = rs.take i ++ rs.drop i := (List.take_append_drop _ _).symm
  have e1 : doneL rs = doneL (rs.take i) + doneL (rs.drop i) := by rw [← doneL_app, ← e]
  have e2 : deepL rs = max (deepL (rs.take i)) (deepL (rs.drop i)) := by rw [← deepL_app, ← e]
  have e3 : sizeL rs = sizeL (rs.take i) + sizeL (rs.drop i) := by rw [← sizeL_app, ← e]
  refine ⟨⟨L, N, h0, h1, good_all fun r hr => good_mem h2 (List.mem_of_mem_drop hr), alld_all fun r hr => alld_mem h3 (List.mem_of_mem_drop hr), h4⟩, hlb, by omega, by omega, by omega, by omega⟩
/-- rows to be opened -/
structure Op (d : Nat) (rs : List Rw) : Prop where
  ex : ∃ L : Nat, Prg L d rs
  n : opnL rs ≤ 90000
  z : sizeL rs * 12 ^ (d - 1) ≤ 90000
theorem rowsD_app (as bs : List Rw) : rowsD as ++ rowsD bs = rowsD (as ++ bs) := by rw [rowsD_map, rowsD_map, rowsD_map, List.map_append]
/-- all that is asked of rows that are opened and drawn -/
structure Od (rs : List Rw) : Prop where
  op : Op 4 rs
  dr : ∃ L lb N, Prg L 8 rs ∧ RunOk L 300 lb N 8 rs
  dn : doneL rs ≤ 300
theorem od_of {c lb : Nat} {rs : List Rw} (h : Mz c lb 4 rs) (hc : c ≤ 18) (hl : lb ≤ 1440) (hd : doneL rs ≤ 300) : Od rs := by
  obtain ⟨L, lb', N, hP, hO, _⟩ := built_run ⟨⟨c, lb, h, by omega, hl⟩, hd⟩
  have hs := h.sz
  have hk := kpL_le rs 3 hP.g h.dp
  have hk2 : sizeL rs * 12 ^ 3 ≤ 36 * 12 ^ 3 := Nat.mul_le_mul_right _ (by omega)
  have hn := (opnL_kp rs).1
  have e : (36 : Nat) * 12 ^ 3 = 62208 := by decide
  refine ⟨⟨⟨L, hP.g, h.dp, hP.z⟩, by omega, ?_⟩, ⟨L, lb', N, hP, hO⟩, hd⟩
  show sizeL rs * 12 ^ 3 ≤ 90000
  omega
mutual
def Rw.evo : Rw → Prop
  | .again _ rs => evoL rs
  | .keep rs => evoL rs
  | .ever rs => 1 ≤ doneL rs ∧ evoL rs
  | _ => True
def evoL : List Rw → Prop
  | [] => True
  | r :: rs => r.evo ∧ evoL rs
end
theorem evoL_nil : evoL [] := by rw [evoL]; trivial
theorem evoL_app : ∀ {as bs : List Rw}, evoL as → evoL bs → evoL (as ++ bs)
  | [], _, _, h => h
  | a :: as, bs, h, k => by rw [evoL] at h; rw [List.cons_append, evoL]; exact ⟨h.1, evoL_app h.2 k⟩
theorem evoL_one {r : Rw} (h : r.evo) : evoL [r] := by rw [evoL, evoL]; exact ⟨h, trivial⟩
theorem evo_plain {r : Rw} (h : r.plain = true) : r.evo := by cases r <;> first | trivial | cases h
mutual
theorem evo_acts : ∀ r : Rw, r.evo → r.acts ≤ (1 + r.deep) * r.done
  | .again n rs, h => by
    rw [Rw.evo] at h
    have i := evoL_acts rs h
    rw [Rw.acts, Rw.deep, Rw.done]
    have h2 : n * actsL rs ≤ n * ((1 + deepL rs) * doneL rs) := Nat.mul_le_mul_left _ i
    have h3 : n * ((1 + deepL rs) * doneL rs) = (1 + deepL rs) * (n * doneL rs) := by rw [Nat.mul_left_comm]
    have h4 : (1 + deepL rs) * (n * doneL rs) ≤ (1 + (1 + deepL rs)) * (n * doneL rs) := Nat.mul_le_mul_right _ (by omega)
    omega
  | .keep rs, h => by
    rw [Rw.evo] at h
    have i := evoL_acts rs h
    rw [Rw.acts, Rw.deep, Rw.done]
    have h4 : (1 + deepL rs) * doneL rs ≤ (1 + (1 + deepL rs)) * doneL rs := Nat.mul_le_mul_right _ (by omega)
    omega
  | .ever rs, h => by
    rw [Rw.evo] at h
    have i := evoL_acts rs h.2
    rw [Rw.acts, Rw.deep, Rw.done]
    have h4 : (1 + (1 + deepL rs)) * doneL rs = doneL rs + (1 + deepL rs) * doneL rs := by rw [Nat.add_mul, Nat.one_mul]
    omega
  | .go x, _ => Nat.le_refl _
  | .skip x, _ => Nat.le_refl _
  | .side x y, _ => Nat.le_refl _
  | .dot, _ => Nat.le_refl _
  | .left, _ => Nat.le_refl _
  | .right, _ => Nat.le_refl _
  | .round, _ => Nat.le_refl _
  | .mirror, _ => Nat.le_refl _
  | .grow x, _ => Nat.le_refl _
  | .quarter x, _ => Nat.le_refl _
  | .half x, _ => Nat.le_refl _
  | .arc c q, _ => Nat.le_refl _
theorem evoL_acts : ∀ rs : List Rw, evoL rs → actsL rs ≤ (1 + deepL rs) * doneL rs
  | [], _ => Nat.zero_le _
  | r :: rs, h => by
    rw [evoL] at h
    have h1 := evo_acts r h.1
    have h2 := evoL_acts rs h.2
    rw [actsL, deepL, doneL, Nat.mul_add]
    have h3 : (1 + r.deep) * r.done ≤ (1 + max r.deep (deepL rs)) * r.done := Nat.mul_le_mul_right _ (by omega)
    have h4 : (1 + deepL rs) * doneL rs ≤ (1 + max r.deep (deepL rs)) * doneL rs := Nat.mul_le_mul_right _ (by omega)
    omega
end
/-- a program built of so many cells -/
structure BuiltN (n : Nat) (rs : List Rw) : Prop where
  ex : ∃ c lb : Nat, Mz c lb 4 rs ∧ c ≤ n + 4 ∧ lb ≤ 40 * n
  dn : doneL rs ≤ 300
  ev : evoL rs
theorem BuiltN.b {n : Nat} {rs : List Rw} (h : BuiltN n rs) (k : n ≤ 36) : Built rs := by
  obtain ⟨⟨c, lb, h1, h2, h3⟩, hd, _⟩ := h
  exact ⟨⟨c, lb, h1, by omega, by omega⟩, hd⟩
theorem BuiltN.acts {n : Nat} {rs : List Rw} (h : BuiltN n rs) : actsL rs ≤ 1500 := by
  obtain ⟨⟨c, lb, h1, h2, h3⟩, hd, he⟩ := h
  have h4 := evoL_acts rs he
  have h5 := h1.dp
  have h6 : (1 + deepL rs) * doneL rs ≤ 5 * 300 := Nat.mul_le_mul (by omega) hd
  omega
theorem BuiltN.od {n : Nat} {rs : List Rw} (h : BuiltN n rs) (k : n ≤ 14) (i : Nat) : Od (rs.drop i) := by
  obtain ⟨⟨c, lb, h1, h2, h3⟩, hd, _⟩ := h
  have e : rs = rs.take i ++ rs.drop i := (List.take_append_drop _ _).symm
  have e1 : doneL rs = doneL (rs.take i) + doneL (rs.drop i) := by rw [← doneL_app, ← e]
  exact od_of (mz_drop h1 i) (by omega) (by omega) (by omega)


structure VwG (M : MM) (s : S) (d : PyData) : Prop where
  ok : ∀ {K : PySem.W.Frag} {F H : Hp} {v : V}, HM K F M H → SR K F v s → Dp K H v d
theorem Vw.g {M : MM} {s : S} {d : PyData} (h : Vw M s d) : VwG M s d := ⟨fun hm r => h.ok hm r⟩
section
variable {Y : Ct} {γ γ' : List S} {M M1 M2 M3 : MM} {s s1 s2 : S} {e a b o : Expr} {es : List Expr} {pos p : Pos} {Q : S → MM → Prop} {b1 : Bool} {sts : List Stmt} {P : Po}
end
abbrev Ql := List (Addr × List PyData)
def Ql.D (qs : Ql) : PyData := .list (qs.map fun q => .list q.2)
def Ql.obs (qs : Ql) : List S := qs.map fun q => S.ob q.1
/-- where they lie -/
structure LL (M : MM) (fo : Addr) (qs : Ql) : Prop where
  o : ∃ k : Nat, M[k]? = some (fo, .lst qs.obs)
  i : ∀ q ∈ qs, ∃ k : Nat, M[k]? = some (q.1, .lst (q.2.map S.d))
theorem ll_pairs {K : PySem.W.Frag} {F H : Hp} {M : MM} (hm : HM K F M H) : ∀ {qs : Ql} {vs : List V}, (∀ q ∈ qs, ∃ k : Nat, M[k]? = some (q.1, .lst (q.2.map S.d))) → Paired (SR K F) vs (Ql.obs qs) → DpAll K H vs (qs.map fun q => .list q.2)
  | [], _, _, h => by cases h; exact .nil
  | q :: qs, _, hi, h => by
    cases h with
    | cons r t =>
      obtain ⟨k, hk⟩ := hi q List.mem_cons_self
      obtain ⟨_, ws, g1, g2⟩ := hm.mo _ _ (List.mem_of_getElem? hk)
      cases r
      exact .cons (.lst (.of g1) (dps_mono hm.fh _ _ (all_d g2))) (ll_pairs hm (fun q' hq' => hi q' (List.mem_cons_of_mem _ hq')) t)
theorem LL.v {M : MM} {fo : Addr} {qs : Ql} (h : LL M fo qs) : VwG M (.ob fo) qs.D := ⟨fun {K F H v} hm r => by
  obtain ⟨k, hk⟩ := h.o
  obtain ⟨_, vs, h1, h2⟩ := hm.mo _ _ (List.mem_of_getElem? hk)
  cases r
  exact .lst (.of h1) (ll_pairs hm h.i h2)⟩
def llM (fo : Addr) (qs : Ql) : MM := (fo, .lst qs.obs) :: qs.map fun q => (q.1, .lst (q.2.map S.d))
theorem llM_last {B : MM} {fo q : Addr} {qs : Ql} {ds : List PyData} : (B ++ llM fo (qs ++ [(q, ds)]))[B.length + (qs.length + 1)]? = some (q, .lst (ds.map S.d)) := by
  rw [List.getElem?_append_right (by omega), show B.length + (qs.length + 1) - B.length = qs.length + 1 by omega]
  show ((qs ++ [(q, ds)]).map fun q => (q.1, MO.lst (q.2.map S.d)))[qs.length]? = _
  simp
theorem llM_set {B : MM} {fo q : Addr} {qs : Ql} {ds es : List PyData} : (B ++ llM fo (qs ++ [(q, ds)])).set (B.length + (qs.length + 1)) (q, .lst (es.map S.d)) = B ++ llM fo (qs ++ [(q, es)]) := by
  rw [List.set_append_right _ _ (by omega), show B.length + (qs.length + 1) - B.length = qs.length + 1 by omega]
  simp [llM, Ql.obs]
inductive Lg where
  | st (p q : Pt)
  | bend (c p q : Pt) (w : Int)
def Lg.D : Lg → PyData
  | .st p q => .tuple [.str "straight", pt p, pt q]
  | .bend c p q w => .tuple [.str "bend", pt c, pt p, pt q, .int w]
def Lg.word : Lg → Str
  | .st _ _ => "straight"
  | .bend _ _ _ _ => "bend"
def Lg.a : Lg → Pt
  | .st p _ => p
  | .bend _ p _ _ => p
def Lg.b : Lg → Pt
  | .st _ q => q
  | .bend _ _ q _ => q
def Lg.led (f : Fr) : Lg → Lg
  | .st p q => .st (f.led p) (f.led q)
  | .bend c p q w => .bend (f.led c) (f.led p) (f.led q) (w * f.hand)
def Lg.pb (k : Nat) : Lg → Prop
  | .st p q => Pb k p ∧ Pb k q
  | .bend c p q w => Pb k c ∧ Pb k p ∧ Pb k q ∧ (w = 1 ∨ w = -1)
def sgnW (x : Rat) : Int := if x.num < 0 then -1 else 1
def stOr (q : Pt) : Option Lg := if q = ⟨0, 0⟩ then none else some (.st ⟨0, 0⟩ q)
def Rw.leg : Rw → Option Lg
  | .go x => stOr ⟨x, 0⟩
  | .side x y => stOr ⟨x, y⟩
  | .quarter x => some (.bend ⟨0, x⟩ ⟨0, 0⟩ ⟨absR x, x⟩ (sgnW x))
  | .half x => some (.bend ⟨0, x⟩ ⟨0, 0⟩ ⟨0, x + x⟩ (sgnW x))
  | .arc c q => some (.bend c ⟨0, 0⟩ q 1)
  | _ => none
def Rw.legR (r : Rw) (f : Fr) : List Lg := match r.leg with
  | none => []
  | some l => [l.led f]
def loopG (F : Fr → List Lg × Fr) (f : Fr) : Nat → List Lg × Fr
  | 0 => ([], f)
  | n + 1 => ((loopG F f n).1 ++ (F (loopG F f n).2).1, (F (loopG F f n).2).2)
mutual
def Rw.legs : Rw → Fr → List Lg × Fr
  | .again n rs, f => loopG (legsL rs) f n
  | .keep rs, f => ((legsL rs f).1, f)
  | .ever _, f => ([], f)
  | .go x, f => ((Rw.go x).legR f, f.behind (Rw.go x).mv)
  | .skip x, f => ((Rw.skip x).legR f, f.behind (Rw.skip x).mv)
  | .side x y, f => ((Rw.side x y).legR f, f.behind (Rw.side x y).mv)
  | .dot, f => (Rw.dot.legR f, f.behind Rw.dot.mv)
  | .left, f => (Rw.left.legR f, f.behind Rw.left.mv)
  | .right, f => (Rw.right.legR f, f.behind Rw.right.mv)
  | .round, f => (Rw.round.legR f, f.behind Rw.round.mv)
  | .mirror, f => (Rw.mirror.legR f, f.behind Rw.mirror.mv)
  | .grow x, f => ((Rw.grow x).legR f, f.behind (Rw.grow x).mv)
  | .quarter x, f => ((Rw.quarter x).legR f, f.behind (Rw.quarter x).mv)
  | .half x, f => ((Rw.half x).legR f, f.behind (Rw.half x).mv)
  | .arc c q, f => ((Rw.arc c q).legR f, f.behind (Rw.arc c q).mv)
def legsL : List Rw → Fr → List Lg × Fr
  | [], f => ([], f)
  | r :: rs, f => ((r.legs f).1 ++ (legsL rs (r.legs f).2).1, (legsL rs (r.legs f).2).2)
end
mutual
def Rw.unit : Rw → Prop
  | .go x => x = 1
  | .dot => True
  | .left => True
  | .right => True
  | .round => True
  | .mirror => True
  | .again _ rs => unitL rs
  | .keep rs => unitL rs
  | .ever rs => unitL rs
  | _ => False
def unitL : List Rw → Prop
  | [] => True
  | r :: rs => r.unit ∧ unitL rs
end
structure Un (n : Nat) (f : Fr) : Prop where
  ok : f.ok
  sz : f.size = 1
  ex : ∃ X Y : Int, f.place.x * 1 = (X : Rat) ∧ f.place.y * 1 = (Y : Rat) ∧ X.natAbs ≤ n ∧ Y.natAbs ≤ n
structure RunU (L N lb N2 d : Nat) (rs : List Rw) : Prop where
  g : goodL L rs
  d : deepL rs ≤ d
  l1 : Lim 1080 2600 L N
  u : unitL rs
  z : sizeL rs ≤ 1000
theorem RunU.p {L N lb N2 d : Nat} {rs : List Rw} (h : RunU L N lb N2 d rs) : Prg L d rs := ⟨h.g, h.d, h.z⟩
mutual
def Rw.ne : Rw → Prop
  | .again _ rs => neL rs
  | .keep rs => neL rs
  | .ever _ => False
  | _ => True
def neL : List Rw → Prop
  | [] => True
  | r :: rs => r.ne ∧ neL rs
end
mutual
def Rw.ei : Rw → Prop
  | .again _ rs => eiL rs
  | .keep rs => eiL rs
  | .ever rs => neL rs
  | _ => True
def eiL : List Rw → Prop
  | [] => True
  | r :: rs => r.ei ∧ eiL rs
end

structure U7 (k : Nat) (e : Bool) (rs : List Rw) : Prop where
  u : unitL rs
  g : goodL 1 rs
  d : deepL rs ≤ k
  z : sizeL rs ≤ 9 + 6 * k
  v : evoL rs
  n : 1 ≤ doneL rs
  ne : e = false → neL rs
  ei : eiL rs
theorem U7.p {k : Nat} {e : Bool} {rs : List Rw} (h : U7 k e rs) (hk : k ≤ 5) : Prg 1 8 rs := by
  have h1 := h.d
  have h2 := h.z
  exact ⟨h.g, by omega, by omega⟩
/-- filled up -/
structure Fd7 (rs : List Rw) : Prop where
  u : unitL rs
  p : Prg 1 8 rs
  v : evoL rs
  ei : eiL rs
theorem Fd7.run {rs : List Rw} (h : Fd7 rs) : RunU 1 300 0 0 8 rs := ⟨h.p.g, h.p.d, lim300 (by decide) (by decide +kernel), h.u, h.p.z⟩
theorem Fd7.acts {rs : List Rw} (h : Fd7 rs) (hd : doneL rs ≤ 300) : actsL rs ≤ 90000 := by
  have h1 := evoL_acts rs h.v
  have h2 := h.p.d
  have h3 : (1 + deepL rs) * doneL rs ≤ 9 * 300 := Nat.mul_le_mul (by omega) hd
  omega
theorem pt_inj {p q : Pt} (h : pt p = pt q) : p = q := by
  have e : PyData.eqv (pt p) (pt q) = true := by rw [h]; exact (lay_pt q).rfl
  exact of_decide_eq_true ((pt_eqv p q).symm.trans e)
structure CuQ (A B : Pt) (ts : List Rat) (n : Nat) : Prop where
  so : ts.Pairwise (· < ·)
  hd : ∃ l, ts = 0 :: l
  la : ts.getLast? = some 1
  rg : ∀ t ∈ ts, 0 ≤ t ∧ t ≤ 1 ∧ Pb 200 (A.mix B t)
  ln : ts.length ≤ n + 2
def lnD (a b d : Int) : PyData := .tuple [.str "line", .int a, .int b, .int d]
/-- the divisor of three, with the sign that makes the first one above 0, or the second -/
def lnG (a b d : Int) : Int := if a < 0 ∨ (a = 0 ∧ b < 0) then -(Int.gcd (Int.gcd a b) d : Int) else (Int.gcd (Int.gcd a b) d : Int)
def lnN (a b d : Int) : Int × Int × Int := (a.fdiv (lnG a b d), b.fdiv (lnG a b d), d.fdiv (lnG a b d))
def lnA (w : Pt) (h : Rat) : Int := w.y.num * ((w.x.den : Int) * h.den)
def lnB (w : Pt) (h : Rat) : Int := 0 - w.x.num * ((w.y.den : Int) * h.den)
def lnC (w : Pt) (h : Rat) : Int := 0 - h.num * ((w.x.den : Int) * w.y.den)
def lineW (w : Pt) (h : Rat) : PyData := lnD (lnN (lnA w h) (lnB w h) (lnC w h)).1 (lnN (lnA w h) (lnB w h) (lnC w h)).2.1 (lnN (lnA w h) (lnB w h) (lnC w h)).2.2
def lineD (p q : Pt) : PyData := lineW (q.sub p) ((q.sub p).across p)
theorem vl_true {α : Type} {M : MM} {l : List α} : VL M (.d (.list (l.map fun _ => PyData.bool true))) ((l.map fun _ => true).map fun b => S.d (.bool b)) := by
  have h := VL.d (M := M) (xs := l.map fun _ => PyData.bool true)
  rw [List.map_map] at h ⊢
  exact h
theorem all_true {α : Type} (l : List α) : (l.map fun _ => true).all id = true := by simp
def circD (c : Pt) (r : Rat) : PyData := .tuple [.str "circle", pt c, fr r]
def carD : Pc → PyData
  | .dot _ => .none
  | .st p q => lineD p q
  | .arc c p _ => circD c (c.far p)
  | .ring c p => circD c (c.far p)
def Pc.isDot : Pc → Bool
  | .dot _ => true
  | _ => false
def samK : Option Pt → Pc → Prop
  | none, .st _ _ => True
  | some c, .arc c' _ _ => c' = c
  | some c, .ring c' _ => c' = c
  | _, _ => False
structure Jk (k : Option Pt) (z : Pc) : Prop where
  s : samK k z
  b : z.pc 300 300
def Pc.two : Pc → Pt
  | .dot p => p
  | .st _ q => q
  | .arc _ p _ => p
  | .ring _ p => p
def cov (L : List (Int × Int)) (x : Int) : Prop := ∃ s ∈ L, 2 * s.1 ≤ x ∧ x ≤ 2 * s.2
structure MOk (b : Int) (acc : List (Int × Int)) : Prop where
  p : acc.Pairwise fun s t => s.2 < t.1
  v : ∀ s ∈ acc, s.1 ≤ s.2 ∧ s.1 ≤ b
def inS (s : Int × Int) (x : Int) : Prop := 2 * s.1 ≤ x ∧ x ≤ 2 * s.2
instance (s : Int × Int) (x : Int) : Decidable (inS s x) := by unfold inS; infer_instance
instance (L : List (Int × Int)) (x : Int) : Decidable (cov L x) := by unfold cov; infer_instance
structure Rk (c a : Pt) (l : List Pt) (r : Pt → Int) : Prop where
  on : ∀ p ∈ l, OnC c a p
  lt : ∀ p ∈ l, ∀ q ∈ l, (ltK c a p q = true ↔ r p < r q)
  eq : ∀ p ∈ l, ∀ q ∈ l, (p = q ↔ r p = r q)
theorem chord_alg {ux uy wx wy px py : Rat} (hu : ux ≠ 0 ∨ uy ≠ 0) (h1 : 2 * (px * ux + py * uy) + ux * ux + uy * uy = 0) (h2 : 2 * (px * wx + py * wy) + wx * wx + wy * wy = 0) (hz : ux * wy - uy * wx = 0) : (wx = 0 ∧ wy = 0) ∨ (wx = ux ∧ wy = uy) := by
  obtain ⟨s, e1, e2⟩ : ∃ s : Rat, wx = s * ux ∧ wy = s * uy := by
    rcases hu with hu | hu
    · exact ⟨wx / ux, by grind, by grind⟩
    · exact ⟨wy / uy, by grind, by grind⟩
  subst e1 e2
  have hn : ux * ux + uy * uy ≠ 0 := fun e => by
    obtain ⟨a, b⟩ := sum_sq e
    rcases hu with hu | hu
    · exact hu a
    · exact hu b
  have h3 : (s * (s - 1)) * (ux * ux + uy * uy) = 0 := by grind
  rcases Rat.mul_eq_zero.mp h3 with h4 | h4
  · rcases Rat.mul_eq_zero.mp h4 with h5 | h5
    · left; subst h5; exact ⟨Rat.zero_mul _, Rat.zero_mul _⟩
    · right
      have : s = 1 := by grind
      subst this
      exact ⟨Rat.one_mul _, Rat.one_mul _⟩
  · exact absurd h4 hn
theorem chord_two {c a p q x : Pt} (hp : OnC c a p) (hq : OnC c a q) (hx : OnC c a x) (hpq : p ≠ q) (hz : (q.sub p).across (x.sub p) = 0) : x = p ∨ x = q := by
  have h1 : (q.sub c).along (q.sub c) = (p.sub c).along (p.sub c) := by rw [hq, hp]
  have h2 : (x.sub c).along (x.sub c) = (p.sub c).along (p.sub c) := by rw [hx, hp]
  unfold Pt.along Pt.sub at h1 h2
  unfold Pt.across Pt.sub at hz
  simp only at h1 h2 hz
  rcases chord_alg (ux := q.x - p.x) (uy := q.y - p.y) (wx := x.x - p.x) (wy := x.y - p.y) (px := p.x - c.x) (py := p.y - c.y) (pt_ne hpq) (by grind) (by grind) hz with ⟨e1, e2⟩ | ⟨e1, e2⟩
  · left; apply pt_ext <;> grind
  · right; apply pt_ext <;> grind
section
variable {c a : Pt} (ha : a ≠ c) {l : List Pt} {r : Pt → Int} (h : Rk c a l r)
include ha
theorem arc_flip {p q x : Pt} (hp : OnC c a p) (hq : OnC c a q) (hx : OnC c a x) (hpq : p ≠ q) : (Pc.arc c q p).on x = true ↔ (Pc.arc c p q).on x = false ∨ x = p ∨ x = q := by
  have e : (p.sub q).across (x.sub q) = -((q.sub p).across (x.sub p)) := by unfold Pt.across Pt.sub; simp only; grind
  rw [on_arc (arc_okK ha hp hq hpq), on_arc (arc_okK ha hq hp hpq.symm), decide_eq_true (far_on.mpr (onC_trK ha hp hx)), decide_eq_true (far_on.mpr (onC_trK ha hq hx)), Bool.true_and, Bool.true_and, decide_eq_true_eq, decide_eq_false_iff_not, e]
  constructor
  · intro z
    by_cases y : (q.sub p).across (x.sub p) = 0
    · exact .inr (chord_two hp hq hx hpq y)
    · left; grind
  · rintro (z | rfl | rfl)
    · grind
    · unfold Pt.across Pt.sub; simp only; grind
    · unfold Pt.across Pt.sub; simp only; grind
include h
theorem Rk.arc {p q x : Pt} (hp : p ∈ l) (hq : q ∈ l) (hx : x ∈ l) (hpq : p ≠ q) : (Pc.arc c p q).on x = true ↔ (r p < r q ∧ r p ≤ r x ∧ r x ≤ r q) ∨ (r q < r p ∧ (r p ≤ r x ∨ r x ≤ r q)) := by
  have key : ∀ {p q}, p ∈ l → q ∈ l → r p < r q → ((Pc.arc c p q).on x = true ↔ r p ≤ r x ∧ r x ≤ r q) := fun {p q} hp hq hr => by
    rw [arc_btw ha (h.on p hp) (h.on q hq) (h.on x hx) ((h.lt p hp q hq).mpr hr), Bool.and_eq_true, Bool.not_eq_true', Bool.not_eq_true', ← Bool.not_eq_true, ← Bool.not_eq_true, h.lt x hx p hp, h.lt q hq x hx]
    omega
  have hne : r p ≠ r q := fun e => hpq ((h.eq p hp q hq).mpr e)
  by_cases hr : r p < r q
  · rw [key hp hq hr]
    omega
  · have hr2 : r q < r p := by omega
    rw [arc_flip ha (h.on q hq) (h.on p hp) (h.on x hx) hpq.symm, ← Bool.not_eq_true, key hq hp hr2, h.eq x hx q hq, h.eq x hx p hp]
    omega
theorem Rk.ahead {f p q : Pt} (hf : f ∈ l) (hp : p ∈ l) (hq : q ∈ l) : aheadB c f p q = true ↔ (r f < r q ∧ r f ≤ r p ∧ r p < r q) ∨ (r q < r f ∧ (r f ≤ r p ∨ r p < r q)) := by
  have hfc := onC_neK ha (h.on f hf)
  have ofp := onC_trK ha (h.on f hf) (h.on p hp)
  have ofq := onC_trK ha (h.on f hf) (h.on q hq)
  have e := ahead_place hfc ofp ofq
  have q1 := h.eq p hp q hq
  have q2 := h.eq f hf q hq
  have q3 := h.eq p hp f hf
  by_cases e1 : p = q
  · subst e1
    rw [e, earlier_irr]
    constructor
    · intro z; cases z
    · intro z; exfalso; omega
  · by_cases e2 : f = q
    · subst e2
      rw [e, placeP_self hfc, place_nn hfc ofp]
      constructor
      · intro z; cases z
      · intro z; exfalso; omega
    · by_cases e3 : p = f
      · subst e3
        have : ltK c p p q = true := ltK_a hfc ofq (Ne.symm e2)
        rw [e]
        unfold ltK at this
        rw [this]
        have n2 : ¬ r p = r q := fun z => e2 (q2.mpr z)
        constructor
        · intro _; omega
        · intro _; rfl
      · have hh := h.arc ha hf hq hp e2
        have hd : (Pc.arc c f q).on p = aheadB c f p q := by
          show (decide (c.far p = c.far f) && (decide (p = f) || decide (p = q) || aheadB c f p q)) = _
          rw [decide_eq_true (far_on.mpr ofp), decide_eq_false e3, decide_eq_false e1]
          rfl
        rw [hd] at hh
        rw [hh]
        have n1 : ¬ r p = r q := fun z => e1 (q1.mpr z)
        have n2 : ¬ r f = r q := fun z => e2 (q2.mpr z)
        omega
end
instance (c p x : Pt) : Decidable (OnC c p x) := by unfold OnC; infer_instance
theorem fr_inj {x y : Rat} (h : fr x = fr y) : x = y := by
  have e : PyData.eqv (fr x) (fr y) = true := by rw [h]; exact (lay_fr y).rfl
  exact of_decide_eq_true ((eqv_fr x y).symm.trans e)
structure GdK (K : PyData) (z : Pc) : Prop where
  ok : z.ok
  nd : z.isDot = false
  car : carD z = K
def stP : Pc → Option Pt
  | .st p _ => some p
  | .arc _ p _ => some p
  | _ => none
def enP : Pc → Option Pt
  | .st _ q => some q
  | .arc _ _ q => some q
  | _ => none
def isRing : Pc → Bool
  | .ring _ _ => true
  | _ => false
/-- no two have a point in common; a ring stands alone -/
def ApP (x y : Pc) : Prop := isRing x = false ∧ isRing y = false ∧ ∀ w, x.on w = true → y.on w = true → False
theorem ApP.symm {x y : Pc} (h : ApP x y) : ApP y x := ⟨h.2.1, h.1, fun w a b => h.2.2 w b a⟩
def onAny (zs : List Pc) (w : Pt) : Bool := zs.any fun z => z.on w
/-- where its ends come from -/
def FromP (zs : List Pc) (z : Pc) : Prop := isRing z = true ∨ ((∃ y ∈ zs, stP z = stP y) ∧ ∃ y ∈ zs, enP z = enP y)
theorem FromP.mono {zs ys : List Pc} {z : Pc} (h : FromP zs z) (k : ∀ y ∈ zs, y ∈ ys) : FromP ys z := h.imp_right fun ⟨⟨a, a1, a2⟩, b, b1, b2⟩ => ⟨⟨a, k a a1, a2⟩, b, k b b1, b2⟩
structure FndP (zs : List Pc) (y : Pc) : Prop where
  gd : GdK (carD y) y
  from' : ∃ gs : List Pc, (∀ z ∈ gs, z ∈ zs ∧ GdK (carD y) z) ∧ FromP gs y ∧ (isRing y = true → ∃ c z, z ∈ gs ∧ y = .ring c z.two)
def Pc.rd : Pc → Bool
  | .arc _ _ _ => true
  | .ring _ _ => true
  | _ => false
section
variable {K : PyData} {J1 J2 : List Pc} (g1 : ∀ y ∈ J1, GdK K y) (g2 : ∀ y ∈ J2, GdK K y) (p1 : J1.Pairwise ApP) (p2 : J2.Pairwise ApP) (hc : ∀ w, onAny J1 w = onAny J2 w)
include g1 g2 p2 hc
include p1
end
structure StP (c a : Pt) (sf : Nat → Pt) (n : Nat) : Prop where
  n0 : 0 < n
  on : ∀ i < n, OnC c a (sf i)
  lt : ∀ i < n, ∀ j < n, (ltK c a (sf i) (sf j) = true ↔ i < j)
  zero : sf 0 = a
section
variable {c a : Pt} (ha : a ≠ c) {sf : Nat → Pt} {n : Nat} (hs : StP c a sf n)
include ha hs
end
def prv (n k : Nat) : Nat := (k + n - 1) % n
/-- a run of covered gaps, from one to the next that is not -/
structure Run (G : Nat → Bool) (n at' L : Nat) : Prop where
  lt : at' < n
  l1 : 1 ≤ L
  l2 : L < n
  on : ∀ j < L, G ((at' + j) % n) = true
  st : G (prv n at') = false
  en : G ((at' + L) % n) = false
def SpN (n : Nat) (sp : List (Nat × Nat)) : Prop := ∀ s ∈ sp, s.1 < n ∧ s.2 ≤ n
section
variable {c a : Pt} (ha : a ≠ c) {sf : Nat → Pt} {n : Nat} (hs : StP c a sf n) {sp : List (Nat × Nat)} (hsp : SpN n sp)
include ha hs hsp
end

section
variable {Y : Ct} {γ : List S} {M M1 : MM} {elt it tg : Expr} {ifs : List Expr} {xs : List S} {scope : Scope} {P : Po}
end

abbrev Eo := Addr × Addr × En
section
variable {M B : MM} {p C qs qe : Addr} {ts : List Tl} {es : List Eo}
end
/-- [elt for x in it if cond] -/
theorem e_compH {α : Type} {Y : Ct} {γ : List S} {M M1 : MM} {elt it cond : Expr} {scope : Scope} {p cpos : Pos} {n : Str} {Sd : MM → Prop} (j : Nat) (l : List α) (f h : α → PyData) (b : α → Bool) (hc : Y.X.calm = true) (hN : Y.X.N.Nodup) (hI : EI Y (.Name n p) it γ M ((l.map f).map S.d) Sd M1) (hSd : ∀ D acc, Sd (M1 ++ [(D, .lst acc)])) (ok : BlkOk Y.X.N Y.X.env.scope scope [(n, j)]) (hj : j < γ.length) (hn : l.length ≤ 99999)
    (helt : ∀ x ∈ l, b x = true → ∀ M' s H C cl fp, EV (Y.blk scope s H C cl fp) elt (compG γ j (.d (f x))) M' (.d (h x)) M')
    (hcond : ∀ x ∈ l, ∀ M' s H C cl fp, ET (Y.blk scope s H C cl fp) cond (compG γ j (.d (f x))) M' (b x) M')
    (hg : ∀ (s : Shared) (H : Hp) (C : Addr) (cl : List (Str × Addr)) (fp : List Addr), PG (Y.X.blk s H scope (compEnvC scope cl C Y.X.env) fp) (.Name n p) (gName j))
    (hs : ∀ x, foldedSetIterable it Y.X.env x = pure x := by intro _; rfl) : EV Y (.ListComp elt [⟨.Name n p, it, [cond], 0⟩] scope cpos) γ M (.d (.list ((l.filter b).map h))) M1 := by
  refine EV.ofQ (EQ.frz (q_comp j hc hN hI ok hj (fun k M' acc => M' = M1 ∧ acc = (((l.take k).filter b).map h).map S.d ∧ k ≤ l.length) ⟨rfl, rfl, Nat.zero_le _⟩
    (fun k M' acc ⟨h1, h2, h3⟩ => ⟨by rw [h2, List.length_map, List.length_map]; have := List.length_filter_le b (l.take k); rw [List.length_take] at this; omega, fun D => by rw [h1]; exact hSd D acc⟩)
    (fun k x M' acc D hx ⟨h1, h2, h3⟩ => ?_) (fun D M' acc ⟨h1, h2, h3⟩ => ?_) hg hs))
  · obtain ⟨z, hz, rfl⟩ := map_at hx
    have hzm := List.mem_of_getElem? hz
    have hlt := (List.getElem?_eq_some_iff.mp hz).1
    have ef : (l.take (k + 1)).filter b = (l.take k).filter b ++ (if b z = true then [z] else []) := by
      rw [List.take_add_one, hz, List.filter_append]
      congr 1
      show [z].filter b = _
      by_cases c : b z = true
      · rw [if_pos c, List.filter_cons_of_pos c]; rfl
      · rw [if_neg c, List.filter_cons_of_neg c]; rfl
    refine ⟨b z, M', ptsOne fun s H C cl fp => hcond z hzm _ s H C cl fp, fun hb s H C cl fp => ?_, fun hb => ⟨h1, by rw [ef, hb, if_neg (by decide), List.append_nil]; exact h2, hlt⟩⟩
    refine (EV.q (helt z hzm hb _ s H C cl fp) ⟨M', rfl, h1, ?_, hlt⟩)
    rw [ef, hb, if_pos rfl, h2, List.map_append, List.map_append]
    rfl
  · rw [List.length_map, List.length_map, List.take_length] at h2
    exact ⟨D, (l.filter b).map h, M', rfl, by rw [h2], rfl, by rw [h1]; exact List.Sublist.refl _⟩
theorem foldl_max (n : Int) : ∀ ns : List Int, ns.foldl max n = max n (ns.foldl max n) ∧ ∀ m, (m :: ns).foldl max n = max m (ns.foldl max n) := by
  intro ns
  induction ns generalizing n with
  | nil => exact ⟨by simp, fun m => by simp [Int.max_comm]⟩
  | cons a ns ih =>
    have h1 := (ih (max n a)).1
    have h2 := (ih n).2 a
    rw [List.foldl_cons] at h2
    refine ⟨by rw [List.foldl_cons]; omega, fun m => ?_⟩
    rw [List.foldl_cons, List.foldl_cons, List.foldl_cons]
    have h3 := (ih (max n m)).2 a
    have h4 := (ih n).2 m
    rw [List.foldl_cons] at h3 h4
    rw [h3, h4, h2]
    omega
theorem deep_max : ∀ rs : List Rw, maxDf 0 ((rs.filter fun r => !r.plain).map fun r => 1 + ((deepL r.inner : Nat) : Int)) = ((deepL rs : Nat) : Int)
  | [] => by rw [deepL]; rfl
  | r :: rs => by
    have ih := deep_max rs
    rw [List.filter_cons, deepL]
    cases hp : r.plain with
    | true =>
      rw [if_neg (by decide), ih]
      have : r.deep = 0 := by cases r <;> first | rfl | cases hp
      omega
    | false =>
      rw [if_pos (by rfl), List.map_cons]
      have hd : r.deep = 1 + deepL r.inner := by cases r <;> first | rfl | cases hp
      generalize ((rs.filter fun r => !r.plain).map fun r => 1 + ((deepL r.inner : Nat) : Int)) = ns at ih ⊢
      cases ns with
      | nil =>
        have ih : (0 : Int) = ((deepL rs : Nat) : Int) := ih
        show (1 + ((deepL r.inner : Nat) : Int)) = _
        omega
      | cons n ns =>
        have ih : ns.foldl max n = ((deepL rs : Nat) : Int) := ih
        show (n :: ns).foldl max (1 + ((deepL r.inner : Nat) : Int)) = _
        have h1 := (foldl_max (1 + ((deepL r.inner : Nat) : Int)) ns).2 n
        have h2 := (foldl_max n ns).2 (1 + ((deepL r.inner : Nat) : Int))
        rw [List.foldl_cons] at h1 h2 ⊢
        rw [Int.max_comm, h2, ih]
        omega
theorem raw_st (f : Fr) (p q : Pt) : (Raw.st p q).led f = stretchP (f.led p) (f.led q) := by
  unfold Raw.led stretchP
  by_cases e : f.led p = f.led q
  · simp only [e, bef_irr, if_pos, if_neg]
    simp
  · simp only [if_neg e]
def stepK (b : Bool) (rs : List Rw) (h d : Nat) (w : Bool) (q : Except Nat Nat) : Except Nat Nat :=
  if (decide ((d : Int) = 4) || (w && b)) = true then .error h else match q with
    | .error i => .error i
    | .ok m => if (b && !endlessB rs) = true then .error h else .ok (m + 1)
mutual
def lookR : Rw → Nat → Nat → Bool → Except Nat Nat
  | .again _ rs, h, d, w => stepK false rs h d w (lookL rs (h + 1) (d + 1) (w || false))
  | .keep rs, h, d, w => stepK false rs h d w (lookL rs (h + 1) (d + 1) (w || false))
  | .ever rs, h, d, w => stepK true rs h d w (lookL rs (h + 1) (d + 1) (w || true))
  | .go _, h, _, _ => .ok (h + 1)
  | .skip _, h, _, _ => .ok (h + 1)
  | .side _ _, h, _, _ => .ok (h + 1)
  | .dot, h, _, _ => .ok (h + 1)
  | .left, h, _, _ => .ok (h + 1)
  | .right, h, _, _ => .ok (h + 1)
  | .round, h, _, _ => .ok (h + 1)
  | .mirror, h, _, _ => .ok (h + 1)
  | .grow _, h, _, _ => .ok (h + 1)
  | .quarter _, h, _, _ => .ok (h + 1)
  | .half _, h, _, _ => .ok (h + 1)
  | .arc _ _, h, _, _ => .ok (h + 1)
def lookL : List Rw → Nat → Nat → Bool → Except Nat Nat
  | [], n, _, _ => .ok n
  | r :: rs, n, d, w => match lookR r n d w with
    | .error i => .error i
    | .ok m => lookL rs m d w
end
mutual
def eoR (N : Nat) : Rw → Prop
  | .again _ rs => eoL N rs
  | .keep rs => eoL N rs
  | .ever rs => (doneL rs ≤ N ∧ alldL N rs) ∧ eoL N rs
  | _ => True
def eoL (N : Nat) : List Rw → Prop
  | [] => True
  | r :: rs => eoR N r ∧ eoL N rs
end
theorem eoR_mem {N : Nat} : ∀ {rs : List Rw} {r : Rw}, eoL N rs → r ∈ rs → eoR N r
  | a :: as, r, h, hm => by
    rw [eoL] at h
    rcases List.mem_cons.mp hm with rfl | hm
    · exact h.1
    · exact eoR_mem h.2 hm
theorem eo_in {N : Nat} {r : Rw} (h : eoR N r) : eoL N r.inner ∧ (r.isW "ever" = true → doneL r.inner ≤ N ∧ alldL N r.inner) := by
  cases r with
  | again n rs =>
    rw [eoR] at h
    exact ⟨h, fun z => by exfalso; revert z; simp only [Rw.isW, Rw.word]; decide +kernel⟩
  | keep rs =>
    rw [eoR] at h
    exact ⟨h, fun z => by exfalso; revert z; simp only [Rw.isW, Rw.word]; decide +kernel⟩
  | ever rs =>
    rw [eoR] at h
    exact ⟨h.2, fun _ => h.1⟩
  | _ => exact ⟨by show eoL N []; rw [eoL]; trivial, fun z => by exfalso; revert z; simp only [Rw.isW, Rw.word]; decide +kernel⟩
theorem look_plain {r : Rw} (hp : r.plain = true) (h d : Nat) (w : Bool) : lookR r h d w = .ok (h + 1) := by cases r <;> first | (rw [lookR]; done) | cases hp
theorem look_blk {r : Rw} (hp : r.plain = false) (h d : Nat) (w : Bool) : lookR r h d w = stepK (r.isW "ever") r.inner h d w (lookL r.inner (h + 1) (d + 1) (w || r.isW "ever")) := by
  cases r with
  | again n rs =>
    have e : (Rw.again n rs).isW "ever" = false := by simp only [Rw.isW, Rw.word]; decide +kernel
    rw [lookR, e]
    rfl
  | keep rs =>
    have e : (Rw.keep rs).isW "ever" = false := by simp only [Rw.isW, Rw.word]; decide +kernel
    rw [lookR, e]
    rfl
  | ever rs =>
    have e : (Rw.ever rs).isW "ever" = true := by simp only [Rw.isW, Rw.word]; decide +kernel
    rw [lookR, e]
    rfl
  | _ => cases hp
theorem lookL_take : ∀ {rs : List Rw} {i : Nat} {r : Rw}, rs[i]? = some r → ∀ (n d : Nat) (w : Bool), lookL (rs.take (i + 1)) n d w = match lookL (rs.take i) n d w with
    | .error j => .error j
    | .ok m => lookR r m d w
  | [], _, _, h, _, _, _ => nomatch h
  | a :: as, 0, r, h, n, d, w => by
    cases Option.some.inj h
    rw [List.take_succ_cons, List.take_zero, List.take_zero, lookL, lookL]
    show _ = lookR a n d w
    cases lookR a n d w with
    | error j => rfl
    | ok m => show lookL [] m d w = _; rw [lookL]
  | a :: as, i + 1, r, h, n, d, w => by
    rw [List.take_succ_cons, List.take_succ_cons, lookL, lookL]
    cases lookR a n d w with
    | error j => rfl
    | ok m => exact lookL_take (rs := as) h m d w
theorem lookL_err {rs : List Rw} {n d : Nat} {w : Bool} {j : Nat} : ∀ {i : Nat}, lookL (rs.take i) n d w = .error j → lookL rs n d w = .error j := by
  induction rs generalizing n with
  | nil => intro i h; rw [List.take_nil] at h; exact h
  | cons a as ih =>
    intro i h
    cases i with
    | zero => rw [List.take_zero, lookL] at h; cases h
    | succ i =>
      rw [List.take_succ_cons, lookL] at h
      rw [lookL]
      cases e : lookR a n d w with
      | error j2 => rw [e] at h; exact h
      | ok m => rw [e] at h; exact ih h
theorem rw_cons (r : Rw) : ∃ xs, r.D = .tuple (.str r.word :: xs) := by cases r <;> exact ⟨_, rfl⟩

def LkR (r : Rw) (d : Nat) (w : Bool) : Prop := ∀ h, ∃ m, lookR r h d w = .ok m
def LkL (rs : List Rw) (d : Nat) (w : Bool) : Prop := ∀ h, ∃ m, lookL rs h d w = .ok m
theorem LkL.nil (d : Nat) (w : Bool) : LkL [] d w := fun h => ⟨h, by rw [lookL]⟩
theorem LkL.cons {r : Rw} {rs : List Rw} {d : Nat} {w : Bool} (h : LkR r d w) (k : LkL rs d w) : LkL (r :: rs) d w := fun n => by
  obtain ⟨m, e⟩ := h n
  obtain ⟨m2, e2⟩ := k m
  exact ⟨m2, by rw [lookL, e]; exact e2⟩
theorem LkL.hd {r : Rw} {rs : List Rw} {d : Nat} {w : Bool} (h : LkL (r :: rs) d w) : LkR r d w := fun n => by
  obtain ⟨m, e⟩ := h n
  rw [lookL] at e
  cases e2 : lookR r n d w with
  | error j => rw [e2] at e; cases e
  | ok m2 => exact ⟨m2, rfl⟩
/-- the number of a row plays no part -/
def sameE (a b : Except Nat Nat) : Prop := (∃ x y, a = .ok x ∧ b = .ok y) ∨ (∃ x y, a = .error x ∧ b = .error y)
theorem stepK_same {b : Bool} {rs : List Rw} {h1 h2 d : Nat} {w : Bool} {p q : Except Nat Nat} (h : sameE p q) : sameE (stepK b rs h1 d w p) (stepK b rs h2 d w q) := by
  unfold stepK
  split
  · exact .inr ⟨_, _, rfl, rfl⟩
  · rcases h with ⟨x, y, rfl, rfl⟩ | ⟨x, y, rfl, rfl⟩
    · simp only []
      split
      · exact .inr ⟨_, _, rfl, rfl⟩
      · exact .inl ⟨_, _, rfl, rfl⟩
    · exact .inr ⟨_, _, rfl, rfl⟩
mutual
theorem lookR_same : ∀ (r : Rw) (h1 h2 d : Nat) (w : Bool), sameE (lookR r h1 d w) (lookR r h2 d w)
  | .again n rs, h1, h2, d, w => by rw [lookR, lookR]; exact stepK_same (lookL_same rs _ _ _ _)
  | .keep rs, h1, h2, d, w => by rw [lookR, lookR]; exact stepK_same (lookL_same rs _ _ _ _)
  | .ever rs, h1, h2, d, w => by rw [lookR, lookR]; exact stepK_same (lookL_same rs _ _ _ _)
  | .go _, h1, h2, _, _ => by rw [lookR, lookR]; exact .inl ⟨_, _, rfl, rfl⟩
  | .skip _, h1, h2, _, _ => by rw [lookR, lookR]; exact .inl ⟨_, _, rfl, rfl⟩
  | .side _ _, h1, h2, _, _ => by rw [lookR, lookR]; exact .inl ⟨_, _, rfl, rfl⟩
  | .dot, h1, h2, _, _ => by rw [lookR, lookR]; exact .inl ⟨_, _, rfl, rfl⟩
  | .left, h1, h2, _, _ => by rw [lookR, lookR]; exact .inl ⟨_, _, rfl, rfl⟩
  | .right, h1, h2, _, _ => by rw [lookR, lookR]; exact .inl ⟨_, _, rfl, rfl⟩
  | .round, h1, h2, _, _ => by rw [lookR, lookR]; exact .inl ⟨_, _, rfl, rfl⟩
  | .mirror, h1, h2, _, _ => by rw [lookR, lookR]; exact .inl ⟨_, _, rfl, rfl⟩
  | .grow _, h1, h2, _, _ => by rw [lookR, lookR]; exact .inl ⟨_, _, rfl, rfl⟩
  | .quarter _, h1, h2, _, _ => by rw [lookR, lookR]; exact .inl ⟨_, _, rfl, rfl⟩
  | .half _, h1, h2, _, _ => by rw [lookR, lookR]; exact .inl ⟨_, _, rfl, rfl⟩
  | .arc _ _, h1, h2, _, _ => by rw [lookR, lookR]; exact .inl ⟨_, _, rfl, rfl⟩
theorem lookL_same : ∀ (rs : List Rw) (h1 h2 d : Nat) (w : Bool), sameE (lookL rs h1 d w) (lookL rs h2 d w)
  | [], h1, h2, d, w => by rw [lookL, lookL]; exact .inl ⟨_, _, rfl, rfl⟩
  | r :: rs, h1, h2, d, w => by
    rw [lookL, lookL]
    rcases lookR_same r h1 h2 d w with ⟨x, y, e1, e2⟩ | ⟨x, y, e1, e2⟩
    · rw [e1, e2]
      exact lookL_same rs x y d w
    · rw [e1, e2]
      exact .inr ⟨_, _, rfl, rfl⟩
end
theorem LkL.tl {r : Rw} {rs : List Rw} {d : Nat} {w : Bool} (h : LkL (r :: rs) d w) : LkL rs d w := fun n => by
  obtain ⟨m, e⟩ := h n
  rw [lookL] at e
  cases e2 : lookR r n d w with
  | error j => rw [e2] at e; cases e
  | ok m2 =>
    rw [e2] at e
    have e : lookL rs m2 d w = .ok m := e
    rcases lookL_same rs m2 n d w with ⟨x, y, e3, e4⟩ | ⟨x, y, e3, e4⟩
    · exact ⟨y, e4⟩
    · rw [e] at e3; cases e3
theorem LkL.app : ∀ {as bs : List Rw} {d : Nat} {w : Bool}, LkL as d w → LkL bs d w → LkL (as ++ bs) d w
  | [], _, _, _, _, k => k
  | a :: as, bs, d, w, h, k => .cons h.hd (h.tl.app k)
theorem LkL.left : ∀ {as bs : List Rw} {d : Nat} {w : Bool}, LkL (as ++ bs) d w → LkL as d w
  | [], _, d, w, _ => .nil d w
  | a :: as, bs, d, w, h => .cons h.hd (LkL.left (as := as) h.tl)
theorem LkL.right : ∀ {as bs : List Rw} {d : Nat} {w : Bool}, LkL (as ++ bs) d w → LkL bs d w
  | [], _, d, w, h => h
  | a :: as, bs, d, w, h => LkL.right (as := as) h.tl
theorem LkL.take {rs : List Rw} {d : Nat} {w : Bool} (h : LkL rs d w) (i : Nat) : LkL (rs.take i) d w := LkL.left (bs := rs.drop i) (by rw [List.take_append_drop]; exact h)
theorem LkR.plain {r : Rw} (hp : r.plain = true) (d : Nat) (w : Bool) : LkR r d w := fun h => ⟨h + 1, look_plain hp h d w⟩
theorem LkL.all : ∀ {rs : List Rw} {d : Nat} {w : Bool}, (∀ r ∈ rs, LkR r d w) → LkL rs d w
  | [], d, w, _ => .nil d w
  | a :: as, d, w, h => .cons (h a List.mem_cons_self) (LkL.all fun r hr => h r (List.mem_cons_of_mem _ hr))
/-- a block -/
theorem LkR.blk {r : Rw} {d : Nat} {w : Bool} (hp : r.plain = false) (hd : d ≠ 4) (hw : (w && r.isW "ever") = false) (he : (r.isW "ever" && !endlessB r.inner) = false) (hi : LkL r.inner (d + 1) (w || r.isW "ever")) : LkR r d w := fun h => by
  obtain ⟨m, e⟩ := hi (h + 1)
  refine ⟨m + 1, ?_⟩
  rw [look_blk hp, e]
  unfold stepK
  rw [if_neg (by rw [Bool.or_eq_true, hw]; rintro (z | z); · have := of_decide_eq_true z; omega
                 · cases z)]
  simp only []
  rw [if_neg (by rw [he]; decide)]
theorem LkR.un {r : Rw} {d : Nat} {w : Bool} (hp : r.plain = false) (h : LkR r d w) : d ≠ 4 ∧ (w && r.isW "ever") = false ∧ (r.isW "ever" && !endlessB r.inner) = false ∧ LkL r.inner (d + 1) (w || r.isW "ever") := by
  obtain ⟨m, e⟩ := h 0
  rw [look_blk hp] at e
  unfold stepK at e
  by_cases c : (decide ((d : Int) = 4) || (w && r.isW "ever")) = true
  · rw [if_pos c] at e; cases e
  · rw [if_neg c] at e
    rw [Bool.or_eq_true, not_or] at c
    refine ⟨fun z => c.1 (by rw [z]; rfl), by simpa using c.2, ?_⟩
    cases e2 : lookL r.inner (0 + 1) (d + 1) (w || r.isW "ever") with
    | error j => rw [e2] at e; cases e
    | ok m2 =>
      rw [e2] at e
      simp only [] at e
      by_cases c2 : (r.isW "ever" && !endlessB r.inner) = true
      · rw [if_pos c2] at e; cases e
      · refine ⟨by simpa using c2, fun n => ?_⟩
        rcases lookL_same r.inner (0 + 1) n (d + 1) (w || r.isW "ever") with ⟨x, y, e3, e4⟩ | ⟨x, y, e3, e4⟩
        · exact ⟨y, e4⟩
        · rw [e2] at e3; cases e3
theorem isE_again (n : Nat) (rs : List Rw) : (Rw.again n rs).isW "ever" = false := by simp only [Rw.isW, Rw.word]; decide +kernel
theorem isE_keep (rs : List Rw) : (Rw.keep rs).isW "ever" = false := by simp only [Rw.isW, Rw.word]; decide +kernel
theorem isE_ever (rs : List Rw) : (Rw.ever rs).isW "ever" = true := by simp only [Rw.isW, Rw.word]; decide +kernel
theorem LkR.again {n : Nat} {rs : List Rw} {d : Nat} {w : Bool} (hd : d ≠ 4) (h : LkL rs (d + 1) w) : LkR (.again n rs) d w := .blk rfl hd (by rw [isE_again, Bool.and_false]) (by rw [isE_again, Bool.false_and]) (by rw [isE_again, Bool.or_false]; exact h)
theorem LkR.keep {rs : List Rw} {d : Nat} {w : Bool} (hd : d ≠ 4) (h : LkL rs (d + 1) w) : LkR (.keep rs) d w := .blk rfl hd (by rw [isE_keep, Bool.and_false]) (by rw [isE_keep, Bool.false_and]) (by rw [isE_keep, Bool.or_false]; exact h)
theorem LkR.ever {rs : List Rw} {d : Nat} (hd : d ≠ 4) (he : endlessB rs = true) (h : LkL rs (d + 1) true) : LkR (.ever rs) d false := .blk rfl hd (by rw [Bool.false_and]) (by rw [isE_ever]; show (true && !endlessB rs) = false; rw [he]; rfl) (by rw [isE_ever, Bool.or_true]; exact h)
mutual
theorem LkR.lift : ∀ {r : Rw} {d : Nat}, LkR r d true → LkR r d false
  | .again n rs, d, h => by
    obtain ⟨h1, _, _, h4⟩ := h.un rfl
    rw [isE_again, Bool.or_false] at h4
    exact .again h1 (LkL.lift h4)
  | .keep rs, d, h => by
    obtain ⟨h1, _, _, h4⟩ := h.un rfl
    rw [isE_keep, Bool.or_false] at h4
    exact .keep h1 (LkL.lift h4)
  | .ever rs, d, h => by
    obtain ⟨_, h2, _, _⟩ := h.un rfl
    rw [isE_ever] at h2
    cases h2
  | .go _, d, h => .plain rfl d _
  | .skip _, d, h => .plain rfl d _
  | .side _ _, d, h => .plain rfl d _
  | .dot, d, h => .plain rfl d _
  | .left, d, h => .plain rfl d _
  | .right, d, h => .plain rfl d _
  | .round, d, h => .plain rfl d _
  | .mirror, d, h => .plain rfl d _
  | .grow _, d, h => .plain rfl d _
  | .quarter _, d, h => .plain rfl d _
  | .half _, d, h => .plain rfl d _
  | .arc _ _, d, h => .plain rfl d _
theorem LkL.lift : ∀ {rs : List Rw} {d : Nat}, LkL rs d true → LkL rs d false
  | [], d, _ => .nil d _
  | r :: rs, d, h => .cons (LkR.lift h.hd) (LkL.lift h.tl)
end

def evW (fs : List Fm) : Bool := fs.any fun f => f.b.isE
structure StI (fs : List Fm) : Prop where
  e : ∀ f ∈ fs, evoL f.rs
  l : ∀ (i : Nat) (f : Fm), fs[i]? = some f → LkL f.rs i (evW (fs.take (i + 1))) ∧ (f.b.isE = true → evW (fs.take i) = false)
theorem StI.start (t l : Addr) (n : Nat) : StI [⟨t, l, .no, n, []⟩] := ⟨fun f hf => by rw [List.mem_singleton.mp hf]; exact evoL_nil, fun i f h => by
  cases i with
  | zero => cases Option.some.inj h; exact ⟨.nil _ _, fun z => by cases z⟩
  | succ i => cases h⟩
theorem StI.upd {gs : List Fm} {g : Fm} {ts : List Fm} {rs : List Rw} (h : StI (gs ++ g :: ts)) (he : evoL rs) (hl : LkL rs gs.length (evW (gs ++ [g]))) : StI (gs ++ [{ g with rs := rs }]) := by
  have hg : (gs ++ g :: ts)[gs.length]? = some g := by simp
  refine ⟨fun f hf => ?_, fun i f hi => ?_⟩
  · rcases List.mem_append.mp hf with z | z
    · exact h.e f (List.mem_append_left _ z)
    · rw [List.mem_singleton.mp z]; exact he
  · by_cases c : i < gs.length
    · rw [List.getElem?_append_left c] at hi
      rw [List.take_append_of_le_length (by omega), List.take_append_of_le_length (by omega)]
      have := h.l i f (by rw [List.getElem?_append_left c]; exact hi)
      rw [List.take_append_of_le_length (by omega), List.take_append_of_le_length (by omega)] at this
      exact this
    · have hl2 := (List.getElem?_eq_some_iff.mp hi).1
      rw [List.length_append, List.length_singleton] at hl2
      have e : i = gs.length := by omega
      subst e
      rw [List.getElem?_append_right (Nat.le_refl _), Nat.sub_self] at hi
      cases Option.some.inj hi
      have e1 : (gs ++ [{ g with rs := rs }]).take (gs.length + 1) = gs ++ [{ g with rs := rs }] := List.take_of_length_le (by simp)
      have e2 : evW (gs ++ [{ g with rs := rs }]) = evW (gs ++ [g]) := by unfold evW; simp
      rw [e1, e2, List.take_append_of_le_length (Nat.le_refl _), List.take_length]
      have := (h.l gs.length g hg).2
      rw [List.take_append_of_le_length (Nat.le_refl _), List.take_length] at this
      exact ⟨hl, this⟩
theorem StI.last {gs : List Fm} {g : Fm} {ts : List Fm} (h : StI (gs ++ g :: ts)) : LkL g.rs gs.length (evW (gs ++ [g])) := by
  have hg : (gs ++ g :: ts)[gs.length]? = some g := by simp
  have := (h.l gs.length g hg).1
  have e1 : (gs ++ g :: ts).take (gs.length + 1) = gs ++ [g] := by
    rw [show gs ++ g :: ts = (gs ++ [g]) ++ ts by simp, List.take_append_of_le_length (by simp), List.take_of_length_le (by simp)]
  rw [e1] at this
  exact this
theorem StI.plain {gs : List Fm} {f : Fm} {r : Rw} (h : StI (gs ++ [f])) (hp : r.plain = true) : StI (gs ++ [{ f with rs := f.rs ++ [r] }]) :=
  h.upd (evoL_app (h.e f (by simp)) (evoL_one (evo_plain hp))) (h.last.app (.cons (.plain hp _ _) (.nil _ _)))
theorem LkL.plains {n : Nat} {r : Rw} (hp : r.plain = true) (d : Nat) (w : Bool) : LkL (List.replicate n r) d w := .all fun a ha => by rw [List.eq_of_mem_replicate ha]; exact .plain hp d w
theorem LkL.evers {rs : List Rw} {d : Nat} {w : Bool} (h : LkL rs d w) : LkL (everRows rs) d w := by
  unfold everRows growsFor dotsFor
  exact (h.app (.plains rfl d w)).app (.plains rfl d w)
theorem StI.one {f : Fm} (h : StI [f]) : LkL f.rs 0 false := by
  have := (h.l 0 f rfl).1
  cases c : evW ([f].take (0 + 1)) with
  | false => rw [c] at this; exact this
  | true => rw [c] at this; exact this.lift
theorem LkL.ok {rs : List Rw} {d : Nat} {w : Bool} (h : LkL rs d w) (n : Nat) : ∃ m, lookL rs n d w = .ok m := h n

theorem Pc.pb.up {z : Pc} {n m : Nat} (h : z.pb n) (k : n ≤ m) : z.pb m := by
  cases z with
  | dot p => exact ⟨h.1.mono k, h.2.mono k⟩
  | st p q => exact ⟨⟨h.1.1.mono k, h.1.2.mono k⟩, ⟨h.2.1.mono k, h.2.2.mono k⟩⟩
  | arc c p q => exact ⟨⟨h.1.1.mono k, h.1.2.mono k⟩, ⟨h.2.1.1.mono k, h.2.1.2.mono k⟩, ⟨h.2.2.1.mono k, h.2.2.2.mono k⟩⟩
  | ring c p => exact ⟨⟨h.1.1.mono k, h.1.2.mono k⟩, ⟨h.2.1.mono k, h.2.2.mono k⟩⟩
theorem t_neU {Y : Ct} {γ : List S} {M M1 M2 : MM} {a b : Expr} {s1 s2 : S} {pos : Pos} (hu : Y.X.A.units + 64 < cLine) {d1 d2 : PyData} {z : Bool} (ha : EV Y a γ M s1 M1) (hb : EV Y b γ M1 s2 M2) (v1 : Vw M2 s1 d1) (v2 : Vw M2 s2 d2) (h1 : SeqAt.shaped d1 = true) (h2 : SeqAt.shaped d2 = true) (hz : PyData.eqv d1 d2 = z) :
    ET Y (.Compare a [.NotEq] [b] pos) γ M (!z) M2 := t_bin (fun h1 h2 => pt_cmpR (op_neD hu) h1 h2 (nomark _)) ha hb (rv_ne v1 v2 h1 h2 hz)

def KnD : PyData → Prop
  | .dict _ => False
  | _ => True
/-- an item of a row -/
structure ItOk (nb : Nat) (x : PyData) : Prop where
  k : KnD x
  k2 : ∀ a b, x = .tuple [a, b] → KnD a ∧ KnD b
  b : ∀ q, x = fr q → Fb nb q
structure RwOk (nb : Nat) (d : PyData) : Prop where
  k : KnD d
  i : ∀ x xs, d = .tuple (x :: xs) → KnD x ∧ xs.length ≤ 50 ∧ ∀ y ∈ xs, ItOk nb y
def numW (w : Str) : Option Nat :=
  if w = "go" then some 1 else if w = "skip" then some 1 else if w = "side" then some 2 else if w = "dot" then some 0 else if w = "left" then some 0 else if w = "right" then some 0 else if w = "round" then some 0 else if w = "mirror" then some 0 else if w = "grow" then some 1 else if w = "quarter" then some 1 else if w = "half" then some 1 else if w = "arc" then some 4 else none
theorem frs_inj : ∀ {xs ys : List Rat}, xs.map fr = ys.map fr → xs = ys
  | [], [], _ => rfl
  | [], _ :: _, h => nomatch h
  | _ :: _, [], h => nomatch h
  | x :: xs, y :: ys, h => by
    rw [List.map_cons, List.map_cons, List.cons.injEq] at h
    rw [fr_inj h.1, frs_inj h.2]
theorem numW_le {w : Str} {n : Nat} (h : numW w = some n) : n ≤ 4 := by
  unfold numW at h
  repeat (split at h; (cases h; decide))
  cases h
theorem numW_in {w : Str} (h : numW w = none) : w ∉ (["go", "skip", "side", "dot", "left", "right", "round", "mirror", "grow", "quarter", "half", "arc"] : List Str) := fun hm => by
  simp only [List.mem_cons, List.not_mem_nil, or_false] at hm
  rcases hm with rfl | rfl | rfl | rfl | rfl | rfl | rfl | rfl | rfl | rfl | rfl | rfl <;> exact absurd h (by decide)
/-- rows that are good are told as such -/
theorem numW_rw {r : Rw} (hp : r.plain = true) : ∃ qs : List Rat, r.D = .tuple (.str r.word :: qs.map fr) ∧ numW r.word = some qs.length := by
  cases r with
  | go x => exact ⟨[x], rfl, (show numW "go" = some 1 by decide)⟩
  | skip x => exact ⟨[x], rfl, (show numW "skip" = some 1 by decide)⟩
  | side x y => exact ⟨[x, y], rfl, (show numW "side" = some 2 by decide)⟩
  | dot => exact ⟨[], rfl, (show numW "dot" = some 0 by decide)⟩
  | left => exact ⟨[], rfl, (show numW "left" = some 0 by decide)⟩
  | right => exact ⟨[], rfl, (show numW "right" = some 0 by decide)⟩
  | round => exact ⟨[], rfl, (show numW "round" = some 0 by decide)⟩
  | mirror => exact ⟨[], rfl, (show numW "mirror" = some 0 by decide)⟩
  | grow s => exact ⟨[s], rfl, (show numW "grow" = some 1 by decide)⟩
  | quarter x => exact ⟨[x], rfl, (show numW "quarter" = some 1 by decide)⟩
  | half x => exact ⟨[x], rfl, (show numW "half" = some 1 by decide)⟩
  | arc c q => exact ⟨[c.x, c.y, q.x, q.y], rfl, (show numW "arc" = some 4 by decide)⟩
  | again n rs => cases hp
  | keep rs => cases hp
  | ever rs => cases hp
theorem eqv_str (a b : Str) : PyData.eqv (.str a) (.str b) = decide (a = b) := by
  show (a == b) = decide (a = b)
  by_cases h : a = b
  · subst h; simp
  · rw [decide_eq_false h]; exact beq_eq_false_iff_ne.mpr h
open TL in
theorem tl_inj {x y : Str} (h : tl x = tl y) : x = y := ext_tl h
def intT (i : Int) : Str := Str.ofString (toString i)
theorem tl_intT (i : Int) : TL.tl (intT i) = if 0 ≤ i then TL.numL i.toNat else 45 :: TL.numL i.natAbs := by
  cases i with
  | ofNat n =>
    rw [if_pos (show 0 ≤ Int.ofNat n from Int.natCast_nonneg n)]
    exact TL.tl_num n
  | negSucc n =>
    rw [if_neg (by omega)]
    show TL.tl (Str.ofString ("-" ++ toString (n + 1))) = 45 :: TL.numL (n + 1)
    rw [TL.tl_ofString, String.toList_append, List.map_append]
    have e := TL.tl_num (n + 1)
    rw [TL.tl_ofString] at e
    have e2 : ("-" : String).toList.map Char.toNat = [45] := by decide
    rw [e2]
    show 45 :: _ = 45 :: _
    exact congrArg _ e
/-- a fraction, written -/
def numT (q : Rat) : Str := if q.den = 1 then intT q.num else intT q.num ++ "/" ++ intT (q.den : Int)
def digB (l : List Nat) : Bool := l.all fun c => decide (48 ≤ c) && decide (c ≤ 57)
def figs (l : List Nat) : List Nat := if l.take 1 = [45] then l.drop 1 else l
def wholeO (z : Str) : Option Int :=
  if (figs (TL.tl z) = [] ∨ digB (figs (TL.tl z)) = false) ∨ ((figs (TL.tl z)).head? = some 48 ∧ z ≠ "0") then none
  else some (if (TL.tl z).take 1 = [45] then -((NumText.digitsVal (figs (TL.tl z)) : Nat) : Int) else ((NumText.digitsVal (figs (TL.tl z)) : Nat) : Int))
theorem digB_num (n : Nat) : digB (TL.numL n) = true := by
  unfold digB
  rw [List.all_eq_true]
  intro c hc
  have := TL.numL_digits n c hc
  simp only [Bool.and_eq_true, decide_eq_true_eq]
  omega
theorem numL_head {n : Nat} (h : 0 < n) : (TL.numL n).head? ≠ some 48 := by
  induction n using Nat.strongRecOn with
  | _ n ih =>
    by_cases k : n < 10
    · rw [TL.numL_lt k]
      intro e
      have : 48 + n = 48 := Option.some.inj e
      omega
    · rw [TL.numL_step (by omega), List.head?_append]
      have h2 := ih (n / 10) (by omega) (by omega)
      have h3 := TL.numL_ne (n / 10)
      cases e : TL.numL (n / 10) with
      | nil => exact absurd e h3
      | cons c cs => rw [e] at h2; exact h2
theorem figs_num (n : Nat) : figs (TL.numL n) = TL.numL n := by
  unfold figs
  rw [if_neg]
  intro e
  cases h : TL.numL n with
  | nil => exact TL.numL_ne n h
  | cons c cs =>
    rw [h] at e
    have hc := TL.numL_digits n c (by rw [h]; exact List.mem_cons_self)
    have : c = 45 := by simpa using e
    omega
/-- what is written is read -/
theorem whole_int (i : Int) : wholeO (intT i) = some i := by
  have e := tl_intT i
  unfold wholeO
  rw [e]
  by_cases h : 0 ≤ i
  · rw [if_pos h, figs_num]
    have h1 : ¬ ((TL.numL i.toNat = [] ∨ digB (TL.numL i.toNat) = false) ∨ ((TL.numL i.toNat).head? = some 48 ∧ intT i ≠ "0")) := by
      rintro ((k | k) | ⟨k1, k2⟩)
      · exact TL.numL_ne _ k
      · rw [digB_num] at k; cases k
      · by_cases z : i = 0
        · subst z; exact k2 rfl
        · exact numL_head (by omega) k1
    rw [if_neg h1, if_neg, TL.numL_val, Int.toNat_of_nonneg h]
    intro k
    have : figs (TL.numL i.toNat) = (TL.numL i.toNat).drop 1 := by unfold figs; rw [if_pos k]
    rw [figs_num] at this
    have h3 := congrArg List.length this
    rw [List.length_drop] at h3
    have h4 := TL.numL_ne i.toNat
    cases h5 : TL.numL i.toNat with
    | nil => exact h4 h5
    | cons c cs => rw [h5] at h3; simp at h3
  · rw [if_neg h]
    have h2 : figs (45 :: TL.numL i.natAbs) = TL.numL i.natAbs := if_pos rfl
    rw [h2]
    have h1 : ¬ ((TL.numL i.natAbs = [] ∨ digB (TL.numL i.natAbs) = false) ∨ ((TL.numL i.natAbs).head? = some 48 ∧ intT i ≠ "0")) := by
      rintro ((k | k) | ⟨k1, k2⟩)
      · exact TL.numL_ne _ k
      · rw [digB_num] at k; cases k
      · exact numL_head (by omega) k1
    rw [if_neg h1, if_pos (show List.take 1 (45 :: TL.numL i.natAbs) = [45] from rfl), TL.numL_val]
    exact congrArg some (by omega)
theorem int_no {i : Int} {s : Nat} (h : s < 45 ∨ 57 < s ∨ s = 46 ∨ s = 47) : s ∉ TL.tl (intT i) := fun hm => by
  rw [tl_intT] at hm
  split at hm
  · exact TL.numL_free (by omega) hm
  · rcases List.mem_cons.mp hm with rfl | hm
    · omega
    · exact TL.numL_free (by omega) hm
theorem int_len {i : Int} {k : Nat} (hk : 0 < k) (h : i.natAbs < 10 ^ k) : (intT i).length ≤ k + 1 := by
  rw [TL.len_tl, tl_intT]
  split
  · have := TL.numL_len hk (show i.toNat < 10 ^ k by omega)
    omega
  · have := TL.numL_len hk h
    rw [List.length_cons]
    omega
theorem str_len (x y : Str) : (x ++ y).length = x.length + y.length := by rw [TL.len_tl, TL.tl_append, List.length_append, ← TL.len_tl, ← TL.len_tl]
theorem num_no {q : Rat} {s : Nat} (h : s < 45 ∨ 57 < s) : s ∉ TL.tl (numT q) := fun hm => by
  unfold numT at hm
  split at hm
  · exact int_no (by omega) hm
  · rw [TL.tl_append, TL.tl_append] at hm
    rcases List.mem_append.mp hm with hm | hm
    · rcases List.mem_append.mp hm with hm | hm
      · exact int_no (by omega) hm
      · have : TL.tl ("/" : Str) = [47] := by decide
        rw [this] at hm
        have := List.mem_singleton.mp hm
        omega
    · exact int_no (by omega) hm
theorem num_len {q : Rat} {k : Nat} (hk : 0 < k) (h1 : q.num.natAbs < 10 ^ k) (h2 : q.den < 10 ^ k) : (numT q).length ≤ 2 * k + 3 := by
  unfold numT
  have a := int_len hk h1
  split
  · omega
  · have b := int_len (i := (q.den : Int)) hk h2
    rw [str_len, str_len]
    have : ("/" : Str).length = 1 := by decide
    omega
theorem cop_of {a b : Int} (h : 1 ≤ b) (k : Int.gcd a b = 1) : a.natAbs.Coprime b.toNat := by
  have e : b.toNat = b.natAbs := by omega
  rw [e]
  exact k
/-- the fraction of two numbers, m: whether the bottom is written -/
def ratO (a b : Int) (m : Bool) : Option Rat := if h : 1 ≤ b ∧ ¬ (b = 1 ∧ m = true) ∧ Int.gcd a b = 1 then some ⟨a, b.toNat, by omega, cop_of h.1 h.2.2⟩ else none
def fracP (p : Str × Str × Str) : Option Rat :=
  match wholeO p.1, (if p.2.1 ≠ "" then wholeO p.2.2 else some 1) with
  | some a, some b => ratO a b (decide (p.2.1 ≠ ""))
  | _, _ => none
/-- the fraction that a word writes -/
def fracO (z : Str) : Option Rat := fracP (Txt.partition z "/")
theorem frac_num (q : Rat) : fracO (numT q) = some q := by
  unfold numT
  by_cases h : q.den = 1
  · rw [if_pos h]
    have e : Txt.partition (intT q.num) "/" = (intT q.num, Str.empty, Str.empty) := TL.partition_none (y := "/") (s := 47) (S := []) (by decide) (int_no (by omega))
    unfold fracO
    rw [e]
    unfold fracP
    have e2 : ¬ (Str.empty ≠ ("" : Str)) := fun k => k rfl
    simp only [if_neg e2, whole_int]
    rw [decide_eq_false e2]
    unfold ratO
    rw [dif_pos ⟨by decide, fun k => (nomatch k.2), Int.gcd_one_right _⟩]
    exact congrArg some (Rat.ext rfl h.symm)
  · rw [if_neg h]
    have e : Txt.partition (intT q.num ++ "/" ++ intT (q.den : Int)) "/" = (intT q.num, ("/" : Str), intT (q.den : Int)) := TL.partition_app (y := "/") (s := 47) (S := []) (by decide) (int_no (by omega))
    have hd := q.den_pos
    unfold fracO
    rw [e]
    unfold fracP
    have e2 : ("/" : Str) ≠ "" := by decide
    simp only [if_pos e2, whole_int]
    unfold ratO
    rw [dif_pos ⟨by omega, fun k => h (by omega), q.reduced⟩]
    exact congrArg some (Rat.ext rfl (by show ((q.den : Int)).toNat = q.den; omega))

def frcR : Rw → List Rat
  | .go x => [x]
  | .skip x => [x]
  | .side x y => [x, y]
  | .grow s => [s]
  | .quarter x => [x]
  | .half x => [x]
  | .arc c q => [c.x, c.y, q.x, q.y]
  | _ => []
theorem frc_rw {r : Rw} (hp : r.plain = true) : r.D = .tuple (.str r.word :: (frcR r).map fr) ∧ numW r.word = some (frcR r).length := by
  obtain ⟨qs, e, h⟩ := numW_rw hp
  have e2 : r.D = .tuple (.str r.word :: (frcR r).map fr) := by cases r <;> first | rfl | cases hp
  refine ⟨e2, ?_⟩
  rw [e2, PyData.tuple.injEq, List.cons.injEq] at e
  rw [h, frs_inj e.2]
/-- the words of a row's own line -/
def headW : Rw → List Str
  | .again n _ => ["again", intT n]
  | .keep _ => ["keep"]
  | .ever _ => ["ever"]
  | r => r.word :: (frcR r).map numT
theorem headW_pl {r : Rw} (hp : r.plain = true) : headW r = r.word :: (frcR r).map numT := by cases r <;> first | rfl | cases hp
mutual
def Rw.lns : Rw → List Str
  | .again n rs => Str.join " " (headW (.again n rs)) :: (lnsL rs ++ [("end" : Str)])
  | .keep rs => Str.join " " (headW (.keep rs)) :: (lnsL rs ++ [("end" : Str)])
  | .ever rs => Str.join " " (headW (.ever rs)) :: (lnsL rs ++ [("end" : Str)])
  | .go x => [Str.join " " (headW (.go x))]
  | .skip x => [Str.join " " (headW (.skip x))]
  | .side x y => [Str.join " " (headW (.side x y))]
  | .dot => [Str.join " " (headW .dot)]
  | .left => [Str.join " " (headW .left)]
  | .right => [Str.join " " (headW .right)]
  | .round => [Str.join " " (headW .round)]
  | .mirror => [Str.join " " (headW .mirror)]
  | .grow x => [Str.join " " (headW (.grow x))]
  | .quarter x => [Str.join " " (headW (.quarter x))]
  | .half x => [Str.join " " (headW (.half x))]
  | .arc c q => [Str.join " " (headW (.arc c q))]
def lnsL : List Rw → List Str
  | [] => []
  | r :: rs => r.lns ++ lnsL rs
end
theorem lns_pl {r : Rw} (hp : r.plain = true) : r.lns = [Str.join " " (headW r)] := by cases r <;> first | (rw [Rw.lns]; done) | cases hp
theorem lns_bk {r : Rw} (hp : r.plain = false) : r.lns = Str.join " " (headW r) :: (lnsL r.inner ++ [("end" : Str)]) := by
  cases r with
  | again n rs => rw [Rw.lns]; rfl
  | keep rs => rw [Rw.lns]; rfl
  | ever rs => rw [Rw.lns]; rfl
  | _ => cases hp
theorem lnsL_app : ∀ as bs : List Rw, lnsL (as ++ bs) = lnsL as ++ lnsL bs
  | [], bs => rfl
  | a :: as, bs => by rw [List.cons_append, lnsL, lnsL, lnsL_app as bs, List.append_assoc]
theorem lnsL_take {rs : List Rw} {i : Nat} {r : Rw} (h : rs[i]? = some r) : lnsL (rs.take (i + 1)) = lnsL (rs.take i) ++ r.lns := by
  rw [take_at h, lnsL_app, lnsL, lnsL, List.append_nil]
def mapO {α β : Type} (f : α → Option β) : List α → Option (List β)
  | [] => some []
  | a :: as => match f a, mapO f as with
    | some b, some bs => some (b :: bs)
    | _, _ => none
theorem mapO_of {α β γ : Type} {f : α → Option β} {g : γ → α} {h : γ → β} (k : ∀ c, f (g c) = some (h c)) : ∀ cs : List γ, mapO f (cs.map g) = some (cs.map h)
  | [] => rfl
  | c :: cs => by rw [List.map_cons, mapO, k, mapO_of k cs]; rfl
inductive LnT where
  | row (d : PyData)
  | opn (h : List PyData)
  | cls
  | bad
def lnWd (ws : List Str) : LnT :=
  if ws = [("end" : Str)] then .cls
  else if (ws = [("keep" : Str)] ∨ ws = [("ever" : Str)]) ∨ ws.headD "" = "again" then
    (match mapO wholeO ws.tail with
      | none => .bad
      | some ns => if ns.length = (if ws.headD "" = "again" then 1 else 0) then .opn (.str (ws.headD "") :: ns.map PyData.int) else .bad)
  else match numW (ws.headD "") with
    | none => .bad
    | some n => if ws.length ≠ 1 + n then .bad else match mapO fracO ws.tail with
      | none => .bad
      | some qs => .row (.tuple (.str (ws.headD "") :: qs.map fr))
def lnOf (z : Str) : LnT := lnWd (Txt.split z " ")
theorem split_words {ws : List Str} (hne : ws ≠ []) (h : ∀ w ∈ ws, 32 ∉ TL.tl w) : Txt.split (Str.join " " ws) " " = ws := by
  have := TL.split_join (y := " ") (s := 32) (S := []) (by decide) (by decide +kernel) hne h
  rw [TL.join_eq] at this
  exact this
theorem word_no (r : Rw) {c : Nat} (hc : c < 97 ∨ 122 < c) : c ∉ TL.tl r.word := by
  have go : ∀ l : List Nat, (l.all fun c => decide (97 ≤ c) && decide (c ≤ 122)) = true → c ∉ l := fun l h hm => by
    rw [List.all_eq_true] at h
    have := h c hm
    simp only [Bool.and_eq_true, decide_eq_true_eq] at this
    omega
  cases r <;> exact go _ (by simp only [Rw.word]; decide)
theorem head_no (r : Rw) {c : Nat} (hc : c < 45) : ∀ w ∈ headW r, c ∉ TL.tl w := by
  have kp : ∀ {x : Rw}, c ∉ TL.tl x.word := fun {x} => word_no x (by omega)
  have pl : ∀ {x : Rw} {qs : List Rat}, ∀ w ∈ x.word :: qs.map numT, c ∉ TL.tl w := fun {x qs} w hw => by
    rcases List.mem_cons.mp hw with rfl | hw
    · exact kp
    · obtain ⟨q, _, rfl⟩ := List.mem_map.mp hw
      exact num_no (by omega)
  cases r with
  | again n rs =>
    intro w hw
    simp only [headW, List.mem_cons, List.not_mem_nil, or_false] at hw
    rcases hw with rfl | rfl
    · exact kp (x := .again n rs)
    · exact int_no (by omega)
  | keep rs => exact fun w hw => by rw [List.mem_singleton.mp hw]; exact kp (x := .keep rs)
  | ever rs => exact fun w hw => by rw [List.mem_singleton.mp hw]; exact kp (x := .ever rs)
  | _ => exact pl
theorem headW_ne (r : Rw) : headW r ≠ [] := by cases r <;> exact fun h => nomatch h
theorem numW_ne {w : Str} {n : Nat} (h : numW w = some n) : w ≠ "end" ∧ w ≠ "keep" ∧ w ≠ "ever" ∧ w ≠ "again" := by
  refine ⟨?_, ?_, ?_, ?_⟩
  · rintro rfl; rw [show numW "end" = none by decide] at h; cases h
  · rintro rfl; rw [show numW "keep" = none by decide] at h; cases h
  · rintro rfl; rw [show numW "ever" = none by decide] at h; cases h
  · rintro rfl; rw [show numW "again" = none by decide] at h; cases h
theorem ln_pl {r : Rw} (hp : r.plain = true) : lnOf (Str.join " " (headW r)) = .row r.D := by
  obtain ⟨e, hn⟩ := frc_rw hp
  unfold lnOf
  rw [split_words (headW_ne r) (head_no r (by decide)), headW_pl hp]
  have nb := numW_ne hn
  unfold lnWd
  have hd : (r.word :: (frcR r).map numT).headD "" = r.word := rfl
  rw [hd]
  rw [if_neg (fun k => nb.1 (List.cons.inj k).1), if_neg (by
    rintro ((k | k) | k)
    · exact nb.2.1 (List.cons.inj k).1
    · exact nb.2.2.1 (List.cons.inj k).1
    · exact nb.2.2.2 k), hn]
  simp only []
  rw [if_neg (by rw [List.length_cons, List.length_map]; omega)]
  show (match mapO fracO ((frcR r).map numT) with
      | none => LnT.bad
      | some qs => .row (.tuple (.str r.word :: qs.map fr))) = _
  rw [mapO_of (h := fun q => q) frac_num, e]
  simp

def headD : Rw → List PyData
  | .again n _ => [.str "again", .int (n : Int)]
  | .keep _ => [.str "keep"]
  | .ever _ => [.str "ever"]
  | _ => []
theorem ln_bk {r : Rw} (hp : r.plain = false) : lnOf (Str.join " " (headW r)) = .opn (headD r) := by
  unfold lnOf
  rw [split_words (headW_ne r) (head_no r (by decide))]
  cases r with
  | again n rs =>
    show lnWd [("again" : Str), intT n] = _
    unfold lnWd
    rw [if_neg (fun h => by have := congrArg List.length h; cases this), if_pos (.inr rfl)]
    show (match mapO wholeO [intT n] with
      | none => LnT.bad
      | some ns => if ns.length = (if [("again" : Str), intT n].headD "" = "again" then 1 else 0) then .opn (.str ([("again" : Str), intT n].headD "") :: ns.map PyData.int) else .bad) = _
    rw [mapO, mapO, whole_int]
    rfl
  | keep rs =>
    show lnWd [("keep" : Str)] = _
    unfold lnWd
    rw [if_neg (by decide), if_pos (.inl (.inl rfl))]
    show (match mapO wholeO [] with
      | none => LnT.bad
      | some ns => if ns.length = (if [("keep" : Str)].headD "" = "again" then 1 else 0) then .opn (.str ([("keep" : Str)].headD "") :: ns.map PyData.int) else .bad) = _
    rw [mapO]
    simp only []
    rw [if_neg (show ¬ [("keep" : Str)].headD "" = "again" by decide)]
    rfl
  | ever rs =>
    show lnWd [("ever" : Str)] = _
    unfold lnWd
    rw [if_neg (by decide), if_pos (.inl (.inr rfl))]
    show (match mapO wholeO [] with
      | none => LnT.bad
      | some ns => if ns.length = (if [("ever" : Str)].headD "" = "again" then 1 else 0) then .opn (.str ([("ever" : Str)].headD "") :: ns.map PyData.int) else .bad) = _
    rw [mapO]
    simp only []
    rw [if_neg (show ¬ [("ever" : Str)].headD "" = "again" by decide)]
    rfl
  | _ => cases hp
theorem ln_end : lnOf "end" = .cls := by
  unfold lnOf
  have := split_words (ws := [("end" : Str)]) (fun h => nomatch h) (fun w hw => by rw [List.mem_singleton.mp hw]; decide)
  rw [show Str.join " " [("end" : Str)] = "end" from rfl] at this
  rw [this]
  unfold lnWd
  rw [if_pos rfl]
structure StT where
  hs : List (List PyData)
  rs : List (List PyData)
def stepT (s : StT) : LnT → Option StT
  | .row d => match s.rs.getLast? with
    | some cur => some ⟨s.hs, s.rs.dropLast ++ [cur ++ [d]]⟩
    | none => none
  | .opn h => some ⟨s.hs ++ [h], s.rs ++ [[]]⟩
  | .cls => match s.hs.getLast?, s.rs.getLast?, s.rs.dropLast.getLast? with
    | some h, some cur, some up => some ⟨s.hs.dropLast, s.rs.dropLast.dropLast ++ [up ++ [.tuple (h ++ [.tuple cur])]]⟩
    | _, _, _ => none
  | .bad => none
def runT (s : StT) : List Str → Option StT
  | [] => some s
  | z :: zs => match stepT s (lnOf z) with
    | some s' => runT s' zs
    | none => none
theorem runT_app : ∀ (s : StT) (as bs : List Str), runT s (as ++ bs) = (runT s as).bind fun s' => runT s' bs
  | s, [], bs => rfl
  | s, a :: as, bs => by
    rw [List.cons_append, runT, runT]
    cases stepT s (lnOf a) with
    | none => rfl
    | some s' => exact runT_app s' as bs
theorem step_row (hs up : List (List PyData)) (cur : List PyData) (d : PyData) : stepT ⟨hs, up ++ [cur]⟩ (.row d) = some ⟨hs, up ++ [cur ++ [d]]⟩ := by
  unfold stepT
  simp only [List.getLast?_append, List.getLast?_singleton, List.dropLast_concat]
  rfl
theorem step_cls (hs up : List (List PyData)) (h cur own : List PyData) : stepT ⟨hs ++ [h], up ++ [cur] ++ [own]⟩ .cls = some ⟨hs, up ++ [cur ++ [.tuple (h ++ [.tuple own])]]⟩ := by
  unfold stepT
  simp only [List.getLast?_append, List.getLast?_singleton, List.dropLast_concat]
  rfl
theorem run_ln1 {r : Rw} (hp : r.plain = true) (hs up : List (List PyData)) (cur : List PyData) : runT ⟨hs, up ++ [cur]⟩ r.lns = some ⟨hs, up ++ [cur ++ [r.D]]⟩ := by
  rw [lns_pl hp, runT, ln_pl hp, step_row]
  rfl
theorem head_D {r : Rw} (hp : r.plain = false) : r.D = .tuple (headD r ++ [.tuple (rowsD r.inner)]) := by cases r <;> first | rfl | cases hp
theorem run_blk {r : Rw} (hp : r.plain = false) (ih : ∀ hs up cur, runT ⟨hs, up ++ [cur]⟩ (lnsL r.inner) = some ⟨hs, up ++ [cur ++ rowsD r.inner]⟩) (hs up : List (List PyData)) (cur : List PyData) : runT ⟨hs, up ++ [cur]⟩ r.lns = some ⟨hs, up ++ [cur ++ [r.D]]⟩ := by
  rw [lns_bk hp, runT, ln_bk hp]
  show runT ⟨hs ++ [headD r], up ++ [cur] ++ [[]]⟩ (lnsL r.inner ++ [("end" : Str)]) = _
  rw [runT_app, ih]
  show runT _ [("end" : Str)] = _
  rw [runT, ln_end, List.nil_append, step_cls, head_D hp]
  rfl
mutual
theorem run_lns : ∀ (r : Rw) (hs up : List (List PyData)) (cur : List PyData), runT ⟨hs, up ++ [cur]⟩ r.lns = some ⟨hs, up ++ [cur ++ [r.D]]⟩
  | .again n rs, hs, up, cur => run_blk (r := .again n rs) rfl (fun hs up cur => run_lnsL rs hs up cur) hs up cur
  | .keep rs, hs, up, cur => run_blk (r := .keep rs) rfl (fun hs up cur => run_lnsL rs hs up cur) hs up cur
  | .ever rs, hs, up, cur => run_blk (r := .ever rs) rfl (fun hs up cur => run_lnsL rs hs up cur) hs up cur
  | .go x, hs, up, cur => run_ln1 rfl hs up cur
  | .skip x, hs, up, cur => run_ln1 rfl hs up cur
  | .side x y, hs, up, cur => run_ln1 rfl hs up cur
  | .dot, hs, up, cur => run_ln1 rfl hs up cur
  | .left, hs, up, cur => run_ln1 rfl hs up cur
  | .right, hs, up, cur => run_ln1 rfl hs up cur
  | .round, hs, up, cur => run_ln1 rfl hs up cur
  | .mirror, hs, up, cur => run_ln1 rfl hs up cur
  | .grow x, hs, up, cur => run_ln1 rfl hs up cur
  | .quarter x, hs, up, cur => run_ln1 rfl hs up cur
  | .half x, hs, up, cur => run_ln1 rfl hs up cur
  | .arc c p, hs, up, cur => run_ln1 rfl hs up cur
theorem run_lnsL : ∀ (rs : List Rw) (hs up : List (List PyData)) (cur : List PyData), runT ⟨hs, up ++ [cur]⟩ (lnsL rs) = some ⟨hs, up ++ [cur ++ rowsD rs]⟩
  | [], hs, up, cur => by rw [lnsL, runT, rowsD, List.append_nil]
  | r :: rs, hs, up, cur => by
    rw [lnsL, runT_app, run_lns r]
    show runT _ (lnsL rs) = _
    rw [run_lnsL rs, rowsD, List.append_assoc]
    rfl
end
theorem joinL_mem {S : List Nat} {c : Nat} : ∀ {ps : List (List Nat)}, c ∈ TL.joinL S ps → c ∈ S ∨ ∃ p ∈ ps, c ∈ p
  | [], h => nomatch h
  | [p], h => .inr ⟨p, List.mem_singleton.mpr rfl, h⟩
  | p :: q :: r, h => by
    have h : c ∈ p ++ (S ++ TL.joinL S (q :: r)) := h
    rcases List.mem_append.mp h with h | h
    · exact .inr ⟨p, List.mem_cons_self, h⟩
    · rcases List.mem_append.mp h with h | h
      · exact .inl h
      · rcases joinL_mem h with h | ⟨x, hx, h⟩
        · exact .inl h
        · exact .inr ⟨x, List.mem_cons_of_mem _ hx, h⟩
theorem join_no {y : Str} {ws : List Str} {c : Nat} (hy : c ∉ TL.tl y) (h : ∀ w ∈ ws, c ∉ TL.tl w) : c ∉ TL.tl (Str.join y ws) := fun hm => by
  rw [TL.tl_join] at hm
  rcases joinL_mem hm with k | ⟨p, hp, k⟩
  · exact hy k
  · obtain ⟨w, hw, rfl⟩ := List.mem_map.mp hp
    exact h w hw k
theorem joinL_len {S : List Nat} {n : Nat} : ∀ {ps : List (List Nat)}, (∀ p ∈ ps, p.length ≤ n) → (TL.joinL S ps).length ≤ ps.length * (n + S.length)
  | [], _ => Nat.zero_le _
  | [p], h => by
    have := h p (List.mem_singleton.mpr rfl)
    show p.length ≤ 1 * _
    omega
  | p :: q :: r, h => by
    have h1 := h p List.mem_cons_self
    have h2 := joinL_len (S := S) (ps := q :: r) fun x hx => h x (List.mem_cons_of_mem _ hx)
    show (p ++ (S ++ TL.joinL S (q :: r))).length ≤ _
    rw [List.length_append, List.length_append, List.length_cons, Nat.succ_mul]
    omega
theorem join_len {y : Str} {ws : List Str} {n : Nat} (h : ∀ w ∈ ws, w.length ≤ n) : (Str.join y ws).length ≤ ws.length * (n + y.length) := by
  rw [TL.len_tl, TL.tl_join, TL.len_tl y]
  have := joinL_len (S := TL.tl y) (n := n) (ps := ws.map TL.tl) fun p hp => by
    obtain ⟨w, hw, rfl⟩ := List.mem_map.mp hp
    rw [← TL.len_tl]
    exact h w hw
  rw [List.length_map] at this
  exact this
theorem fb_dec {q : Rat} (h : Fb 40 q) : (numT q).length ≤ 29 := num_len (k := 13) (by decide) (Nat.lt_trans h.1 (by decide)) (Nat.lt_trans h.2 (by decide))
theorem frc_fb {r : Rw} {L : Nat} (hg : r.good L) : (frcR r).length ≤ 4 ∧ ∀ q ∈ frcR r, Fb 40 q := by
  have nil : ∀ q ∈ ([] : List Rat), Fb 40 q := fun _ h => nomatch h
  have one : ∀ {x : Rat}, Co L x → ∀ q ∈ [x], Fb 40 q := fun h q hq => by rw [List.mem_singleton.mp hq]; exact h.1
  cases r with
  | go x => exact ⟨Nat.le_of_ble_eq_true rfl, one hg⟩
  | skip x => exact ⟨Nat.le_of_ble_eq_true rfl, one hg⟩
  | side x y =>
    rw [Rw.good] at hg
    refine ⟨Nat.le_of_ble_eq_true rfl, fun q hq => ?_⟩
    simp only [frcR, List.mem_cons, List.not_mem_nil, or_false] at hq
    rcases hq with rfl | rfl
    · exact hg.1.1
    · exact hg.2.1
  | grow s =>
    rw [Rw.good] at hg
    refine ⟨Nat.le_of_ble_eq_true rfl, fun q hq => ?_⟩
    rw [List.mem_singleton.mp hq]
    exact ⟨by omega, by omega⟩
  | quarter x => rw [Rw.good] at hg; exact ⟨Nat.le_of_ble_eq_true rfl, one hg.1⟩
  | half x => rw [Rw.good] at hg; exact ⟨Nat.le_of_ble_eq_true rfl, one hg.1⟩
  | arc c q =>
    rw [Rw.good] at hg
    refine ⟨Nat.le_of_ble_eq_true rfl, fun p hp => ?_⟩
    simp only [frcR, List.mem_cons, List.not_mem_nil, or_false] at hp
    rcases hp with rfl | rfl | rfl | rfl
    · exact hg.1.1
    · exact hg.1.2
    · exact hg.2.1.1.1
    · exact hg.2.1.2.1
  | _ => exact ⟨Nat.zero_le _, nil⟩
theorem word_len (r : Rw) : r.word.length ≤ 7 := by cases r <;> simp only [Rw.word] <;> decide
theorem head_len {r : Rw} {L : Nat} (hg : r.good L) : (headW r).length ≤ 5 ∧ ∀ w ∈ headW r, w.length ≤ 29 := by
  have pl : r.plain = true → (headW r).length ≤ 5 ∧ ∀ w ∈ headW r, w.length ≤ 29 := fun hp => by
    obtain ⟨h1, h2⟩ := frc_fb hg
    rw [headW_pl hp]
    refine ⟨by rw [List.length_cons, List.length_map]; omega, fun w hw => ?_⟩
    rcases List.mem_cons.mp hw with rfl | hw
    · have := word_len r
      omega
    · obtain ⟨q, hq, rfl⟩ := List.mem_map.mp hw
      exact fb_dec (h2 q hq)
  cases r with
  | again n rs =>
    rw [Rw.good] at hg
    refine ⟨Nat.le_of_ble_eq_true rfl, fun w hw => ?_⟩
    simp only [headW, List.mem_cons, List.not_mem_nil, or_false] at hw
    rcases hw with rfl | rfl
    · decide
    · have := int_len (i := (n : Int)) (k := 2) (by decide) (by omega)
      omega
  | keep rs => exact ⟨Nat.le_of_ble_eq_true rfl, fun w hw => by rw [List.mem_singleton.mp hw]; decide⟩
  | ever rs => exact ⟨Nat.le_of_ble_eq_true rfl, fun w hw => by rw [List.mem_singleton.mp hw]; decide⟩
  | _ => exact pl rfl
/-- a line as the text's reader wants it -/
structure LnOk (z : Str) : Prop where
  l : z.length ≤ 150
  n : 10 ∉ TL.tl z
theorem ln_head {r : Rw} {L : Nat} (hg : r.good L) : LnOk (Str.join " " (headW r)) := by
  obtain ⟨h1, h2⟩ := head_len hg
  refine ⟨?_, join_no (by decide) (head_no r (by decide))⟩
  have h3 := join_len (y := " ") h2
  have h4 : (headW r).length * (29 + (" " : Str).length) ≤ 5 * (29 + (" " : Str).length) := Nat.mul_le_mul_right _ h1
  have h5 : (" " : Str).length = 1 := by decide
  rw [h5] at h3 h4
  omega
theorem ln_endOk : LnOk "end" := ⟨by decide, by decide⟩
theorem lns_ok1 {L : Nat} {r : Rw} (hp : r.plain = true) (hg : r.good L) : r.lns.length ≤ 2 * r.size ∧ ∀ z ∈ r.lns, LnOk z := by
  have hs : r.size = 1 := by cases r <;> first | rfl | cases hp
  rw [lns_pl hp, hs]
  exact ⟨Nat.le_of_ble_eq_true rfl, fun z hz => by rw [List.mem_singleton.mp hz]; exact ln_head hg⟩
theorem lns_okB {L : Nat} {r : Rw} (hg : r.good L) (ih : (lnsL r.inner).length ≤ 2 * sizeL r.inner ∧ ∀ z ∈ lnsL r.inner, LnOk z) (hp : r.plain = false) : (Str.join " " (headW r) :: (lnsL r.inner ++ [("end" : Str)])).length ≤ 2 * r.size ∧ ∀ z ∈ Str.join " " (headW r) :: (lnsL r.inner ++ [("end" : Str)]), LnOk z := by
  have hs : r.size = 1 + sizeL r.inner := by cases r <;> first | rfl | cases hp
  rw [hs, List.length_cons, List.length_append]
  refine ⟨by have := ih.1; show _ + 1 + 1 ≤ _; omega, fun z hz => ?_⟩
  rcases List.mem_cons.mp hz with rfl | hz
  · exact ln_head hg
  · rcases List.mem_append.mp hz with hz | hz
    · exact ih.2 z hz
    · rw [List.mem_singleton.mp hz]; exact ln_endOk
mutual
theorem lns_ok {L : Nat} : ∀ (r : Rw), r.good L → r.lns.length ≤ 2 * r.size ∧ ∀ z ∈ r.lns, LnOk z
  | .again n rs, hg => by rw [lns_bk rfl]; exact lns_okB hg (by rw [Rw.good] at hg; exact lnsL_ok rs hg.2) rfl
  | .keep rs, hg => by rw [lns_bk rfl]; exact lns_okB hg (by rw [Rw.good] at hg; exact lnsL_ok rs hg) rfl
  | .ever rs, hg => by rw [lns_bk rfl]; exact lns_okB hg (by rw [Rw.good] at hg; exact lnsL_ok rs hg) rfl
  | .go x, hg => lns_ok1 rfl hg
  | .skip x, hg => lns_ok1 rfl hg
  | .side x y, hg => lns_ok1 rfl hg
  | .dot, hg => lns_ok1 rfl hg
  | .left, hg => lns_ok1 rfl hg
  | .right, hg => lns_ok1 rfl hg
  | .round, hg => lns_ok1 rfl hg
  | .mirror, hg => lns_ok1 rfl hg
  | .grow x, hg => lns_ok1 rfl hg
  | .quarter x, hg => lns_ok1 rfl hg
  | .half x, hg => lns_ok1 rfl hg
  | .arc c p, hg => lns_ok1 rfl hg
theorem lnsL_ok {L : Nat} : ∀ (rs : List Rw), goodL L rs → (lnsL rs).length ≤ 2 * sizeL rs ∧ ∀ z ∈ lnsL rs, LnOk z
  | [], _ => ⟨Nat.le_refl _, fun _ h => nomatch h⟩
  | r :: rs, hg => by
    rw [goodL] at hg
    obtain ⟨h1, h2⟩ := lns_ok r hg.1
    obtain ⟨h3, h4⟩ := lnsL_ok rs hg.2
    rw [lnsL, sizeL]
    refine ⟨by rw [List.length_append]; omega, fun z hz => ?_⟩
    rcases List.mem_append.mp hz with hz | hz
    · exact h2 z hz
    · exact h4 z hz
end
theorem tl_cut1 (z : Str) : TL.tl (L2.cutS z none (some 1)) = (TL.tl z).take 1 := by
  have h := TL.len_tl z
  show (z.cps.toList.drop (HT.sIx z.length 0 none)).take (HT.sIx z.length z.length (some 1) - HT.sIx z.length 0 none) = _
  have e1 : HT.sIx z.length 0 none = 0 := rfl
  have e2 : HT.sIx z.length z.length (some 1) = min 1 z.length := HT.sIx_nat _ _ 1
  rw [e1, e2, List.drop_zero, Nat.sub_zero]
  show (TL.tl z).take (min 1 z.length) = _
  rcases Nat.eq_zero_or_pos z.length with k | k
  · have : TL.tl z = [] := List.length_eq_zero_iff.mp (by omega)
    rw [this, List.take_nil, List.take_nil]
  · rw [Nat.min_eq_left k]
theorem tl_cut2 (z : Str) : TL.tl (L2.cutS z (some 1) none) = (TL.tl z).drop 1 := by
  have h := TL.len_tl z
  show (z.cps.toList.drop (HT.sIx z.length 0 (some 1))).take (HT.sIx z.length z.length none - HT.sIx z.length 0 (some 1)) = _
  have e1 : HT.sIx z.length 0 (some 1) = min 1 z.length := HT.sIx_nat _ _ 1
  have e2 : HT.sIx z.length z.length none = z.length := rfl
  rw [e1, e2]
  show ((TL.tl z).drop (min 1 z.length)).take (z.length - min 1 z.length) = _
  rcases Nat.eq_zero_or_pos z.length with k | k
  · have : TL.tl z = [] := List.length_eq_zero_iff.mp (by omega)
    rw [this, List.drop_nil, List.drop_nil, List.take_nil]
  · rw [Nat.min_eq_left k]
    exact List.take_of_length_le (by rw [List.length_drop]; omega)
theorem cut1_is (z : Str) : L2.cutS z none (some 1) = "-" ↔ (TL.tl z).take 1 = [45] := by
  constructor
  · intro h
    rw [← tl_cut1, h]
    decide
  · intro h
    exact tl_inj (by rw [tl_cut1, h]; decide)
theorem fig_in (c : Nat) : decide (c ∈ ("0123456789" : Str).cps.toList) = (decide (48 ≤ c) && decide (c ≤ 57)) := by
  have e : ("0123456789" : Str).cps.toList = [48, 49, 50, 51, 52, 53, 54, 55, 56, 57] := by decide
  rw [e, ← Bool.decide_and]
  exact decide_eq_decide.mpr (by simp only [List.mem_cons, List.not_mem_nil, or_false]; omega)
theorem dig_all {l : List Nat} (h : digB l = true) : NumText.AllDigits l := fun c hc => by
  unfold digB at h
  rw [List.all_eq_true] at h
  have := h c hc
  simp only [Bool.and_eq_true, decide_eq_true_eq] at this
  omega
/-- int(word) -/
theorem whole_text {z : Str} {i : Int} (h : wholeO z = some i) (hl : z.length ≤ 640) : PySem.intText? z = some i := by
  unfold wholeO at h
  split at h
  · cases h
  · rename_i k
    rw [not_or, not_or] at k
    obtain ⟨⟨k1, k2⟩, _⟩ := k
    have k2 : digB (figs (TL.tl z)) = true := by simpa using k2
    rw [Option.some.injEq] at h
    by_cases c : (TL.tl z).take 1 = [45]
    · rw [if_pos c] at h
      have e : figs (TL.tl z) = (TL.tl z).drop 1 := if_pos c
      rw [e] at h k1 k2
      have e2 : z.cps.toList = 45 :: (TL.tl z).drop 1 := by
        have := List.take_append_drop 1 (TL.tl z)
        rw [c] at this
        exact this.symm
      rw [← h]
      exact PySem.intText_neg e2 (dig_all k2) k1 (by omega)
    · rw [if_neg c] at h
      have e : figs (TL.tl z) = TL.tl z := if_neg c
      rw [e] at h k1 k2
      rw [← h]
      exact PySem.intText_digits (dig_all k2) k1 (by omega)
theorem figs_ex (z : Str) : ∃ y : Str, TL.tl y = figs (TL.tl z) ∧ y = (if (TL.tl z).take 1 = [45] then L2.cutS z (some 1) none else z) ∧ y.length ≤ z.length := by
  by_cases c : (TL.tl z).take 1 = [45]
  · refine ⟨_, ?_, rfl, ?_⟩
    · rw [if_pos c, tl_cut2]
      exact (if_pos c).symm
    · rw [if_pos c]
      exact L2.cutS_length z _ _
  · refine ⟨_, ?_, rfl, ?_⟩
    · rw [if_neg c]
      exact (if_neg c).symm
    · rw [if_neg c]
      exact Nat.le_refl _
theorem par_len {S : List Nat} : ∀ {l acc a b : List Nat}, TL.par S acc l = some (a, b) → a.length + b.length ≤ acc.length + l.length
  | [], acc, a, b, h => nomatch h
  | c :: r, acc, a, b, h => by
    rw [TL.par] at h
    split at h
    · cases h
      rw [List.length_drop]
      omega
    · have := par_len h
      rw [List.length_append, List.length_singleton] at this
      rw [List.length_cons]
      omega
theorem part_len (z : Str) : (Txt.partition z "/").1.length ≤ z.length ∧ (Txt.partition z "/").2.2.length ≤ z.length ∧ (Txt.partition z "/").2.1.length ≤ 1 := by
  rw [TL.partition_par z "/" (by decide)]
  cases e : TL.par (TL.tl "/") [] (TL.tl z) with
  | none => exact ⟨Nat.le_refl _, Nat.zero_le _, Nat.zero_le _⟩
  | some p =>
    obtain ⟨a, b⟩ := p
    have := par_len e
    have h := TL.len_tl z
    have h1 : (⟨a.toArray⟩ : Str).length = a.length := TL.len_tl _
    have h2 : (⟨b.toArray⟩ : Str).length = b.length := TL.len_tl _
    refine ⟨?_, ?_, Nat.le_of_ble_eq_true rfl⟩
    · show (⟨a.toArray⟩ : Str).length ≤ _
      rw [h1, h]
      simp only [List.length_nil, Nat.zero_add] at this
      omega
    · show (⟨b.toArray⟩ : Str).length ≤ _
      rw [h2, h]
      simp only [List.length_nil, Nat.zero_add] at this
      omega
theorem spl_ne (S : List Nat) : ∀ (l : List Nat) (k : Nat) (acc : List Nat), TL.spl S k acc l ≠ []
  | [], k, acc => by rw [TL.spl_nil]; exact fun h => nomatch h
  | c :: r, 0, acc => by
    rw [TL.spl]
    split
    · exact fun h => nomatch h
    · exact spl_ne S r 0 _
  | c :: r, k + 1, acc => by
    rw [TL.spl]
    exact spl_ne S r k _
theorem spl_lens {S : List Nat} : ∀ {l : List Nat} {k : Nat} {acc p : List Nat}, p ∈ TL.spl S k acc l → p.length ≤ acc.length + l.length
  | [], k, acc, p, h => by
    rw [TL.spl_nil] at h
    rw [List.mem_singleton.mp h]
    exact Nat.le_refl _
  | c :: r, 0, acc, p, h => by
    rw [TL.spl] at h
    split at h
    · rcases List.mem_cons.mp h with rfl | h
      · omega
      · have := spl_lens h
        rw [List.length_nil] at this
        rw [List.length_cons]
        omega
    · have := spl_lens h
      rw [List.length_append, List.length_singleton] at this
      rw [List.length_cons]
      omega
  | c :: r, k + 1, acc, p, h => by
    rw [TL.spl] at h
    have := spl_lens h
    rw [List.length_cons]
    omega
theorem spl_many {S : List Nat} : ∀ {l : List Nat} {k : Nat} {acc : List Nat}, (TL.spl S k acc l).length ≤ l.length + 1
  | [], k, acc => by rw [TL.spl_nil]; exact Nat.le_refl _
  | c :: r, 0, acc => by
    rw [TL.spl]
    split
    · have := spl_many (S := S) (l := r) (k := S.length - 1) (acc := [])
      rw [List.length_cons, List.length_cons]
      omega
    · have := spl_many (S := S) (l := r) (k := 0) (acc := acc ++ [c])
      rw [List.length_cons]
      omega
  | c :: r, k + 1, acc => by
    rw [TL.spl]
    have := spl_many (S := S) (l := r) (k := k) (acc := acc)
    rw [List.length_cons]
    omega
theorem split_facts (z : Str) {y : Str} (hy : TL.tl y ≠ []) (hk : y.cps.all (· < 256) = true) : Txt.split z y ≠ [] ∧ (∀ p ∈ Txt.split z y, p.length ≤ z.length) ∧ (Txt.split z y).length ≤ z.length + 1 := by
  have e := TL.split_spl z y hy (TL.kind_ok hk)
  have hl := TL.len_tl z
  refine ⟨fun h => ?_, fun p hp => ?_, ?_⟩
  · rw [h] at e
    exact spl_ne _ _ _ _ e.symm
  · have : TL.tl p ∈ TL.spl (TL.tl y) 0 [] (TL.tl z) := by rw [← e]; exact List.mem_map.mpr ⟨p, hp, rfl⟩
    have := spl_lens this
    rw [List.length_nil, Nat.zero_add] at this
    rw [TL.len_tl p, hl]
    exact this
  · have := spl_many (S := TL.tl y) (l := TL.tl z) (k := 0) (acc := [])
    rw [← e, List.length_map] at this
    rw [hl]
    exact this
theorem mapO_some {α β : Type} {f : α → Option β} : ∀ {as : List α} {bs : List β}, mapO f as = some bs → as.map f = bs.map some
  | [], bs, h => by cases h; rfl
  | a :: as, bs, h => by
    rw [mapO] at h
    cases e1 : f a with
    | none => rw [e1] at h; cases h
    | some b =>
      cases e2 : mapO f as with
      | none => rw [e1, e2] at h; cases h
      | some cs =>
        rw [e1, e2] at h
        cases h
        rw [List.map_cons, e1, mapO_some e2]
        rfl
theorem mapO_len {α β : Type} {f : α → Option β} {as : List α} {bs : List β} (h : mapO f as = some bs) : bs.length = as.length := by
  have := congrArg List.length (mapO_some h)
  rw [List.length_map, List.length_map] at this
  exact this.symm

def headN : Rw → List (PyData × Str)
  | .again n _ => [(.int (n : Int), intT n)]
  | .keep _ => []
  | .ever _ => []
  | r => (frcR r).map fun q => (fr q, numT q)
/-- a number that has its text -/
def NumOk (d : PyData) (t : Str) : Prop := (∃ i : Int, d = .int i ∧ i.natAbs.log2 < 1920 ∧ t = intT i) ∨ (∃ (q : Rat) (nb : Nat), d = fr q ∧ Fb nb q ∧ nb ≤ 300 ∧ t = numT q)
theorem log_lt {n k : Nat} (hk : 0 < k) (h : n < 2 ^ k) : n.log2 < k := by
  rcases Nat.eq_zero_or_pos n with rfl | z
  · rw [show Nat.log2 0 = 0 from by decide]; exact hk
  · exact (Nat.log2_lt (by omega)).mpr h
theorem headN_pl {r : Rw} (hp : r.plain = true) : headN r = (frcR r).map fun q => (fr q, numT q) := by cases r <;> first | rfl | cases hp
theorem head_is (r : Rw) : headW r = r.word :: (headN r).map (·.2) := by
  cases hp : r.plain with
  | true =>
    rw [headW_pl hp, headN_pl hp, List.map_map]
    rfl
  | false => cases r <;> first | rfl | cases hp
theorem headN_ok {r : Rw} {L : Nat} (hg : r.good L) : (∀ x ∈ headN r, NumOk x.1 x.2) ∧ (headN r).length ≤ 4 := by
  cases hp : r.plain with
  | true =>
    obtain ⟨h1, h2⟩ := frc_fb hg
    rw [headN_pl hp]
    refine ⟨fun x hx => ?_, by rw [List.length_map]; exact h1⟩
    obtain ⟨q, hq, rfl⟩ := List.mem_map.mp hx
    exact .inr ⟨q, 40, rfl, h2 q hq, by decide, rfl⟩
  | false =>
    cases r with
    | again n rs =>
      rw [Rw.good] at hg
      refine ⟨fun x hx => ?_, Nat.le_of_ble_eq_true rfl⟩
      rw [List.mem_singleton.mp hx]
      refine .inl ⟨(n : Int), rfl, log_lt (by decide) ?_, rfl⟩
      rw [Int.natAbs_natCast]
      exact Nat.lt_of_le_of_lt hg.1 (by decide)
    | keep rs => exact ⟨fun x hx => (nomatch hx), Nat.zero_le _⟩
    | ever rs => exact ⟨fun x hx => (nomatch hx), Nat.zero_le _⟩
    | _ => cases hp
theorem cut_one (x : PyData) (xs : List PyData) : cutL (x :: xs) (some 1) none = xs := by
  have e1 : HT.sIx (x :: xs).length 0 (some 1) = 1 := (HT.sIx_nat _ _ 1).trans (Nat.min_eq_left (by rw [List.length_cons]; omega))
  unfold cutL
  rw [e1]
  show List.take ((x :: xs).length - 1) xs = xs
  exact List.take_of_length_le (by rw [List.length_cons]; omega)
theorem sum_len {n : Nat} : ∀ {ws : List Str}, (∀ w ∈ ws, w.length ≤ n) → (ws.map (·.length)).sum ≤ ws.length * n
  | [], _ => Nat.zero_le _
  | w :: ws, h => by
    have h1 := h w List.mem_cons_self
    have h2 := sum_len (n := n) (ws := ws) fun x hx => h x (List.mem_cons_of_mem _ hx)
    rw [List.map_cons, List.sum_cons, List.length_cons, Nat.succ_mul]
    omega
/-- the lines of a row -/
theorem lns_is (r : Rw) : r.lns = Str.join " " (headW r) :: (if r.plain then [] else lnsL r.inner ++ [("end" : Str)]) := by
  cases hp : r.plain with
  | true => exact lns_pl hp
  | false => exact lns_bk hp
def Asc (z : Str) : Prop := ∀ c ∈ TL.tl z, c < 1114112
theorem asc_sh {z : Str} (h : Asc z) : SeqAt.shaped (.str z) = true := by
  have e : z.cps.all (· < 0x110000) = true := by
    rw [Array.all_eq_true_iff_forall_mem]
    intro x hx
    exact decide_eq_true (h x (Array.mem_toList_iff.mpr hx))
  unfold SeqAt.shaped
  rw [Bool.and_eq_true, decide_eq_true_eq]
  exact ⟨by rw [PyData.canLay0]; exact e, by rw [PyData.depth]; exact Nat.zero_le _⟩
theorem asc_of {z : Str} (h : ∀ c, 122 < c → c ∉ TL.tl z) : Asc z := fun c hc => by
  rcases Nat.lt_or_ge 122 c with k | k
  · exact absurd hc (h c k)
  · omega
theorem asc_cut {z : Str} (h : Asc z) (lo hi : Option Int) : Asc (L2.cutS z lo hi) := fun c hc => by
  have hc : c ∈ (z.cps.toList.drop (HT.sIx z.length 0 lo)).take (HT.sIx z.length z.length hi - HT.sIx z.length 0 lo) := hc
  exact h c (List.mem_of_mem_drop (List.mem_of_mem_take hc))
theorem par_mem {S : List Nat} {c : Nat} : ∀ {l acc a b : List Nat}, TL.par S acc l = some (a, b) → (c ∈ a ∨ c ∈ b) → c ∈ acc ∨ c ∈ l
  | [], acc, a, b, h, _ => nomatch h
  | x :: r, acc, a, b, h, hm => by
    rw [TL.par] at h
    split at h
    · cases h
      rcases hm with hm | hm
      · exact .inl hm
      · exact .inr (List.mem_of_mem_drop hm)
    · rcases par_mem h hm with k | k
      · rcases List.mem_append.mp k with k | k
        · exact .inl k
        · rw [List.mem_singleton.mp k]
          exact .inr List.mem_cons_self
      · exact .inr (List.mem_cons_of_mem _ k)
theorem asc_emp : Asc Str.empty := fun c hc => by cases hc
theorem asc_part {z : Str} (h : Asc z) : Asc (Txt.partition z "/").1 ∧ Asc (Txt.partition z "/").2.1 ∧ Asc (Txt.partition z "/").2.2 := by
  rw [TL.partition_par z "/" (by decide)]
  cases e : TL.par (TL.tl "/") [] (TL.tl z) with
  | none => exact ⟨h, asc_emp, asc_emp⟩
  | some p =>
    obtain ⟨a, b⟩ := p
    refine ⟨fun c hc => ?_, fun c hc => ?_, fun c hc => ?_⟩
    · rcases par_mem e (.inl hc) with k | k
      · cases k
      · exact h c k
    · have hc : c ∈ TL.tl ("/" : Str) := hc
      rw [show TL.tl ("/" : Str) = [47] by decide] at hc
      rw [List.mem_singleton.mp hc]
      decide
    · rcases par_mem e (.inr hc) with k | k
      · cases k
      · exact h c k
theorem spl_mem {S : List Nat} {c : Nat} : ∀ {l : List Nat} {k : Nat} {acc p : List Nat}, p ∈ TL.spl S k acc l → c ∈ p → c ∈ acc ∨ c ∈ l
  | [], k, acc, p, h, hc => by
    rw [TL.spl_nil] at h
    rw [List.mem_singleton.mp h] at hc
    exact .inl hc
  | x :: r, 0, acc, p, h, hc => by
    rw [TL.spl] at h
    split at h
    · rcases List.mem_cons.mp h with rfl | h
      · exact .inl hc
      · rcases spl_mem h hc with k | k
        · cases k
        · exact .inr (List.mem_cons_of_mem _ k)
    · rcases spl_mem h hc with k | k
      · rcases List.mem_append.mp k with k | k
        · exact .inl k
        · rw [List.mem_singleton.mp k]
          exact .inr List.mem_cons_self
      · exact .inr (List.mem_cons_of_mem _ k)
  | x :: r, k + 1, acc, p, h, hc => by
    rw [TL.spl] at h
    rcases spl_mem h hc with k | k
    · exact .inl k
    · exact .inr (List.mem_cons_of_mem _ k)
theorem asc_split {z y : Str} (h : Asc z) (hy : TL.tl y ≠ []) (hk : y.cps.all (· < 256) = true) : ∀ p ∈ Txt.split z y, Asc p := fun p hp c hc => by
  have e := TL.split_spl z y hy (TL.kind_ok hk)
  have : TL.tl p ∈ TL.spl (TL.tl y) 0 [] (TL.tl z) := by rw [← e]; exact List.mem_map.mpr ⟨p, hp, rfl⟩
  rcases spl_mem this hc with k | k
  · cases k
  · exact h c k
theorem head_noU (r : Rw) {c : Nat} (hc : 122 < c) : ∀ w ∈ headW r, c ∉ TL.tl w := by
  have kp : ∀ {x : Rw}, c ∉ TL.tl x.word := fun {x} => word_no x (by omega)
  have pl : ∀ {x : Rw} {qs : List Rat}, ∀ w ∈ x.word :: qs.map numT, c ∉ TL.tl w := fun {x qs} w hw => by
    rcases List.mem_cons.mp hw with rfl | hw
    · exact kp
    · obtain ⟨q, _, rfl⟩ := List.mem_map.mp hw
      exact num_no (by omega)
  cases r with
  | again n rs =>
    intro w hw
    simp only [headW, List.mem_cons, List.not_mem_nil, or_false] at hw
    rcases hw with rfl | rfl
    · exact kp (x := .again n rs)
    · exact int_no (by omega)
  | keep rs => exact fun w hw => by rw [List.mem_singleton.mp hw]; exact kp (x := .keep rs)
  | ever rs => exact fun w hw => by rw [List.mem_singleton.mp hw]; exact kp (x := .ever rs)
  | _ => exact pl
theorem ln_noU (r : Rw) {c : Nat} (hc : 122 < c) : c ∉ TL.tl (Str.join " " (headW r)) := join_no (by rw [show TL.tl (" " : Str) = [32] by decide]; intro h; have := List.mem_singleton.mp h; omega) (head_noU r hc)
theorem end_noU {c : Nat} (hc : 122 < c) : c ∉ TL.tl "end" := by
  rw [show TL.tl ("end" : Str) = [101, 110, 100] by decide]
  intro h
  simp only [List.mem_cons, List.not_mem_nil, or_false] at h
  omega
mutual
theorem lns_noU {c : Nat} (hc : 122 < c) : ∀ (r : Rw), ∀ z ∈ r.lns, c ∉ TL.tl z
  | .again n rs, z, hz => by
    rw [lns_bk rfl] at hz
    rcases List.mem_cons.mp hz with rfl | hz
    · exact ln_noU _ hc
    · rcases List.mem_append.mp hz with hz | hz
      · exact lnsL_noU hc rs z hz
      · rw [List.mem_singleton.mp hz]; exact end_noU hc
  | .keep rs, z, hz => by
    rw [lns_bk rfl] at hz
    rcases List.mem_cons.mp hz with rfl | hz
    · exact ln_noU _ hc
    · rcases List.mem_append.mp hz with hz | hz
      · exact lnsL_noU hc rs z hz
      · rw [List.mem_singleton.mp hz]; exact end_noU hc
  | .ever rs, z, hz => by
    rw [lns_bk rfl] at hz
    rcases List.mem_cons.mp hz with rfl | hz
    · exact ln_noU _ hc
    · rcases List.mem_append.mp hz with hz | hz
      · exact lnsL_noU hc rs z hz
      · rw [List.mem_singleton.mp hz]; exact end_noU hc
  | .go x, z, hz => by rw [lns_pl rfl] at hz; rw [List.mem_singleton.mp hz]; exact ln_noU _ hc
  | .skip x, z, hz => by rw [lns_pl rfl] at hz; rw [List.mem_singleton.mp hz]; exact ln_noU _ hc
  | .side x y, z, hz => by rw [lns_pl rfl] at hz; rw [List.mem_singleton.mp hz]; exact ln_noU _ hc
  | .dot, z, hz => by rw [lns_pl rfl] at hz; rw [List.mem_singleton.mp hz]; exact ln_noU _ hc
  | .left, z, hz => by rw [lns_pl rfl] at hz; rw [List.mem_singleton.mp hz]; exact ln_noU _ hc
  | .right, z, hz => by rw [lns_pl rfl] at hz; rw [List.mem_singleton.mp hz]; exact ln_noU _ hc
  | .round, z, hz => by rw [lns_pl rfl] at hz; rw [List.mem_singleton.mp hz]; exact ln_noU _ hc
  | .mirror, z, hz => by rw [lns_pl rfl] at hz; rw [List.mem_singleton.mp hz]; exact ln_noU _ hc
  | .grow x, z, hz => by rw [lns_pl rfl] at hz; rw [List.mem_singleton.mp hz]; exact ln_noU _ hc
  | .quarter x, z, hz => by rw [lns_pl rfl] at hz; rw [List.mem_singleton.mp hz]; exact ln_noU _ hc
  | .half x, z, hz => by rw [lns_pl rfl] at hz; rw [List.mem_singleton.mp hz]; exact ln_noU _ hc
  | .arc a b, z, hz => by rw [lns_pl rfl] at hz; rw [List.mem_singleton.mp hz]; exact ln_noU _ hc
theorem lnsL_noU {c : Nat} (hc : 122 < c) : ∀ (rs : List Rw), ∀ z ∈ lnsL rs, c ∉ TL.tl z
  | [], z, hz => nomatch hz
  | r :: rs, z, hz => by
    rw [lnsL] at hz
    rcases List.mem_append.mp hz with hz | hz
    · exact lns_noU hc r z hz
    · exact lnsL_noU hc rs z hz
end
theorem asc_lines (rs : List Rw) : ∀ z ∈ lnsL rs, Asc z := fun z hz => asc_of fun c hc => lnsL_noU hc rs z hz
def optI : Option Int → PyData
  | some i => .int i
  | none => .none
def optF : Option Rat → PyData
  | some q => fr q
  | none => .none

theorem b_prm {Y : Ct} {γ : List S} {M M' : MM} {sts : List Stmt} {P : Po} (l : M.Perm M') (h : BL Y sts γ M' P) : BL Y sts γ M P := ⟨PSs.imp h.ps fun D σ H ⟨F, r, q, ex⟩ => ⟨F, ⟨r.hm.perm l, r.sl⟩, q, ex⟩⟩
def HdOk (h : List PyData) : Prop := ∃ (w : Str) (ns : List Int), h = .str w :: ns.map PyData.int ∧ Asc w ∧ ns.length ≤ 1
theorem lay_asc {z : Str} (h : Asc z) : Lay 0 (.str z) := by
  have := asc_sh h
  unfold SeqAt.shaped at this
  rw [Bool.and_eq_true, decide_eq_true_eq] at this
  exact ⟨this.1, by rw [PyData.depth]; exact Nat.le_refl _⟩
theorem lay_hd {h : List PyData} (k : HdOk h) : Lay 1 (.tuple h) := by
  obtain ⟨w, ns, rfl, ha, _⟩ := k
  exact lay_tup (lay_cons (lay_asc ha) (lay_map fun i => lay_int i))
def rdF (qh qr : Addr) : List (Str × S) := [("heads", .ob qh), ("rows", .ob qr)]
def rdM (M0 : MM) (a C qh qr : Addr) (hs : List (List PyData)) (ql : Ql) : MM := M0 ++ [(a, MO.ins C (rdF qh qr)), (qh, .lst ((hs.map PyData.tuple).map S.d))] ++ llM qr ql
section
variable {M0 : MM} {a C qh qr q : Addr} {hs hs2 : List (List PyData)} {ql : Ql} {ds es : List PyData}
theorem rd_a : (rdM M0 a C qh qr hs ql)[M0.length]? = some (a, .ins C (rdF qh qr)) := by simp [rdM]
theorem rd_h : (rdM M0 a C qh qr hs ql)[M0.length + 1]? = some (qh, .lst ((hs.map PyData.tuple).map S.d)) := by simp [rdM]
theorem rd_r : (rdM M0 a C qh qr hs ql)[M0.length + 2]? = some (qr, .lst ql.obs) := by simp [rdM, llM]
theorem rd_last : (rdM M0 a C qh qr hs (ql ++ [(q, ds)]))[M0.length + 2 + (ql.length + 1)]? = some (q, .lst (ds.map S.d)) := by
  have := llM_last (B := M0 ++ [(a, MO.ins C (rdF qh qr)), (qh, .lst ((hs.map PyData.tuple).map S.d))]) (fo := qr) (q := q) (qs := ql) (ds := ds)
  rw [List.length_append] at this
  exact this
theorem rd_setlast : (rdM M0 a C qh qr hs (ql ++ [(q, ds)])).set (M0.length + 2 + (ql.length + 1)) (q, .lst (es.map S.d)) = rdM M0 a C qh qr hs (ql ++ [(q, es)]) := by
  have := llM_set (B := M0 ++ [(a, MO.ins C (rdF qh qr)), (qh, .lst ((hs.map PyData.tuple).map S.d))]) (fo := qr) (q := q) (qs := ql) (ds := ds) (es := es)
  rw [List.length_append] at this
  exact this
theorem rd_seth : (rdM M0 a C qh qr hs ql).set (M0.length + 1) (qh, .lst ((hs2.map PyData.tuple).map S.d)) = rdM M0 a C qh qr hs2 ql := by simp [rdM]
theorem rd_push : (rdM M0 a C qh qr hs ql ++ [(q, MO.lst [])]).set (M0.length + 2) (qr, .lst (ql.obs ++ [.ob q])) = rdM M0 a C qh qr hs (ql ++ [(q, [])]) := by simp [rdM, llM, Ql.obs]
theorem rd_pop : (rdM M0 a C qh qr hs (ql ++ [(q, ds)])).set (M0.length + 2) (qr, .lst ql.obs) = rdM M0 a C qh qr hs ql ++ [(q, .lst (ds.map S.d))] := by simp [rdM, llM, Ql.obs]
end
/-- how long the reader's lists are -/
structure RdOk (n : Nat) (hs : List (List PyData)) (ql : Ql) : Prop where
  e : ql.length = hs.length + 1
  h : ∀ h ∈ hs, HdOk h
  l : hs.length ≤ n
  b : ∀ q ∈ ql, q.2.length ≤ n
/-- what reading a line tells -/
structure RdO (R : S → MM → Prop) (M0 : MM) (a C qh qr : Addr) (n : Nat) (hs : List (List PyData)) (ql : Ql) (o : Option StT) : Prop where
  f : o = none → R (.d (.bool false)) (rdM M0 a C qh qr hs ql)
  t : ∀ (hs2 : List (List PyData)) (ql2 : Ql), o = some ⟨hs2, ql2.map (·.2)⟩ → RdOk (n + 1) hs2 ql2 → R (.d (.bool true)) (rdM M0 a C qh qr hs2 ql2)
theorem cls_none (rs : List (List PyData)) : stepT ⟨[], rs⟩ .cls = none := rfl
theorem cls_some (hs up : List (List PyData)) (h c o : List PyData) : stepT ⟨hs ++ [h], up ++ [c, o]⟩ .cls = some ⟨hs, up ++ [c ++ [.tuple (h ++ [.tuple o])]]⟩ := by
  have := step_cls hs up h c o
  rw [List.append_assoc] at this
  exact this
theorem rd_two {n : Nat} {hs : List (List PyData)} {h : List PyData} {ql : Ql} (k : RdOk n (hs ++ [h]) ql) : ∃ (up : Ql) (q1 : Addr) (c : List PyData) (q2 : Addr) (o : List PyData), ql = up ++ [(q1, c)] ++ [(q2, o)] ∧ up.length = hs.length := by
  have e := k.e
  rw [List.length_append, List.length_singleton] at e
  rcases List.eq_nil_or_concat ql with rfl | ⟨xs, y, rfl⟩
  · rw [List.length_nil] at e; omega
  · rcases List.eq_nil_or_concat xs with rfl | ⟨ys, x, rfl⟩
    · rw [List.concat_eq_append, List.length_append, List.length_singleton, List.length_nil] at e; omega
    · refine ⟨ys, x.1, x.2, y.1, y.2, by rw [List.concat_eq_append, List.concat_eq_append], ?_⟩
      rw [List.concat_eq_append, List.concat_eq_append, List.length_append, List.length_append, List.length_singleton, List.length_singleton] at e
      omega
theorem rd_one {n : Nat} {hs : List (List PyData)} {ql : Ql} (k : RdOk n hs ql) : ∃ (up : Ql) (q : Addr) (c : List PyData), ql = up ++ [(q, c)] ∧ up.length = hs.length := by
  have e := k.e
  rcases List.eq_nil_or_concat ql with rfl | ⟨xs, y, rfl⟩
  · rw [List.length_nil] at e; omega
  · refine ⟨xs, y.1, y.2, by rw [List.concat_eq_append], ?_⟩
    rw [List.concat_eq_append, List.length_append, List.length_singleton] at e
    omega
theorem eqv_one (ws : List Str) (y : Str) : PyData.eqv (.list (ws.map PyData.str)) (.list [.str y]) = decide (ws = [y]) := by
  match ws with
  | [] => rfl
  | [w] =>
    show (PyData.eqv (.str w) (.str y) && true) = _
    rw [Bool.and_true, eqv_str]
    exact decide_eq_decide.mpr ⟨fun h => by rw [h], fun h => (List.cons.inj h).1⟩
  | w :: w2 :: r =>
    show (PyData.eqv (.str w) (.str y) && false) = _
    rw [Bool.and_false]
    exact (decide_eq_false (p := w :: w2 :: r = [y]) fun h => by have := (List.cons.inj h).2; cases this).symm
theorem eqv_nilL (xs : List PyData) : PyData.eqv (.list xs) (.list []) = decide (xs = []) := by
  cases xs with
  | nil => rfl
  | cons x xs => exact (decide_eq_false fun h => nomatch h).symm
theorem cut_map1 (w : Str) (ws : List Str) : cutL ((w :: ws).map PyData.str) (some 1) none = ws.map PyData.str := cut_one _ _
theorem none_inI (ws : List Str) : ((ws.map fun w => optI (wholeO w)).any fun z => PyData.eqv z .none) = decide (mapO wholeO ws = none) := by
  induction ws with
  | nil => rfl
  | cons w ws ih =>
    rw [List.map_cons, List.any_cons, ih, mapO]
    cases wholeO w with
    | none => rfl
    | some i =>
      show (false || _) = _
      rw [Bool.false_or]
      cases mapO wholeO ws with
      | none => rfl
      | some is => rfl
theorem none_inF (ws : List Str) : ((ws.map fun w => optF (fracO w)).any fun z => PyData.eqv z .none) = decide (mapO fracO ws = none) := by
  induction ws with
  | nil => rfl
  | cons w ws ih =>
    rw [List.map_cons, List.any_cons, ih, mapO]
    cases fracO w with
    | none => rfl
    | some i =>
      show (false || _) = _
      rw [Bool.false_or]
      cases mapO fracO ws with
      | none => rfl
      | some is => rfl
theorem map_optI {ws : List Str} {ns : List Int} (h : mapO wholeO ws = some ns) : (ws.map fun w => optI (wholeO w)) = ns.map PyData.int := by
  have := congrArg (List.map optI) (mapO_some h)
  rw [List.map_map, List.map_map] at this
  exact this
theorem map_optF {ws : List Str} {qs : List Rat} (h : mapO fracO ws = some qs) : (ws.map fun w => optF (fracO w)) = qs.map fr := by
  have := congrArg (List.map optF) (mapO_some h)
  rw [List.map_map, List.map_map] at this
  exact this
theorem lay_optI (o : Option Int) : Lay 0 (optI o) := by
  cases o with
  | none => exact lay_none
  | some i => exact lay_int i
theorem lay_optF (o : Option Rat) : Lay 1 (optF o) := by
  cases o with
  | none => exact lay_none.mono (by decide)
  | some i => exact lay_fr i
/-- a line that opens a block -/
def opnW (ws : List Str) : LnT := match mapO wholeO ws.tail with
  | none => .bad
  | some ns => if ns.length = (if ws.headD "" = "again" then 1 else 0) then .opn (.str (ws.headD "") :: ns.map PyData.int) else .bad
def rowW (ws : List Str) : LnT := match numW (ws.headD "") with
  | none => .bad
  | some n => if ws.length ≠ 1 + n then .bad else match mapO fracO ws.tail with
    | none => .bad
    | some qs => .row (.tuple (.str (ws.headD "") :: qs.map fr))
theorem lnWd_end : lnWd [("end" : Str)] = .cls := if_pos rfl
theorem lnWd_opn {ws : List Str} (h1 : ws ≠ [("end" : Str)]) (h2 : (ws = [("keep" : Str)] ∨ ws = [("ever" : Str)]) ∨ ws.headD "" = "again") : lnWd ws = opnW ws := by
  unfold lnWd
  rw [if_neg h1, if_pos h2]
  rfl
theorem lnWd_row {ws : List Str} (h1 : ws ≠ [("end" : Str)]) (h2 : ¬ ((ws = [("keep" : Str)] ∨ ws = [("ever" : Str)]) ∨ ws.headD "" = "again")) : lnWd ws = rowW ws := by
  unfold lnWd
  rw [if_neg h1, if_neg h2]
  rfl
theorem step_opn (s : StT) (h : List PyData) : stepT s (.opn h) = some ⟨s.hs ++ [h], s.rs ++ [[]]⟩ := rfl
theorem vl_strs {M : MM} {ys : List Str} : VL M (.d (.list (ys.map PyData.str))) (ys.map fun y => S.d (.str y)) := by
  have h := VL.d (M := M) (xs := ys.map PyData.str)
  rw [List.map_map] at h
  exact h

theorem s_ifNQ {Y : Ct} {γ : List S} {M : MM} {c : Expr} {bA bB : List Stmt} {pos np : Pos} {P : Po} (hc : EQ Y c γ M fun s M1 => ∃ b, s = .d (.bool b) ∧ (b = false → BL Y bA γ M1 P) ∧ (b = true → BL Y bB γ M1 P))
    (he : ∀ whole, isTrue c Y.X.env whole = (do let v ← whole; standAt c.pos; holding [v] (truthy v)) := by intro _; rfl) : ST Y (.If (.UnaryOp .Not c np) bA bB pos) γ M P :=
  ⟨PS.imp (ps_if (pt_not (pt_val hc.pe he)) uS_ok uS_ok) fun D σ H ⟨F, r, q, ex⟩ => ⟨F, r, fun F1 v s M1 H1 e1 r1 v1 ⟨b, hs, h1, h2⟩ => by
    subst hs
    cases v1
    refine ⟨b, rfl, ?_⟩
    cases b with
    | false =>
      refine iteT ?_
      exact ⟨_, (h1 rfl).ps, F1, r1, q.mono e1, ex.mono e1⟩
    | true =>
      refine iteF ?_
      exact ⟨_, (h2 rfl).ps, F1, r1, q.mono e1, ex.mono e1⟩, ex⟩⟩
/-- the first line that is none, or the reader's state behind them all -/
def badT (s : StT) : List Str → Nat → Except Nat StT
  | [], _ => .ok s
  | z :: zs, i => match stepT s (lnOf z) with
    | some s' => badT s' zs (i + 1)
    | none => .error i
theorem badT_ok : ∀ {zs : List Str} {s s' : StT} {i : Nat}, runT s zs = some s' → badT s zs i = .ok s'
  | [], s, s', i, h => by cases h; rfl
  | z :: zs, s, s', i, h => by
    rw [runT] at h
    rw [badT]
    cases e : stepT s (lnOf z) with
    | none => rw [e] at h; cases h
    | some s2 => rw [e] at h; exact badT_ok h
theorem badT_err : ∀ {as bs : List Str} {z : Str} {s s' : StT} {i : Nat}, runT s as = some s' → stepT s' (lnOf z) = none → badT s (as ++ z :: bs) i = .error (i + as.length)
  | [], bs, z, s, s', i, h, k => by cases h; rw [List.nil_append, badT, k]; rfl
  | a :: as, bs, z, s, s', i, h, k => by
    rw [runT] at h
    rw [List.cons_append, badT]
    cases e : stepT s (lnOf a) with
    | none => rw [e] at h; cases h
    | some s2 =>
      rw [e] at h
      have := badT_err (bs := bs) (i := i + 1) h k
      rw [List.length_cons]
      show badT s2 (as ++ z :: bs) (i + 1) = _
      rw [this]
      congr 1
      omega
def begT : StT := ⟨[], [[]]⟩
theorem runT_take {s s1 s2 : StT} {zs : List Str} {i : Nat} {z : Str} (hz : zs[i]? = some z) (h : runT s (zs.take i) = some s1) (k : stepT s1 (lnOf z) = some s2) : runT s (zs.take (i + 1)) = some s2 := by
  rw [take_at hz, runT_app, h]
  show runT s1 [z] = _
  rw [runT, k]
  rfl
theorem badT_at {s s1 : StT} {zs : List Str} {i : Nat} {z : Str} (hz : zs[i]? = some z) (h : runT s (zs.take i) = some s1) (k : stepT s1 (lnOf z) = none) : badT s zs 0 = .error i := by
  have e : zs = zs.take i ++ z :: zs.drop (i + 1) := by
    obtain ⟨hi, rfl⟩ := List.getElem?_eq_some_iff.mp hz
    rw [← List.drop_eq_getElem_cons hi, List.take_append_drop]
  have hl : (zs.take i).length = i := by
    rw [List.length_take]
    have := (List.getElem?_eq_some_iff.mp hz).1
    omega
  have := badT_err (bs := zs.drop (i + 1)) (i := 0) h k
  rw [← e, hl, Nat.zero_add] at this
  exact this
theorem rdOk_beg (q : Addr) : RdOk 1 [] [(q, [])] := by
  refine ⟨rfl, (fun _ h => nomatch h), Nat.zero_le _, fun p hp => ?_⟩
  rw [List.mem_singleton.mp hp]
  exact Nat.zero_le _
/-- a program's text is empty where it has no row -/
theorem joinL_ne {S a : List Nat} {ps : List (List Nat)} (h : a ≠ []) : TL.joinL S (a :: ps) ≠ [] := by
  cases ps with
  | nil => exact h
  | cons b ps => exact fun k => h (List.append_eq_nil_iff.mp k).1
theorem word_ne (r : Rw) : TL.tl r.word ≠ [] := by cases r <;> (simp only [Rw.word]; decide)
theorem run_text (rs : List Rw) : runT begT (lnsL rs) = some ⟨[], [rowsD rs]⟩ := by
  have := run_lnsL rs [] [] []
  exact this
mutual
def Rw.s23 : Rw → Prop
  | .left => True
  | .right => True
  | .dot => True
  | .mirror => True
  | .keep rs => s23L rs
  | .again n rs => n ≤ 12 ∧ s23L rs
  | _ => False
def s23L : List Rw → Prop
  | [] => True
  | r :: rs => r.s23 ∧ s23L rs
end
theorem s23_mem : ∀ {rs : List Rw} {r : Rw}, s23L rs → r ∈ rs → r.s23
  | a :: as, r, h, hr => by
    rw [s23L] at h
    rcases List.mem_cons.mp hr with rfl | hr
    · exact h.1
    · exact s23_mem h.2 hr
theorem s23_app : ∀ {as bs : List Rw}, s23L as → s23L bs → s23L (as ++ bs)
  | [], _, _, k => k
  | a :: as, bs, h, k => by
    rw [s23L] at h
    rw [List.cons_append, s23L]
    exact ⟨h.1, s23_app h.2 k⟩
theorem s23_rep (r : Rw) (h : r.s23) : ∀ n : Nat, s23L (List.replicate n r)
  | 0 => by rw [List.replicate_zero, s23L]; trivial
  | n + 1 => by rw [List.replicate_succ, s23L]; exact ⟨h, s23_rep r h n⟩
theorem s23_inner {r : Rw} (h : r.s23) : s23L r.inner := by
  cases r with
  | keep rs => rw [Rw.s23] at h; exact h
  | again n rs => rw [Rw.s23] at h; exact h.2
  | ever rs => exact h.elim
  | _ => exact trivial
mutual
theorem s23_good : ∀ r : Rw, r.s23 → r.good 1
  | .left, _ => by rw [Rw.good]; trivial
  | .right, _ => by rw [Rw.good]; trivial
  | .dot, _ => by rw [Rw.good]; trivial
  | .mirror, _ => by rw [Rw.good]; trivial
  | .keep rs, h => by
    rw [Rw.s23] at h
    rw [Rw.good]
    exact s23L_good rs h
  | .again n rs, h => by
    rw [Rw.s23] at h
    rw [Rw.good]
    exact ⟨h.1, s23L_good rs h.2⟩
  | .ever _, h => h.elim
  | .go _, h => h.elim
  | .skip _, h => h.elim
  | .side _ _, h => h.elim
  | .round, h => h.elim
  | .grow _, h => h.elim
  | .quarter _, h => h.elim
  | .half _, h => h.elim
  | .arc _ _, h => h.elim
theorem s23L_good : ∀ rs : List Rw, s23L rs → goodL 1 rs
  | [], _ => trivial
  | r :: rs, h => by
    rw [s23L] at h
    rw [goodL]
    exact ⟨s23_good r h.1, s23L_good rs h.2⟩
end
mutual
theorem s23_eo : ∀ r : Rw, r.s23 → eoR 0 r
  | .left, _ => trivial
  | .right, _ => trivial
  | .dot, _ => trivial
  | .mirror, _ => trivial
  | .keep rs, h => by
    rw [Rw.s23] at h
    rw [eoR]
    exact s23L_eo rs h
  | .again n rs, h => by
    rw [Rw.s23] at h
    rw [eoR]
    exact s23L_eo rs h.2
  | .ever _, h => h.elim
  | .go _, h => h.elim
  | .skip _, h => h.elim
  | .side _ _, h => h.elim
  | .round, h => h.elim
  | .grow _, h => h.elim
  | .quarter _, h => h.elim
  | .half _, h => h.elim
  | .arc _ _, h => h.elim
theorem s23L_eo : ∀ rs : List Rw, s23L rs → eoL 0 rs
  | [], _ => by rw [eoL]; trivial
  | r :: rs, h => by
    rw [s23L] at h
    rw [eoL]
    exact ⟨s23_eo r h.1, s23L_eo rs h.2⟩
end
mutual
theorem s23_look : ∀ (r : Rw), r.s23 → ∀ (h d : Nat), r.deep + d ≤ 4 → lookR r h d false = .ok (h + r.lines)
  | .left, _, h, d, _ => look_plain rfl h d false
  | .right, _, h, d, _ => look_plain rfl h d false
  | .dot, _, h, d, _ => look_plain rfl h d false
  | .mirror, _, h, d, _ => look_plain rfl h d false
  | .keep rs, hs, h, d, hd => by
    rw [Rw.s23] at hs
    rw [Rw.deep] at hd
    have e := s23L_look rs hs (h + 1) (d + 1) (by omega)
    rw [look_blk rfl, isE_keep, Bool.or_false]
    show Pl.stepK false rs h d false (lookL rs (h + 1) (d + 1) false) = _
    rw [e]
    unfold Pl.stepK
    rw [if_neg (by rw [Bool.and_false, Bool.or_false, decide_eq_true_eq]; omega)]
    simp only []
    rw [Bool.false_and, if_neg (by decide), Rw.lines]
    congr 1
    omega
  | .again n rs, hs, h, d, hd => by
    rw [Rw.s23] at hs
    rw [Rw.deep] at hd
    have e := s23L_look rs hs.2 (h + 1) (d + 1) (by omega)
    rw [look_blk rfl, isE_again, Bool.or_false]
    show Pl.stepK false rs h d false (lookL rs (h + 1) (d + 1) false) = _
    rw [e]
    unfold Pl.stepK
    rw [if_neg (by rw [Bool.and_false, Bool.or_false, decide_eq_true_eq]; omega)]
    simp only []
    rw [Bool.false_and, if_neg (by decide), Rw.lines]
    congr 1
    omega
  | .ever _, hs, _, _, _ => hs.elim
  | .go _, hs, _, _, _ => hs.elim
  | .skip _, hs, _, _, _ => hs.elim
  | .side _ _, hs, _, _, _ => hs.elim
  | .round, hs, _, _, _ => hs.elim
  | .grow _, hs, _, _, _ => hs.elim
  | .quarter _, hs, _, _, _ => hs.elim
  | .half _, hs, _, _, _ => hs.elim
  | .arc _ _, hs, _, _, _ => hs.elim
theorem s23L_look : ∀ (rs : List Rw), s23L rs → ∀ (h d : Nat), deepL rs + d ≤ 4 → lookL rs h d false = .ok (h + linesL rs)
  | [], _, h, d, _ => by rw [lookL, linesL]; rfl
  | r :: rs, hs, h, d, hd => by
    rw [s23L] at hs
    rw [deepL] at hd
    rw [lookL, s23_look r hs.1 h d (by omega)]
    show lookL rs (h + r.lines) d false = _
    rw [s23L_look rs hs.2 _ d (by omega), linesL]
    congr 1
    omega
end
theorem s23_ever {r : Rw} (h : r.s23) : r.isW "ever" = false := by
  cases r <;> first | (exact h.elim) | (simp only [Rw.isW, Rw.word]; decide +kernel)
theorem ka_any (r : Rw) : ([PyData.str "keep", .str "again"].any fun z => PyData.eqv z (.str r.word)) = (!r.plain && !r.isW "ever") := by
  cases r <;> simp only [Rw.word, Rw.isW, Rw.plain] <;> decide +kernel
theorem ka_s23 {r : Rw} (h : r.s23) : ([PyData.str "keep", .str "again"].any fun z => PyData.eqv z (.str r.word)) = !r.plain := by
  rw [ka_any, s23_ever h]
  exact Bool.and_true _
/-- the rows, and an odd one behind them -/
def forthD : PyData := .tuple [.str "forth"]
def oddT (o : Bool) : List PyData := if o then [forthD] else []
def oddL (o : Bool) : List Str := if o then [("forth" : Str)] else []
theorem odd_at {rs : List Rw} {o : Bool} {i : Nat} {x : S} (h : ((rowsD rs ++ oddT o).map S.d)[i]? = some x) : (∃ r, rs[i]? = some r ∧ x = .d r.D) ∨ (o = true ∧ i = rs.length ∧ x = .d forthD) := by
  rw [List.getElem?_map] at h
  obtain ⟨d, hd, rfl⟩ := Option.map_eq_some_iff.mp h
  by_cases k : i < rs.length
  · rw [List.getElem?_append_left (by rw [rowsD_len]; exact k), rowsD_map, List.getElem?_map] at hd
    obtain ⟨r, hr, rfl⟩ := Option.map_eq_some_iff.mp hd
    exact .inl ⟨r, hr, rfl⟩
  · rw [List.getElem?_append_right (by rw [rowsD_len]; omega), rowsD_len] at hd
    cases o with
    | false => cases hd
    | true =>
      have hd : [forthD][i - rs.length]? = some d := hd
      have hi : i - rs.length = 0 := by
        have := (List.getElem?_eq_some_iff.mp hd).1
        have e : [forthD].length = 1 := rfl
        omega
      rw [hi] at hd
      cases hd
      exact .inr ⟨rfl, by omega, rfl⟩
theorem join_one (w : Str) : Str.join " " [w] = w := tl_inj (by rw [TL.tl_join]; rfl)
theorem s23_plain {r : Rw} (h : r.s23) (hp : r.plain = true) : r.lns = [r.word] ∧ r.D = .tuple [.str r.word] := by
  rw [lns_pl hp]
  cases r with
  | left => exact ⟨congrArg (fun z => [z]) (join_one _), rfl⟩
  | right => exact ⟨congrArg (fun z => [z]) (join_one _), rfl⟩
  | dot => exact ⟨congrArg (fun z => [z]) (join_one _), rfl⟩
  | mirror => exact ⟨congrArg (fun z => [z]) (join_one _), rfl⟩
  | keep _ => cases hp
  | again _ _ => cases hp
  | ever _ => cases hp
  | _ => exact h.elim
theorem blk_cut1 {r : Rw} (hp : r.plain = false) : ∃ ds, r.D = .tuple ds ∧ cutL ds none (some (-1)) = .str r.word :: (headN r).map (·.1) := by
  cases r <;> first | (cases hp; done) | exact ⟨_, rfl, rfl⟩
theorem three23 {j : Int} (h0 : 0 ≤ j) (h1 : j < 3) : ∃ r : Rw, r.s23 ∧ r.plain = true ∧ r.D = .tuple [.str r.word] ∧ itD (.list [.str "left", .str "dot", .str "mirror"]) j = some (.str r.word) := by
  rcases (show j = 0 ∨ j = 1 ∨ j = 2 by omega) with h | h | h <;> subst h
  · exact ⟨.left, trivial, rfl, rfl, rfl⟩
  · exact ⟨.dot, trivial, rfl, rfl, rfl⟩
  · exact ⟨.mirror, trivial, rfl, rfl, rfl⟩
/-- a block by its head -/
structure Blk23 (d : PyData) (mk : List Rw → Rw) : Prop where
  ex : ∃ hd : List PyData, d = .tuple hd ∧ hd.length ≤ 2 ∧ ∀ rs, (mk rs).D = .tuple (hd ++ [.tuple (rowsD rs)])
  s : ∀ rs, s23L rs → (mk rs).s23
  z : ∀ rs, (mk rs).size = 1 + sizeL rs
  p : ∀ rs, (mk rs).deep = 1 + deepL rs
theorem blk23 {j x : Int} (h0 : 0 ≤ j) (h1 : j < 3) (x0 : 0 ≤ x) (x1 : x < 2) : ∃ (d : PyData) (mk : List Rw → Rw), Blk23 d mk ∧ itD (.list [.tuple [.str "keep"], .tuple [.str "again", .int x], .tuple [.str "keep"]]) j = some d := by
  have k : Blk23 (.tuple [.str "keep"]) Rw.keep := ⟨⟨_, rfl, by decide, fun rs => rfl⟩, fun rs h => by rw [Rw.s23]; exact h, fun rs => by rw [Rw.size], fun rs => by rw [Rw.deep]⟩
  rcases (show j = 0 ∨ j = 1 ∨ j = 2 by omega) with h | h | h <;> subst h
  · exact ⟨_, _, k, rfl⟩
  · obtain ⟨n, rfl⟩ : ∃ n : Nat, x = (n : Int) := ⟨x.toNat, by omega⟩
    exact ⟨_, Rw.again n, ⟨⟨_, rfl, Nat.le_of_ble_eq_true rfl, fun rs => rfl⟩, fun rs h => by rw [Rw.s23]; exact ⟨by omega, h⟩, fun rs => by rw [Rw.size], fun rs => by rw [Rw.deep]⟩, rfl⟩
  · exact ⟨_, _, k, rfl⟩
theorem rights_D (n : Nat) : ((List.range n).map fun _ => Rw.right.D) = rowsD (List.replicate n .right) := by
  rw [rowsD_map, List.map_replicate]
  exact List.ext_getElem (by simp) (by simp)
theorem rights_nums (n : Nat) : sizeL (List.replicate n Rw.right) = n ∧ deepL (List.replicate n Rw.right) = 0 := by
  induction n with
  | zero => exact ⟨rfl, rfl⟩
  | succ n ih =>
    rw [List.replicate_succ, sizeL, deepL, ih.1, ih.2]
    exact ⟨by show 1 + n = n + 1; omega, rfl⟩
theorem look_part {rs : List Rw} {n d : Nat} {w : Bool} : ∀ {m : Nat}, lookL rs n d w = .ok m → ∀ i, ∃ m2, lookL (rs.take i) n d w = .ok m2 := by
  intro m h i
  rw [← List.take_append_drop i rs] at h
  cases e : lookL (rs.take i) n d w with
  | ok m2 => exact ⟨m2, rfl⟩
  | error j =>
    exfalso
    have go : ∀ (as bs : List Rw) (n : Nat), lookL as n d w = .error j → lookL (as ++ bs) n d w = .error j := by
      intro as
      induction as with
      | nil => intro bs n h; rw [lookL] at h; cases h
      | cons a as ih =>
        intro bs n h
        rw [lookL] at h
        rw [List.cons_append, lookL]
        cases e2 : lookR a n d w with
        | error j2 => rw [e2] at h; exact h
        | ok m2 => rw [e2] at h; exact ih bs m2 h
    rw [go _ _ _ e] at h
    cases h

mutual
theorem lns_len : ∀ r : Rw, r.lns.length = r.lines
  | .again n rs => by rw [lns_bk rfl, Rw.lines, List.length_cons, List.length_append]; show (lnsL rs).length + 1 + 1 = _; rw [lnsL_len rs]; omega
  | .keep rs => by rw [lns_bk rfl, Rw.lines, List.length_cons, List.length_append]; show (lnsL rs).length + 1 + 1 = _; rw [lnsL_len rs]; omega
  | .ever rs => by rw [lns_bk rfl, Rw.lines, List.length_cons, List.length_append]; show (lnsL rs).length + 1 + 1 = _; rw [lnsL_len rs]; omega
  | .go _ => rfl
  | .skip _ => rfl
  | .side _ _ => rfl
  | .dot => rfl
  | .left => rfl
  | .right => rfl
  | .round => rfl
  | .mirror => rfl
  | .grow _ => rfl
  | .quarter _ => rfl
  | .half _ => rfl
  | .arc _ _ => rfl
theorem lnsL_len : ∀ rs : List Rw, (lnsL rs).length = linesL rs
  | [] => rfl
  | r :: rs => by rw [lnsL, linesL, List.length_append, lns_len r, lnsL_len rs]
end
theorem ln_forth : lnOf "forth" = .bad := by
  have := split_words (ws := [("forth" : Str)]) (fun h => nomatch h) (fun w hw => by rw [List.mem_singleton.mp hw]; decide)
  rw [show Str.join " " [("forth" : Str)] = "forth" from rfl] at this
  unfold lnOf
  rw [this]
  unfold lnWd
  rw [if_neg (by decide), if_neg (by decide)]
  rw [show numW (([("forth" : Str)] : List Str).headD "") = none by decide]
theorem bad_forth (rs : List Rw) : badT begT (lnsL rs ++ [("forth" : Str)]) 0 = .error (linesL rs) := by
  have h := badT_err (bs := []) (i := 0) (run_text rs) (z := "forth") (by rw [ln_forth]; rfl)
  rw [h, lnsL_len, Nat.zero_add]

theorem join_split {ws : List Str} (hne : ws ≠ []) (h : ∀ z ∈ ws, LnOk z) : Txt.split (Str.join "\n" ws) "\n" = ws := by
  have := TL.split_join (y := "\n") (s := 10) (S := []) (by decide) (by decide +kernel) hne fun p hp => (h p hp).n
  rw [TL.join_eq] at this
  exact this
theorem join_asc {ws : List Str} (h : ∀ z ∈ ws, Asc z) : Asc (Str.join "\n" ws) := fun c hc => by
  rw [TL.tl_join] at hc
  rcases joinL_mem hc with k | ⟨p, hp, k⟩
  · rw [show TL.tl ("\n" : Str) = [10] by decide] at k
    have := List.mem_singleton.mp k
    omega
  · obtain ⟨w, hw, rfl⟩ := List.mem_map.mp hp
    exact h w hw c k
structure Q23 (rs : List Rw) : Prop where
  s : s23L rs
  d : deepL rs ≤ 4
  z : sizeL rs ≤ 100
  ne : rs ≠ []
theorem Q23.prg {rs : List Rw} (h : Q23 rs) : Prg 1 8 rs := ⟨s23L_good rs h.s, Nat.le_trans h.d (by decide), Nat.le_trans h.z (by decide)⟩
theorem Q23.mv : Mv 1 0 0 := ⟨by decide, by decide, by decide, by decide⟩
theorem Q23.eo {rs : List Rw} (h : Q23 rs) : eoL 0 rs := s23L_eo rs h.s
theorem Q23.look {rs : List Rw} (h : Q23 rs) : lookL rs 0 0 false = .ok (linesL rs) := by
  rw [s23L_look rs h.s 0 0 (by have := h.d; omega), Nat.zero_add]
def told23 (rs : List Rw) (o by_ : Bool) : PyData := if o then .tuple [.str (if by_ then "line" else "row"), .int ((linesL rs : Nat) : Int)] else if 60 < sizeL rs then .str "much" else .list [.tuple (rowsD rs)]
def lines23 (rs : List Rw) (o : Bool) : List Str := lnsL rs ++ oddL o
theorem lines23_ok {rs : List Rw} (h : Q23 rs) (o : Bool) : (∀ z ∈ lines23 rs o, LnOk z ∧ Asc z) ∧ (lines23 rs o).length ≤ 201 ∧ lines23 rs o ≠ [] := by
  obtain ⟨h1, h2⟩ := lnsL_ok rs h.prg.g
  have hz := h.z
  have hn : lnsL rs ≠ [] := by
    intro e
    have e1 := lnsL_len rs
    rw [e] at e1
    cases rs with
    | nil => exact h.ne rfl
    | cons r rs =>
      rw [linesL, ← lns_len r, List.length_nil] at e1
      have : r.lns ≠ [] := by
        cases hp : r.plain with
        | true => rw [lns_pl hp]; exact fun h => nomatch h
        | false => rw [lns_bk hp]; exact fun h => nomatch h
      have := List.length_pos_iff.mpr this
      omega
  refine ⟨fun z hz => ?_, ?_, fun e => hn (List.append_eq_nil_iff.mp e).1⟩
  · rcases List.mem_append.mp hz with hz | hz
    · exact ⟨h2 z hz, asc_lines rs z hz⟩
    · cases o with
      | false => cases hz
      | true =>
        rw [List.mem_singleton.mp hz]
        exact ⟨⟨by decide, by decide⟩, fun c hc => by
          have : c ∈ [102, 111, 114, 116, 104] := hc
          simp only [List.mem_cons, List.not_mem_nil, or_false] at this
          omega⟩
  · unfold lines23
    rw [List.length_append]
    have : (oddL o).length ≤ 1 := by cases o <;> decide
    omega
theorem join23_ne {rs : List Rw} {o : Bool} (h : rs ≠ []) : Str.join "\n" (lines23 rs o) ≠ "" := fun k => by
  have k := congrArg TL.tl k
  unfold lines23 at k
  rw [TL.tl_join] at k
  cases rs with
  | nil => exact h rfl
  | cons r rs =>
    rw [lnsL, lns_is r, List.cons_append, List.cons_append, List.map_cons] at k
    refine joinL_ne ?_ k
    rw [TL.tl_join, head_is r, List.map_cons]
    exact joinL_ne (word_ne r)
theorem told23_le {rs : List Rw} (h : sizeL rs ≤ 60) (b : Bool) : told23 rs false b = .list [.tuple (rowsD rs)] := by
  unfold told23
  rw [if_neg (by decide), if_neg (by omega)]
theorem told23_gt {rs : List Rw} (h : 60 < sizeL rs) (b : Bool) : told23 rs false b = .str "much" := by
  unfold told23
  rw [if_neg (by decide), if_pos h]
theorem told23_odd (rs : List Rw) (b : Bool) : told23 rs true b = .tuple [.str (if b then "line" else "row"), .int ((linesL rs : Nat) : Int)] := by
  unfold told23
  rw [if_pos rfl]
theorem told23_lay {rs : List Rw} (h : Q23 rs) (o b : Bool) : Lay 13 (told23 rs o b) := by
  unfold told23
  split
  · refine (lay_tup (lay_cons (n := 0) ?_ (lay_cons (lay_int _) lay_nil))).mono (by decide)
    cases b with
    | true => exact lay_str (by decide +kernel)
    | false => exact lay_str (by decide +kernel)
  · split
    · exact (lay_str (by decide +kernel)).mono (by decide)
    · exact (lay_list (lay_cons (lay_rows rs 4 h.d) lay_nil)).mono (by decide)
theorem told23_at (rs : List Rw) {n : Nat} (h : sizeL rs = n) : itD (.list [.list [.tuple (rowsD rs)], .str "much"]) (if decide ((60 : Int) < (n : Int)) then 1 else 0) = some (told23 rs false false) := by
  by_cases k : 60 < n
  · rw [told23_gt (by omega), decide_eq_true (by omega)]
    rfl
  · rw [told23_le (by omega), decide_eq_false (by omega)]
    rfl
theorem repsN_D (r : Rw) (n : Nat) : ((List.range n).map fun _ => r.D) = rowsD (List.replicate n r) := by
  rw [rowsD_map, List.map_replicate]
  exact List.ext_getElem (by simp) (by simp)
theorem repsN_nums {r : Rw} (h1 : r.size = 1) (h2 : r.deep = 0) (n : Nat) : sizeL (List.replicate n r) = n ∧ deepL (List.replicate n r) = 0 := by
  induction n with
  | zero => exact ⟨rfl, rfl⟩
  | succ n ih =>
    rw [List.replicate_succ, sizeL, deepL, ih.1, ih.2, h1, h2]
    exact ⟨by omega, rfl⟩
theorem Q23.of {rs : List Rw} {n : Nat} (h : s23L rs) (hz : sizeL rs = n) (h0 : 0 < n) (hn : n ≤ 100) (hd : deepL rs ≤ 4) : Q23 rs := ⟨h, hd, by omega, fun e => by
  rw [e] at hz
  have : sizeL [] = 0 := rfl
  omega⟩

mutual
def Rw.a4 : Rw → Prop
  | .again n rs => n ≤ 4 ∧ a4L rs
  | .keep rs => a4L rs
  | .ever rs => a4L rs
  | _ => True
def a4L : List Rw → Prop
  | [] => True
  | r :: rs => r.a4 ∧ a4L rs
end
inductive I26 where
  | row (r : Rw)
  | opn (r : Rw)
  | fin
  | bad (z : Str)
def I26.ln : I26 → Str
  | .row r => Str.join " " (headW r)
  | .opn r => Str.join " " (headW r)
  | .fin => "end"
  | .bad z => z
def I26.n : I26 → Nat
  | .row _ => 1
  | .opn _ => 1
  | _ => 0
structure BadL (z : Str) : Prop where
  b : lnOf z = .bad
  l : LnOk z
  a : Asc z
  ne : z ≠ "end"
def I26.ok (L : Nat) : I26 → Prop
  | .row r => r.plain = true ∧ r.good L
  | .opn r => r.plain = false ∧ r.a4 ∧ r.good L
  | .fin => True
  | .bad z => BadL z
/-- the lines of open blocks -/
def lno : List Rw → List (List Rw) → List Rw → List Str
  | b :: bs, g :: up, cur => lnsL g ++ Str.join " " (headW b) :: lno bs up cur
  | _, _, cur => lnsL cur
/-- heads less ends -/
def opL (z : Str) : Int := (if ["again", "keep", "ever"].any (fun x => decide ((x : Str) = (Txt.split z " ").headD "")) then 1 else 0) - (if z = "end" then 1 else 0)
def opN (zs : List Str) : Int := (zs.map opL).sum
/-- what the lines so far have built: open blocks, with the rows ahead of them -/
structure Rep (L n : Nat) (zs : List Str) (s : StT) : Prop where
  ex : ∃ (bs : List Rw) (up : List (List Rw)) (cur : List Rw), bs.length = up.length ∧ s = ⟨bs.map headD, (up ++ [cur]).map rowsD⟩ ∧ zs = lno bs up cur ∧ (∀ b ∈ bs, b.plain = false ∧ b.a4) ∧
    (∀ g ∈ up ++ [cur], goodL L g ∧ a4L g) ∧ bs.length + ((up ++ [cur]).map sizeL).sum ≤ n ∧ opN zs = (bs.length : Int)
end
end Pl

/-! Mi: a def that is handed the error that a suite holds. -/
namespace Mi
open PySem PySem.Spec PyProof.Rows L2
/-- what a def promises of an error of class D that it is handed -/
structure FnE (P : Program) (w : World) (K : PySem.W.Frag) (mg : Str → Option Value) (base : Heap) (k : Nat) (f : Addr) (fd : FuncData) (ps : List Str) (D : Addr) (sp : Addr → List V → Hp → VK → Prop) : Prop where
  len : ∀ a vs H Q, sp a vs H Q → vs.length = ps.length
  run : ∀ (A : Around) (outer : List Env) (s : Shared) (H : Hp) (us : List Value) (vs : List V) (Q : VK) (a : Addr) (oe : Obj), L2H.RoomH k A → L2H.PinOk outer H s (a, oe) → Zc (.ref D) none oe → (∃ fs, oe.data = .fields fs) → Env0 P w K mg base A outer s H →
    BindsTo s fd ⟨us, []⟩ (ps.zip us) → Vals vs us → sp a vs H Q → codeAny (model P w) A (.call (.ref f) ⟨us, []⟩) (CR (L2.CX P w) outer P w H s Q fun _ _ _ => False) s
abbrev cxE (P : Program) (w : World) (K : PySem.W.Frag) (mg : Str → Option Value) (base : Heap) (N : List Str) (qual : Str) (scope : Scope) (f : Addr) (cd : Value) (A : Around) (outer : List Env) (s : Shared) (H : Hp) (p : Addr × Obj) : Cx :=
  L2H.cxH (L2.CX P w) P w K mg base N qual scope f cd A outer s H (fun _ _ _ => False) p
theorem fun_E {P : Program} {w : World} {K : PySem.W.Frag} {mg : Str → Option Value} {base : Heap} {x qual : Str} {st : Stmt} {f : Addr} {fd : FuncData} {N ps : List Str} {k : Nat} {D : Addr} {sp : Addr → List V → Hp → VK → Prop} (Fn : Fun K x qual st f fd) (Sc : FnScope N ps (defScope st))
    (len : ∀ a vs H Q, sp a vs H Q → vs.length = ps.length)
    (body : ∀ (cdv : Value) (A : Around) (outer : List Env) (s : Shared) (H : Hp) (vs : List V) (Q : VK) (a : Addr) (oe : Obj), Zc (.ref D) none oe → (∃ fs, oe.data = .fields fs) → sp a vs H Q →
      ∃ t, PSs (cxE P w K mg base N qual (defScope st) f cdv A outer s H (a, oe)) (defBody st) t ∧ t { nx := fun _ H' => Q .non H', rt := Q } (start N vs) H) : FnE P w K mg base (k + 1) f fd ps D sp := by
  obtain ⟨oc, od, kV, doc, pm, an, cdv, ct, osl, rfl, lk, hcd⟩ := Fn.ex
  refine ⟨len, ?_⟩
  intro A outer s H us vs Q a oe room pin hz hf e0 bind rv hsp
  have hlen := len _ _ _ _ hsp
  have kin : K.In s.heap := e0.mod.kin.keeps fun b o e => (e0.bs b o e).1
  have nolim : s.heap.NoLimit := e0.mod.nolimit.keeps fun b o e => (e0.bs b o e).1
  have kinds : ∀ y ∈ ps.zip us, (defScope st).names.lookup y.1 = some .local ∨ ((defScope st).names.lookup y.1 = some .cell ∧ ((cellsFrom (s.heap.objs.size + 1) (defScope st).names []).lookup y.1).isSome = true) := by
    rintro ⟨n, v⟩ hy
    cases Sc.par n (List.of_mem_zip hy).1 with
    | inl h => exact .inl h
    | inr h => exact .inr ⟨h, PySem.W.cellsFrom_some _ _ _ (.inl h)⟩
  refine codeAny_call_function room.depth (kin _ _ lk) rfl Sc.co Sc.gen rfl (PySem.W.codeRec_of kin hcd) (bind _ _ _ _ (wpAny_newFunctionEnv_cells Sc.kind kinds ?_))
  intro env henv s1 call
  subst henv
  obtain ⟨t, bd, ht⟩ := body cdv A outer s H vs Q a oe hz hf hsp
  have J := L2H.inv_startH (CX := L2.CX P w) (E := fun _ _ _ => False) (cd := cdv) (qual := qual) (f := f) Sc pin e0 hlen rv call
  have out : ∀ {σ' : L2.St} {H' : Hp} {v : V} {u : Value} {s' : Shared}, Inv (cxE P w K mg base N qual (defScope st) f cdv A outer s H (a, oe)) [] σ' H' s' → RelV v u → Q v H' → CE outer P w H s Q u s' :=
    fun J' r q => ⟨_, _, J'.os, J'.bare, J'.base, J'.hok, r, q⟩
  refine ⟨nolim.keeps call.toInCall.keep, codeAny_func (wpAny_mono (bd.run [] s1 (start N vs) H _ J ht) ?_ fun _ _ z => z)⟩
  intro fl s' sp'
  cases fl with
  | next => obtain ⟨_, _, J', q⟩ := sp'; exact out (v := V.non) (u := Value.none) J' rfl q
  | ret u => obtain ⟨_, _, _, J', r, q⟩ := sp'; exact out J' r q
  | brk => obtain ⟨_, _, _, z⟩ := sp'; exact z.elim
  | cont => obtain ⟨_, _, _, z⟩ := sp'; exact z.elim
/-- as a condition: the error's address, the objects, what is wanted of the answer -/
abbrev ConE := Addr → MM → (S → MM → Prop) → Prop
def spE (K : PySem.W.Frag) (c : ConE) : Addr → List V → Hp → VK → Prop := fun a vs H Q => ∃ F M R, vs = [.ref a] ∧ HM K F M H ∧ c a M R ∧ ∀ F' v r M' H', Same F F' → HM K F' M' H' → SR K F' v r → R r M' → Q v H'
theorem Fun.okE {P : Program} {w : World} {K : PySem.W.Frag} {mg : Str → Option Value} {base : Heap} {x qual n : Str} {st : Stmt} {f : Addr} {fd : FuncData} {N : List Str} {k : Nat} {D : Addr} {c : ConE} (Fn : Fun K x qual st f fd) (Sc : FnScope N [n] (defScope st))
    (hbody : ∀ (cdv : Value) (A : Around) (outer : List Env) (s : Shared) (H : Hp) (a : Addr) (oe : Obj) (M : MM) (R : S → MM → Prop), Zc (.ref D) none oe → (∃ fs, oe.data = .fields fs) → c a M R →
      BL ⟨cxE P w K mg base N qual (defScope st) f cdv A outer s H (a, oe), fun _ _ _ _ => False, fun _ _ _ => False⟩ (defBody st) (S.ob a :: List.replicate (N.length - 1) .no) M
        { nx := fun _ M' => R (.d .none) M', rt := R, bk := fun _ _ => False, ct := fun _ _ => False }) : FnE P w K mg base (k + 1) f fd [n] D (spE K c) := by
  refine fun_E Fn Sc (fun a vs H Q h => ?_) (fun cdv A outer s H vs Q a oe hz hf h => ?_)
  · obtain ⟨F, M, R, rfl, _⟩ := h
    rfl
  · obtain ⟨F, M, R, rfl, h2, h3, h4⟩ := h
    have hb := hbody cdv A outer s H a oe M R hz hf h3
    have h1 : Paired (SR K F) [V.ref a] [S.ob a] := .cons rfl .nil
    refine ⟨_, hb.ps, F, ⟨h2, start_ok h1⟩, ⟨fun γ' M' F' σ' H' e r z => ?_, fun s' M' F' v H' e hm sr z => ?_, fun _ _ _ _ _ _ _ z => z.elim, fun _ _ _ _ _ _ _ z => z.elim⟩, fun cls γ' M' F' σ' H' e r z => z.elim⟩
    · exact h4 F' .non (.d .none) M' H' e r.hm Dp.non z
    · exact h4 F' v s' M' H' e hm sr z
section
variable {X : Cx} {Er : WX} {Rx : Value → List S → MM → Prop} {γ : List S} {M M1 M2 : MM} {s : S} {e : Expr} {pos p : Pos} {x n : Str} {q D : Addr} {oe : Obj} {pn : List (Addr × Obj)}
/-- f(e) in the suite -/
theorem e_callE {k : Nat} {f : Addr} {fd : FuncData} {cn : ConE} (G : FnE X.prog X.w X.K X.mg X.base k f fd [n] D (spE X.K cn)) (hr : Room k X.A) (hm : X.mg x = some (.ref f)) (hk : PySem.W.keepIn X.K (.ref f) = true) (hb : Binds X.K fd [n] [])
    (hz : Zc (.ref D) none oe) (hf : ∃ fs, oe.data = .fields fs) (ha : EV ⟨X.suite q ((q, oe) :: pn), Er, Rx⟩ e γ M (.ob q) M1) (h : cn q M1 (fun r M' => r = s ∧ M' = M2)) (hg : Gl X x := by rfl) (hdb : (x == ("__debug__" : Str)) = false := by decide)
    (he : starEach [e] X.env = (false, eval e X.env) :: starEach [] X.env := by rfl) (hpl : (backTo pos (starEach [] X.env)).any (·.1) = false := by rfl) : EV ⟨X.suite q ((q, oe) :: pn), Er, Rx⟩ (.Call (.Name x p) [e] [] pos) γ M s M2 := by
  refine ⟨⟨fun pins s0 σ H Q I ⟨F, rl, qq, ex⟩ => ?_⟩⟩
  refine wpAny_Call_Name_kw (ld_glob (X := X.suite q ((q, oe) :: pn)) I hg hm ?_ hdb)
  refine PySem.W.callWith_K (h₀ := X.base) I.ok.mod.kin hk (thn ((pa_cons (X := X.suite q ((q, oe) :: pn)) ha.pe pa_nil he).run pos pins s0 σ H (fun vs H1 => ∃ F1, vs = [V.ref q] ∧ Same F F1 ∧ Rl X.K γ M1 F1 σ H1) I ⟨F, rl, fun F1 v H1 e1 r1 v1 => ⟨F1, by cases v1; rfl, e1, r1⟩, ex⟩) fun us s1 ⟨vs, H1, I1, r, F1, hv, e1, r1⟩ => ⟨I1.kIn, ?_⟩) he hpl
  subst hv
  have pin := I1.pin (q, oe) (List.mem_append.mpr (.inl List.mem_cons_self))
  have hl : us.length = [n].length := by rw [← r.length] <;> rfl
  have b := hb s1 us I1.kIn (by rw [List.append_nil]; exact hl)
  rw [List.append_nil] at b
  have hpin : L2H.PinOk X.stack H1 s1 (q, oe) := ⟨pin.1, pin.2.1, fun hm => (List.mem_cons.mp (I1.stkSub q hm)).elim pin.2.2.1 pin.2.2.2.1, pin.2.2.2.2⟩
  refine wpAny_call (codeAny_mono (G.run (X.A.mark (some (.ref q))) X.stack s1 H1 us [.ref q] Q q oe ⟨hr.dp, hr.un⟩ hpin hz hf I1.env0 b r ⟨F1, M1, _, rfl, r1.hm, h, fun F' v r' M' H' e2 h2 v2 hR => ?_⟩) fun rr s' hq => ?_)
  · obtain ⟨rfl, rfl⟩ := hR
    exact qq F' v H' (e1.trans e2) (r1.ext e2 h2) v2
  · cases rr with
    | error u => obtain ⟨_, _, _, _, _, _, _, _, _, _, _, _, z⟩ := hq; exact z.elim
    | ok fl =>
      cases fl with
      | ret u => exact I1.after hq
      | next => exact hq.elim
      | brk => exact hq.elim
      | cont => exact hq.elim
end
section
variable {X : Cx} {D q : Addr} {oe : Obj}
/-- isinstance of an error that the frame holds -/
theorem inst_of {pins : List (Addr × Obj)} {σ : L2.St} {H : Hp} {s : Shared} (I : Inv X pins σ H s) (hp : (q, oe) ∈ X.pn) (hz : Zc (.ref D) none oe) (hf : ∃ vs, oe.data = .fields vs) : PySem.W.InstAt s.heap q oe D none := by
  have hget := (I.pin (q, oe) (List.mem_append.mpr (.inl hp))).1
  obtain ⟨vs, hv⟩ := hf
  obtain ⟨oc, od, dt, sl⟩ := oe
  obtain ⟨rfl, rfl⟩ := hz
  have hv' : dt = .fields vs := hv
  subst hv'
  exact ⟨hget, rfl, rfl, trivial⟩
theorem call_isP (C : ExcC X.K D) (hp : (q, oe) ∈ X.pn) (hz : Zc (.ref D) none oe) (hf : ∃ vs, oe.data = .fields vs) : CallR X (.builtin "isinstance") (rIsE X.K D q) := by
  rintro pins s σ H xs us Q I r ⟨c, cv, b, rfl, hcv, e, qq⟩
  obtain ⟨u1, u2, rfl, rx, rt⟩ := vals2 r
  cases rx
  cases hcv _ rt
  exact PySem.W.kia_one (PySem.W.handS_kitx_exc C.hg C.hk C.hs C.hd C.ha C.hn C.ht C.hm) I.kIn (inst_of I hp hz hf) e (fun z => nomatch z) fun tk => ⟨.bl b, H, I.kept (t' := tk) fun _ _ z => z, rfl, qq⟩
theorem call_isPT (C : ExcC X.K D) (hp : (q, oe) ∈ X.pn) (hz : Zc (.ref D) none oe) (hf : ∃ vs, oe.data = .fields vs) : CallR X (.builtin "isinstance") (rIsET X.K D q) := by
  rintro pins s σ H xs us Q I r ⟨tp, cs, ws, b, rfl, hT, k, e, qq⟩
  obtain ⟨u1, u2, rfl, rx, rt⟩ := vals2 r
  cases rx
  cases (show u2 = Value.ref tp from rt)
  obtain ⟨_, its, rv, o, h1, h2, n, h3⟩ := (show ObjOk X.prog X.w H s.heap tp (.tup cs) from I.hok tp _ hT)
  have e3 := ClsV.all k rv
  subst e3
  obtain ⟨oc, od, dt, sl⟩ := o
  simp only at h2 h3
  subst h2 h3
  exact PySem.W.kia_tup (PySem.W.handS_kitx_exc C.hg C.hk C.hs C.hd C.ha C.hn C.ht C.hm) I.kIn (inst_of I hp hz hf) h1 e (fun z => nomatch z) fun tk => ⟨.bl b, H, I.kept (t' := tk) fun _ _ z => z, rfl, qq⟩
variable {Y : Ct} {γ : List S} {M M1 M2 : MM} {s : S} {e : Expr} {es ces : List Expr} {pos p tp : Pos} {b1 : Bool} {ss : List S} {cv : Value} {cvs : List Value} {k : Nat}
theorem e_isP (C : ExcC Y.X.K D) (hp : (q, oe) ∈ Y.X.pn) (hz : Zc (.ref D) none oe) (hf : ∃ vs, oe.data = .fields vs) (hm : Y.X.mg "isinstance" = none) (ha : EA Y (e :: es) γ M [.ob q, s] M1) (hc : ClS s cv) (h : PySem.W.kitOne Y.X.K (.ref D) cv = some b1) (hg : Gl Y.X "isinstance" := by rfl)
    (he : starEach (e :: es) Y.X.env = (false, eval e Y.X.env) :: starEach es Y.X.env := by rfl) (hpl : (backTo pos (starEach es Y.X.env)).any (·.1) = false := by rfl) : EV Y (.Call (.Name "isinstance" p) (e :: es) [] pos) γ M (.d (.bool b1)) M1 :=
  e_callB (call_isP C hp hz hf) hg hm (by decide +kernel) ha (he := he) (hpl := hpl) (hr := ⟨fun F vs H Q hm' g qq => by
    obtain ⟨v, w, rfl, g1, g2⟩ := pair_two g
    cases g1
    exact ⟨w, cv, b1, rfl, fun u r => hc.rel g2 r, h, qq F _ H (Same.refl F) hm' (.bl _)⟩⟩)
theorem e_isPT (C : ExcC Y.X.K D) (hp : (q, oe) ∈ Y.X.pn) (hz : Zc (.ref D) none oe) (hf : ∃ vs, oe.data = .fields vs) (hm : Y.X.mg "isinstance" = none) (h0 : EV Y e γ M (.ob q) M1) (ha : EA Y ces γ M1 ss M2) (hc : Paired ClS ss cvs) (h : PySem.W.kitAny Y.X.K (.ref D) cvs = some b1) (hn : Nat.ble ss.length 100000 = true := by rfl) (hg : Gl Y.X "isinstance" := by rfl)
    (he : starEach [e, .Tuple ces k tp] Y.X.env = (false, eval e Y.X.env) :: starEach [.Tuple ces k tp] Y.X.env := by rfl) (he2 : starEach [.Tuple ces k tp] Y.X.env = (false, eval (.Tuple ces k tp) Y.X.env) :: starEach [] Y.X.env := by rfl) (hpl : (backTo pos (starEach [.Tuple ces k tp] Y.X.env)).any (·.1) = false := by rfl) :
    EV Y (.Call (.Name "isinstance" p) [e, .Tuple ces k tp] [] pos) γ M (.d (.bool b1)) M2 :=
  ⟨PE.imp (pe_callB (call_isPT C hp hz hf) hg hm (by decide +kernel) (pa_cons h0.pe (pa_cons (pe_tup ha.pa) pa_nil he2) he) (by decide) (by decide) he hpl) fun σ H Q ⟨F, r, qq, ex⟩ => ⟨F, r, fun F1 v H1 e1 r1 v1 => ⟨F1, r1, fun F2 vs H2 e2 r2 v2 => by
    cases v1
    refine ⟨by rw [pair_len v2]; exact small hn, fun p hp => ?_⟩
    obtain ⟨e3, h3⟩ := r2.hm.newF hp (.tup vs)
    exact ⟨p, vs, cvs, b1, rfl, upd_same, cls_pair v2 hc, h, qq _ _ _ ((e1.trans e2).trans e3) (r2.ext e3 h3) (.bl _)⟩, ex.mono e1⟩, ex⟩⟩
end
end Mi

namespace K23
open PySem PySem.Spec PyProof.Rows L2 Mi Pl
def topS (i : Nat) : Stmt := PySem.Challenge.pw_arcmill_k23_sixty_rows.main.body.getD i (.Pass ⟨0, 0, 0, 0⟩)
def clsS (i j : Nat) : Stmt := match topS i with | .ClassDef _ _ _ b _ _ _ _ _ _ _ => b.getD j (.Pass ⟨0, 0, 0, 0⟩) | _ => .Pass ⟨0, 0, 0, 0⟩
abbrev s_law_row : Stmt := topS 62
abbrev s_law_rows : Stmt := topS 63
abbrev s_law_deep : Stmt := topS 64
abbrev s_rows_in : Stmt := topS 52
abbrev s_Looker_init : Stmt := clsS 51 0
abbrev s_word_of : Stmt := topS 45
abbrev s_divisor : Stmt := topS 9
abbrev s_ratio : Stmt := topS 10
abbrev s_minus : Stmt := topS 12
abbrev s_off : Stmt := topS 16
abbrev s_plus : Stmt := topS 11
abbrev s_times : Stmt := topS 13
abbrev s_along : Stmt := topS 17
abbrev s_far : Stmt := topS 18
abbrev s_is_round : Stmt := topS 46
abbrev s_is_whole : Stmt := topS 43
abbrev s_is_fraction : Stmt := topS 44
abbrev s_is_plain_row : Stmt := topS 47
abbrev s_is_block : Stmt := topS 48
abbrev s_size_by : Stmt := topS 49
abbrev s_done_by : Stmt := topS 35
abbrev s_below : Stmt := topS 14
abbrev s_before : Stmt := topS 19
abbrev s_stretch : Stmt := topS 21
abbrev s_stood : Stmt := topS 30
abbrev s_straight : Stmt := topS 31
abbrev s_arc : Stmt := topS 26
abbrev s_bowed : Stmt := topS 32
abbrev s_first : Stmt := topS 24
abbrev s_shaped : Stmt := topS 33
abbrev s_draws : Stmt := topS 34
abbrev s_goes_on : Stmt := topS 50
abbrev s_Reader_init : Stmt := clsS 58 0
abbrev s_NoRow_init : Stmt := clsS 6 0
abbrev s_Looker_look_into : Stmt := clsS 51 2
abbrev s_Looker_look_at : Stmt := clsS 51 1
abbrev s_program_of : Stmt := topS 53
abbrev s_whole_in : Stmt := topS 56
abbrev s_fraction_in : Stmt := topS 57
abbrev s_Reader_closed : Stmt := clsS 58 3
abbrev s_Reader_opened : Stmt := clsS 58 2
abbrev s_Reader_read_line : Stmt := clsS 58 1
abbrev s_NoText_init : Stmt := clsS 7 0
abbrev s_read : Stmt := topS 59
abbrev s_law_lines : Stmt := topS 66
abbrev s_law_told : Stmt := topS 67
abbrev s_law_numbers : Stmt := topS 65
abbrev s_law : Stmt := topS 68
theorem sc_law_row : FnScope ["_law_cell", "_law_many", "_law_found", "_law_number", "_law_k"] ["_law_cell", "_law_many"] (defScope s_law_row) := ⟨rfl, rfl, rfl, by decide +kernel, rfl, by decide +kernel, by decide +kernel⟩
theorem sc_law_rows : FnScope ["_law_many", "_law_row_here", "_law_rows_here", "_law_left", "_law_deep_here", "_law_inner", "_law_block", "_law_own", "_law_k"] ["_law_many", "_law_row_here"] (defScope s_law_rows) := ⟨rfl, rfl, rfl, by decide +kernel, rfl, by decide +kernel, by decide +kernel⟩
theorem sc_law_deep : FnScope ["_law_rows_here", "_law_row_here"] ["_law_rows_here"] (defScope s_law_deep) := ⟨rfl, rfl, rfl, by decide +kernel, rfl, by decide +kernel, by decide +kernel⟩
theorem sc_rows_in : FnScope ["rows", "many", "row"] ["rows"] (defScope s_rows_in) := ⟨rfl, rfl, rfl, by decide +kernel, rfl, by decide +kernel, by decide +kernel⟩
theorem sc_Looker_init : FnScope ["self"] ["self"] (defScope s_Looker_init) := ⟨rfl, rfl, rfl, by decide +kernel, rfl, by decide +kernel, by decide +kernel⟩
theorem sc_word_of : FnScope ["row"] ["row"] (defScope s_word_of) := ⟨rfl, rfl, rfl, by decide +kernel, rfl, by decide +kernel, by decide +kernel⟩
theorem sc_divisor : FnScope ["one", "other"] ["one", "other"] (defScope s_divisor) := ⟨rfl, rfl, rfl, by decide +kernel, rfl, by decide +kernel, by decide +kernel⟩
theorem sc_ratio : FnScope ["top", "bottom", "by"] ["top", "bottom"] (defScope s_ratio) := ⟨rfl, rfl, rfl, by decide +kernel, rfl, by decide +kernel, by decide +kernel⟩
theorem sc_minus : FnScope ["one", "other"] ["one", "other"] (defScope s_minus) := ⟨rfl, rfl, rfl, by decide +kernel, rfl, by decide +kernel, by decide +kernel⟩
theorem sc_off : FnScope ["p", "q"] ["p", "q"] (defScope s_off) := ⟨rfl, rfl, rfl, by decide +kernel, rfl, by decide +kernel, by decide +kernel⟩
theorem sc_plus : FnScope ["one", "other"] ["one", "other"] (defScope s_plus) := ⟨rfl, rfl, rfl, by decide +kernel, rfl, by decide +kernel, by decide +kernel⟩
theorem sc_times : FnScope ["one", "other"] ["one", "other"] (defScope s_times) := ⟨rfl, rfl, rfl, by decide +kernel, rfl, by decide +kernel, by decide +kernel⟩
theorem sc_along : FnScope ["p", "q"] ["p", "q"] (defScope s_along) := ⟨rfl, rfl, rfl, by decide +kernel, rfl, by decide +kernel, by decide +kernel⟩
theorem sc_far : FnScope ["p", "q", "way"] ["p", "q"] (defScope s_far) := ⟨rfl, rfl, rfl, by decide +kernel, rfl, by decide +kernel, by decide +kernel⟩
theorem sc_is_round : FnScope ["row", "c"] ["row"] (defScope s_is_round) := ⟨rfl, rfl, rfl, by decide +kernel, rfl, by decide +kernel, by decide +kernel⟩
theorem sc_is_whole : FnScope ["thing"] ["thing"] (defScope s_is_whole) := ⟨rfl, rfl, rfl, by decide +kernel, rfl, by decide +kernel, by decide +kernel⟩
theorem sc_is_fraction : FnScope ["thing"] ["thing"] (defScope s_is_fraction) := ⟨rfl, rfl, rfl, by decide +kernel, rfl, by decide +kernel, by decide +kernel⟩
theorem sc_is_plain_row : FnScope ["row", "word", "one"] ["row"] (defScope s_is_plain_row) := ⟨rfl, rfl, rfl, by decide +kernel, rfl, by decide +kernel, by decide +kernel⟩
theorem sc_is_block : FnScope ["row"] ["row"] (defScope s_is_block) := ⟨rfl, rfl, rfl, by decide +kernel, rfl, by decide +kernel, by decide +kernel⟩
theorem sc_size_by : FnScope ["rows", "size", "row", "once", "turn"] ["rows"] (defScope s_size_by) := ⟨rfl, rfl, rfl, by decide +kernel, rfl, by decide +kernel, by decide +kernel⟩
theorem sc_done_by : FnScope ["rows", "many", "row"] ["rows"] (defScope s_done_by) := ⟨rfl, rfl, rfl, by decide +kernel, rfl, by decide +kernel, by decide +kernel⟩
theorem sc_below : FnScope ["one", "other"] ["one", "other"] (defScope s_below) := ⟨rfl, rfl, rfl, by decide +kernel, rfl, by decide +kernel, by decide +kernel⟩
theorem sc_before : FnScope ["p", "q"] ["p", "q"] (defScope s_before) := ⟨rfl, rfl, rfl, by decide +kernel, rfl, by decide +kernel, by decide +kernel⟩
theorem sc_stretch : FnScope ["p", "q"] ["p", "q"] (defScope s_stretch) := ⟨rfl, rfl, rfl, by decide +kernel, rfl, by decide +kernel, by decide +kernel⟩
theorem sc_stood : FnScope ["place", "turns"] ["place", "turns"] (defScope s_stood) := ⟨rfl, rfl, rfl, by decide +kernel, rfl, by decide +kernel, by decide +kernel⟩
theorem sc_straight : FnScope ["p"] ["p"] (defScope s_straight) := ⟨rfl, rfl, rfl, by decide +kernel, rfl, by decide +kernel, by decide +kernel⟩
theorem sc_arc : FnScope ["c", "p", "q"] ["c", "p", "q"] (defScope s_arc) := ⟨rfl, rfl, rfl, by decide +kernel, rfl, by decide +kernel, by decide +kernel⟩
theorem sc_bowed : FnScope ["number", "p", "turns", "c"] ["number", "p", "turns"] (defScope s_bowed) := ⟨rfl, rfl, rfl, by decide +kernel, rfl, by decide +kernel, by decide +kernel⟩
theorem sc_first : FnScope [] [] (defScope s_first) := ⟨rfl, rfl, rfl, by decide +kernel, rfl, by decide +kernel, by decide +kernel⟩
theorem sc_shaped : FnScope ["row", "word"] ["row"] (defScope s_shaped) := ⟨rfl, rfl, rfl, by decide +kernel, rfl, by decide +kernel, by decide +kernel⟩
theorem sc_draws : FnScope ["rows", "row", "found"] ["rows"] (defScope s_draws) := ⟨rfl, rfl, rfl, by decide +kernel, rfl, by decide +kernel, by decide +kernel⟩
theorem sc_goes_on : FnScope ["rows", "size"] ["rows"] (defScope s_goes_on) := ⟨rfl, rfl, rfl, by decide +kernel, rfl, by decide +kernel, by decide +kernel⟩
theorem sc_Reader_init : FnScope ["self"] ["self"] (defScope s_Reader_init) := ⟨rfl, rfl, rfl, by decide +kernel, rfl, by decide +kernel, by decide +kernel⟩
theorem sc_NoRow_init : FnScope ["self", "row"] ["self", "row"] (defScope s_NoRow_init) := ⟨rfl, rfl, rfl, by decide +kernel, rfl, by decide +kernel, by decide +kernel⟩
theorem sc_Looker_look_into : FnScope ["self", "row", "here", "deep", "within", "endless", "rows"] ["self", "row", "here", "deep", "within"] (defScope s_Looker_look_into) := ⟨rfl, rfl, rfl, by decide +kernel, rfl, by decide +kernel, by decide +kernel⟩
theorem sc_Looker_look_at : FnScope ["self", "rows", "deep", "within", "row", "here"] ["self", "rows", "deep", "within"] (defScope s_Looker_look_at) := ⟨rfl, rfl, rfl, by decide +kernel, rfl, by decide +kernel, by decide +kernel⟩
theorem sc_program_of : FnScope ["rows"] ["rows"] (defScope s_program_of) := ⟨rfl, rfl, rfl, by decide +kernel, rfl, by decide +kernel, by decide +kernel⟩
theorem sc_whole_in : FnScope ["word", "figures", "sign"] ["word"] (defScope s_whole_in) := ⟨rfl, rfl, rfl, by decide +kernel, rfl, by decide +kernel, by decide +kernel⟩
theorem sc_fraction_in : FnScope ["word", "found", "by", "top", "mark", "bottom"] ["word"] (defScope s_fraction_in) := ⟨rfl, rfl, rfl, by decide +kernel, rfl, by decide +kernel, by decide +kernel⟩
theorem sc_Reader_closed : FnScope ["self", "head", "rows"] ["self"] (defScope s_Reader_closed) := ⟨rfl, rfl, rfl, by decide +kernel, rfl, by decide +kernel, by decide +kernel⟩
theorem sc_Reader_opened : FnScope ["self", "words", "numbers", "word"] ["self", "words"] (defScope s_Reader_opened) := ⟨rfl, rfl, rfl, by decide +kernel, rfl, by decide +kernel, by decide +kernel⟩
theorem sc_Reader_read_line : FnScope ["self", "text", "words", "numbers", "word"] ["self", "text"] (defScope s_Reader_read_line) := ⟨rfl, rfl, rfl, by decide +kernel, rfl, by decide +kernel, by decide +kernel⟩
theorem sc_NoText_init : FnScope ["self", "line"] ["self", "line"] (defScope s_NoText_init) := ⟨rfl, rfl, rfl, by decide +kernel, rfl, by decide +kernel, by decide +kernel⟩
theorem sc_read : FnScope ["text", "reader", "lines", "number", "entry"] ["text"] (defScope s_read) := ⟨rfl, rfl, rfl, by decide +kernel, rfl, by decide +kernel, by decide +kernel⟩
theorem sc_law_lines : FnScope ["_law_rows_here", "_law_lines_here", "_law_row_here", "_law_part"] ["_law_rows_here"] (defScope s_law_lines) := ⟨rfl, rfl, rfl, by decide +kernel, rfl, by decide +kernel, by decide +kernel⟩
theorem sc_law_told : FnScope ["_law_rows_here", "_law_by_text", "e", "_law_found", "_law_sorts"] ["_law_rows_here", "_law_by_text"] (defScope s_law_told) := ⟨rfl, rfl, rfl, by decide +kernel, rfl, by decide +kernel, by decide +kernel⟩
theorem sc_law_numbers : FnScope ["_law_rows_here", "_law_many", "_law_row_here"] ["_law_rows_here"] (defScope s_law_numbers) := ⟨rfl, rfl, rfl, by decide +kernel, rfl, by decide +kernel, by decide +kernel⟩
theorem sc_law : FnScope ["_law_script", "_law_cell", "_law_flat", "_law_block", "_law_by_text", "_law_row_here", "_law_many", "_law_rows_here", "_law_due", "_law_dues", "_law_k"] ["_law_script"] (defScope s_law) := ⟨rfl, rfl, rfl, by decide +kernel, rfl, by decide +kernel, by decide +kernel⟩
structure Tx (w : World) (K : PySem.W.Frag) (mg : Str → Option Value) where
  a_law_row : Addr
  fd_law_row : FuncData
  F_law_row : Fun K "_law_row" "_law_row" s_law_row a_law_row fd_law_row
  g_law_row : mg "_law_row" = some (.ref a_law_row)
  b_law_row : Binds K fd_law_row ["_law_cell", "_law_many"] []
  a_law_rows : Addr
  fd_law_rows : FuncData
  F_law_rows : Fun K "_law_rows" "_law_rows" s_law_rows a_law_rows fd_law_rows
  g_law_rows : mg "_law_rows" = some (.ref a_law_rows)
  b_law_rows : Binds K fd_law_rows ["_law_many", "_law_row_here"] []
  a_law_deep : Addr
  fd_law_deep : FuncData
  F_law_deep : Fun K "_law_deep" "_law_deep" s_law_deep a_law_deep fd_law_deep
  g_law_deep : mg "_law_deep" = some (.ref a_law_deep)
  b_law_deep : Binds K fd_law_deep ["_law_rows_here"] []
  a_rows_in : Addr
  fd_rows_in : FuncData
  F_rows_in : Fun K "rows_in" "rows_in" s_rows_in a_rows_in fd_rows_in
  g_rows_in : mg "rows_in" = some (.ref a_rows_in)
  b_rows_in : Binds K fd_rows_in ["rows"] []
  a_Looker_init : Addr
  fd_Looker_init : FuncData
  F_Looker_init : Fun K "__init__" "Looker.__init__" s_Looker_init a_Looker_init fd_Looker_init
  b_Looker_init : Binds K fd_Looker_init ["self"] []
  a_word_of : Addr
  fd_word_of : FuncData
  F_word_of : Fun K "word_of" "word_of" s_word_of a_word_of fd_word_of
  g_word_of : mg "word_of" = some (.ref a_word_of)
  b_word_of : Binds K fd_word_of ["row"] []
  a_divisor : Addr
  fd_divisor : FuncData
  F_divisor : Fun K "divisor" "divisor" s_divisor a_divisor fd_divisor
  g_divisor : mg "divisor" = some (.ref a_divisor)
  b_divisor : Binds K fd_divisor ["one", "other"] []
  a_ratio : Addr
  fd_ratio : FuncData
  F_ratio : Fun K "ratio" "ratio" s_ratio a_ratio fd_ratio
  g_ratio : mg "ratio" = some (.ref a_ratio)
  b_ratio : Binds K fd_ratio ["top", "bottom"] []
  a_minus : Addr
  fd_minus : FuncData
  F_minus : Fun K "minus" "minus" s_minus a_minus fd_minus
  g_minus : mg "minus" = some (.ref a_minus)
  b_minus : Binds K fd_minus ["one", "other"] []
  a_off : Addr
  fd_off : FuncData
  F_off : Fun K "off" "off" s_off a_off fd_off
  g_off : mg "off" = some (.ref a_off)
  b_off : Binds K fd_off ["p", "q"] []
  a_plus : Addr
  fd_plus : FuncData
  F_plus : Fun K "plus" "plus" s_plus a_plus fd_plus
  g_plus : mg "plus" = some (.ref a_plus)
  b_plus : Binds K fd_plus ["one", "other"] []
  a_times : Addr
  fd_times : FuncData
  F_times : Fun K "times" "times" s_times a_times fd_times
  g_times : mg "times" = some (.ref a_times)
  b_times : Binds K fd_times ["one", "other"] []
  a_along : Addr
  fd_along : FuncData
  F_along : Fun K "along" "along" s_along a_along fd_along
  g_along : mg "along" = some (.ref a_along)
  b_along : Binds K fd_along ["p", "q"] []
  a_far : Addr
  fd_far : FuncData
  F_far : Fun K "far" "far" s_far a_far fd_far
  g_far : mg "far" = some (.ref a_far)
  b_far : Binds K fd_far ["p", "q"] []
  a_is_round : Addr
  fd_is_round : FuncData
  F_is_round : Fun K "is_round" "is_round" s_is_round a_is_round fd_is_round
  g_is_round : mg "is_round" = some (.ref a_is_round)
  b_is_round : Binds K fd_is_round ["row"] []
  a_is_whole : Addr
  fd_is_whole : FuncData
  F_is_whole : Fun K "is_whole" "is_whole" s_is_whole a_is_whole fd_is_whole
  g_is_whole : mg "is_whole" = some (.ref a_is_whole)
  b_is_whole : Binds K fd_is_whole ["thing"] []
  a_is_fraction : Addr
  fd_is_fraction : FuncData
  F_is_fraction : Fun K "is_fraction" "is_fraction" s_is_fraction a_is_fraction fd_is_fraction
  g_is_fraction : mg "is_fraction" = some (.ref a_is_fraction)
  b_is_fraction : Binds K fd_is_fraction ["thing"] []
  a_is_plain_row : Addr
  fd_is_plain_row : FuncData
  F_is_plain_row : Fun K "is_plain_row" "is_plain_row" s_is_plain_row a_is_plain_row fd_is_plain_row
  g_is_plain_row : mg "is_plain_row" = some (.ref a_is_plain_row)
  b_is_plain_row : Binds K fd_is_plain_row ["row"] []
  a_is_block : Addr
  fd_is_block : FuncData
  F_is_block : Fun K "is_block" "is_block" s_is_block a_is_block fd_is_block
  g_is_block : mg "is_block" = some (.ref a_is_block)
  b_is_block : Binds K fd_is_block ["row"] []
  a_size_by : Addr
  fd_size_by : FuncData
  F_size_by : Fun K "size_by" "size_by" s_size_by a_size_by fd_size_by
  g_size_by : mg "size_by" = some (.ref a_size_by)
  b_size_by : Binds K fd_size_by ["rows"] []
  a_done_by : Addr
  fd_done_by : FuncData
  F_done_by : Fun K "done_by" "done_by" s_done_by a_done_by fd_done_by
  g_done_by : mg "done_by" = some (.ref a_done_by)
  b_done_by : Binds K fd_done_by ["rows"] []
  a_below : Addr
  fd_below : FuncData
  F_below : Fun K "below" "below" s_below a_below fd_below
  g_below : mg "below" = some (.ref a_below)
  b_below : Binds K fd_below ["one", "other"] []
  a_before : Addr
  fd_before : FuncData
  F_before : Fun K "before" "before" s_before a_before fd_before
  g_before : mg "before" = some (.ref a_before)
  b_before : Binds K fd_before ["p", "q"] []
  a_stretch : Addr
  fd_stretch : FuncData
  F_stretch : Fun K "stretch" "stretch" s_stretch a_stretch fd_stretch
  g_stretch : mg "stretch" = some (.ref a_stretch)
  b_stretch : Binds K fd_stretch ["p", "q"] []
  a_stood : Addr
  fd_stood : FuncData
  F_stood : FunD K "stood" "stood" (defArgs s_stood) (defBody s_stood) (defScope s_stood) [.int 0] [] a_stood fd_stood
  ds_stood : List Value
  dv_stood : Vals [.int 0] ds_stood
  bd_stood : Binds K fd_stood ["place", "turns"] ds_stood
  g_stood : mg "stood" = some (.ref a_stood)
  b_stood : Binds K fd_stood ["place", "turns"] []
  a_straight : Addr
  fd_straight : FuncData
  F_straight : Fun K "straight" "straight" s_straight a_straight fd_straight
  g_straight : mg "straight" = some (.ref a_straight)
  b_straight : Binds K fd_straight ["p"] []
  a_arc : Addr
  fd_arc : FuncData
  F_arc : Fun K "arc" "arc" s_arc a_arc fd_arc
  g_arc : mg "arc" = some (.ref a_arc)
  b_arc : Binds K fd_arc ["c", "p", "q"] []
  a_bowed : Addr
  fd_bowed : FuncData
  F_bowed : Fun K "bowed" "bowed" s_bowed a_bowed fd_bowed
  g_bowed : mg "bowed" = some (.ref a_bowed)
  b_bowed : Binds K fd_bowed ["number", "p", "turns"] []
  a_first : Addr
  fd_first : FuncData
  F_first : Fun K "first" "first" s_first a_first fd_first
  g_first : mg "first" = some (.ref a_first)
  b_first : Binds K fd_first [] []
  a_shaped : Addr
  fd_shaped : FuncData
  F_shaped : Fun K "shaped" "shaped" s_shaped a_shaped fd_shaped
  g_shaped : mg "shaped" = some (.ref a_shaped)
  b_shaped : Binds K fd_shaped ["row"] []
  a_draws : Addr
  fd_draws : FuncData
  F_draws : Fun K "draws" "draws" s_draws a_draws fd_draws
  g_draws : mg "draws" = some (.ref a_draws)
  b_draws : Binds K fd_draws ["rows"] []
  a_goes_on : Addr
  fd_goes_on : FuncData
  F_goes_on : Fun K "goes_on" "goes_on" s_goes_on a_goes_on fd_goes_on
  g_goes_on : mg "goes_on" = some (.ref a_goes_on)
  b_goes_on : Binds K fd_goes_on ["rows"] []
  a_Reader_init : Addr
  fd_Reader_init : FuncData
  F_Reader_init : Fun K "__init__" "Reader.__init__" s_Reader_init a_Reader_init fd_Reader_init
  b_Reader_init : Binds K fd_Reader_init ["self"] []
  a_NoRow_init : Addr
  fd_NoRow_init : FuncData
  F_NoRow_init : Fun K "__init__" "NoRow.__init__" s_NoRow_init a_NoRow_init fd_NoRow_init
  b_NoRow_init : Binds K fd_NoRow_init ["self", "row"] []
  a_Looker_look_into : Addr
  fd_Looker_look_into : FuncData
  F_Looker_look_into : Fun K "look_into" "Looker.look_into" s_Looker_look_into a_Looker_look_into fd_Looker_look_into
  b_Looker_look_into : Binds K fd_Looker_look_into ["self", "row", "here", "deep", "within"] []
  a_Looker_look_at : Addr
  fd_Looker_look_at : FuncData
  F_Looker_look_at : Fun K "look_at" "Looker.look_at" s_Looker_look_at a_Looker_look_at fd_Looker_look_at
  b_Looker_look_at : Binds K fd_Looker_look_at ["self", "rows", "deep", "within"] []
  a_program_of : Addr
  fd_program_of : FuncData
  F_program_of : Fun K "program_of" "program_of" s_program_of a_program_of fd_program_of
  g_program_of : mg "program_of" = some (.ref a_program_of)
  b_program_of : Binds K fd_program_of ["rows"] []
  a_whole_in : Addr
  fd_whole_in : FuncData
  F_whole_in : Fun K "whole_in" "whole_in" s_whole_in a_whole_in fd_whole_in
  g_whole_in : mg "whole_in" = some (.ref a_whole_in)
  b_whole_in : Binds K fd_whole_in ["word"] []
  a_fraction_in : Addr
  fd_fraction_in : FuncData
  F_fraction_in : Fun K "fraction_in" "fraction_in" s_fraction_in a_fraction_in fd_fraction_in
  g_fraction_in : mg "fraction_in" = some (.ref a_fraction_in)
  b_fraction_in : Binds K fd_fraction_in ["word"] []
  a_Reader_closed : Addr
  fd_Reader_closed : FuncData
  F_Reader_closed : Fun K "closed" "Reader.closed" s_Reader_closed a_Reader_closed fd_Reader_closed
  b_Reader_closed : Binds K fd_Reader_closed ["self"] []
  a_Reader_opened : Addr
  fd_Reader_opened : FuncData
  F_Reader_opened : Fun K "opened" "Reader.opened" s_Reader_opened a_Reader_opened fd_Reader_opened
  b_Reader_opened : Binds K fd_Reader_opened ["self", "words"] []
  a_Reader_read_line : Addr
  fd_Reader_read_line : FuncData
  F_Reader_read_line : Fun K "read_line" "Reader.read_line" s_Reader_read_line a_Reader_read_line fd_Reader_read_line
  b_Reader_read_line : Binds K fd_Reader_read_line ["self", "text"] []
  a_NoText_init : Addr
  fd_NoText_init : FuncData
  F_NoText_init : Fun K "__init__" "NoText.__init__" s_NoText_init a_NoText_init fd_NoText_init
  b_NoText_init : Binds K fd_NoText_init ["self", "line"] []
  a_read : Addr
  fd_read : FuncData
  F_read : Fun K "read" "read" s_read a_read fd_read
  g_read : mg "read" = some (.ref a_read)
  b_read : Binds K fd_read ["text"] []
  a_law_lines : Addr
  fd_law_lines : FuncData
  F_law_lines : Fun K "_law_lines" "_law_lines" s_law_lines a_law_lines fd_law_lines
  g_law_lines : mg "_law_lines" = some (.ref a_law_lines)
  b_law_lines : Binds K fd_law_lines ["_law_rows_here"] []
  a_law_told : Addr
  fd_law_told : FuncData
  F_law_told : Fun K "_law_told" "_law_told" s_law_told a_law_told fd_law_told
  g_law_told : mg "_law_told" = some (.ref a_law_told)
  b_law_told : Binds K fd_law_told ["_law_rows_here", "_law_by_text"] []
  a_law_numbers : Addr
  fd_law_numbers : FuncData
  F_law_numbers : Fun K "_law_numbers" "_law_numbers" s_law_numbers a_law_numbers fd_law_numbers
  g_law_numbers : mg "_law_numbers" = some (.ref a_law_numbers)
  b_law_numbers : Binds K fd_law_numbers ["_law_rows_here"] []
  a_law : Addr
  fd_law : FuncData
  F_law : Fun K "law" "law" s_law a_law fd_law
  g_law : mg "law" = some (.ref a_law)
  b_law : Binds K fd_law ["_law_script"] []
  n_ValueError : mg "ValueError" = none
  n_abs : mg "abs" = none
  n_all : mg "all" = none
  n_bool : mg "bool" = none
  n_enumerate : mg "enumerate" = none
  n_int : mg "int" = none
  n_isinstance : mg "isinstance" = none
  n_len : mg "len" = none
  n_max : mg "max" = none
  n_min : mg "min" = none
  n_range : mg "range" = none
  n_str : mg "str" = none
  n_tuple : mg "tuple" = none
  u_DEEPEST : Value
  v_DEEPEST : V
  m_DEEPEST : mg "DEEPEST" = some u_DEEPEST
  r_DEEPEST : RelV v_DEEPEST u_DEEPEST
  d_DEEPEST : ∀ F, Dp K F v_DEEPEST (.int 4)
  u_FIGURES : Value
  v_FIGURES : V
  m_FIGURES : mg "FIGURES" = some u_FIGURES
  r_FIGURES : RelV v_FIGURES u_FIGURES
  d_FIGURES : ∀ F, Dp K F v_FIGURES (.str "0123456789")
  u_MOST_DONE : Value
  v_MOST_DONE : V
  m_MOST_DONE : mg "MOST_DONE" = some u_MOST_DONE
  r_MOST_DONE : RelV v_MOST_DONE u_MOST_DONE
  d_MOST_DONE : ∀ F, Dp K F v_MOST_DONE (.int 300)
  u_MOST_GROWN : Value
  v_MOST_GROWN : V
  m_MOST_GROWN : mg "MOST_GROWN" = some u_MOST_GROWN
  r_MOST_GROWN : RelV v_MOST_GROWN u_MOST_GROWN
  d_MOST_GROWN : ∀ F, Dp K F v_MOST_GROWN (.int 12)
  u_MOST_ROUNDS : Value
  v_MOST_ROUNDS : V
  m_MOST_ROUNDS : mg "MOST_ROUNDS" = some u_MOST_ROUNDS
  r_MOST_ROUNDS : RelV v_MOST_ROUNDS u_MOST_ROUNDS
  d_MOST_ROUNDS : ∀ F, Dp K F v_MOST_ROUNDS (.int 12)
  u_MOST_ROWS : Value
  v_MOST_ROWS : V
  m_MOST_ROWS : mg "MOST_ROWS" = some u_MOST_ROWS
  r_MOST_ROWS : RelV v_MOST_ROWS u_MOST_ROWS
  d_MOST_ROWS : ∀ F, Dp K F v_MOST_ROWS (.int 60)
  u_MOST_SIZE : Value
  v_MOST_SIZE : V
  m_MOST_SIZE : mg "MOST_SIZE" = some u_MOST_SIZE
  r_MOST_SIZE : RelV v_MOST_SIZE u_MOST_SIZE
  d_MOST_SIZE : ∀ F, Dp K F v_MOST_SIZE (.tuple [.int 3, .int 4])
  u_NOUGHT : Value
  v_NOUGHT : V
  m_NOUGHT : mg "NOUGHT" = some u_NOUGHT
  r_NOUGHT : RelV v_NOUGHT u_NOUGHT
  d_NOUGHT : ∀ F, Dp K F v_NOUGHT (.tuple [.tuple [.int 0, .int 1], .tuple [.int 0, .int 1]])
  C_NUMBERS : Addr
  m_NUMBERS : mg "NUMBERS" = some (.ref C_NUMBERS)
  es_NUMBERS : Array DictEntry
  nn_NUMBERS : Nat
  kd_NUMBERS : KDict K w C_NUMBERS es_NUMBERS nn_NUMBERS
  tk_NUMBERS_go : Tok
  i_NUMBERS_go : PySem.W.nsIn K C_NUMBERS "go" = some (some (.int 1 tk_NUMBERS_go))
  tk_NUMBERS_skip : Tok
  i_NUMBERS_skip : PySem.W.nsIn K C_NUMBERS "skip" = some (some (.int 1 tk_NUMBERS_skip))
  tk_NUMBERS_side : Tok
  i_NUMBERS_side : PySem.W.nsIn K C_NUMBERS "side" = some (some (.int 2 tk_NUMBERS_side))
  tk_NUMBERS_dot : Tok
  i_NUMBERS_dot : PySem.W.nsIn K C_NUMBERS "dot" = some (some (.int 0 tk_NUMBERS_dot))
  tk_NUMBERS_left : Tok
  i_NUMBERS_left : PySem.W.nsIn K C_NUMBERS "left" = some (some (.int 0 tk_NUMBERS_left))
  tk_NUMBERS_right : Tok
  i_NUMBERS_right : PySem.W.nsIn K C_NUMBERS "right" = some (some (.int 0 tk_NUMBERS_right))
  tk_NUMBERS_round : Tok
  i_NUMBERS_round : PySem.W.nsIn K C_NUMBERS "round" = some (some (.int 0 tk_NUMBERS_round))
  tk_NUMBERS_mirror : Tok
  i_NUMBERS_mirror : PySem.W.nsIn K C_NUMBERS "mirror" = some (some (.int 0 tk_NUMBERS_mirror))
  tk_NUMBERS_grow : Tok
  i_NUMBERS_grow : PySem.W.nsIn K C_NUMBERS "grow" = some (some (.int 1 tk_NUMBERS_grow))
  tk_NUMBERS_quarter : Tok
  i_NUMBERS_quarter : PySem.W.nsIn K C_NUMBERS "quarter" = some (some (.int 1 tk_NUMBERS_quarter))
  tk_NUMBERS_half : Tok
  i_NUMBERS_half : PySem.W.nsIn K C_NUMBERS "half" = some (some (.int 1 tk_NUMBERS_half))
  tk_NUMBERS_arc : Tok
  i_NUMBERS_arc : PySem.W.nsIn K C_NUMBERS "arc" = some (some (.int 4 tk_NUMBERS_arc))
  j_NUMBERS_again : PySem.W.nsIn K C_NUMBERS "again" = some none
  j_NUMBERS_keep : PySem.W.nsIn K C_NUMBERS "keep" = some none
  j_NUMBERS_ever : PySem.W.nsIn K C_NUMBERS "ever" = some none
  ks_NUMBERS : keysS es_NUMBERS.toList = (["go", "skip", "side", "dot", "left", "right", "round", "mirror", "grow", "quarter", "half", "arc"] : List Str)
  C_TURNS : Addr
  m_TURNS : mg "TURNS" = some (.ref C_TURNS)
  es_TURNS : Array DictEntry
  nn_TURNS : Nat
  kd_TURNS : KDict K w C_TURNS es_TURNS nn_TURNS
  tk_TURNS_left : Tok
  i_TURNS_left : PySem.W.nsIn K C_TURNS "left" = some (some (.int 1 tk_TURNS_left))
  tk_TURNS_round : Tok
  i_TURNS_round : PySem.W.nsIn K C_TURNS "round" = some (some (.int 2 tk_TURNS_round))
  tk_TURNS_right : Tok
  i_TURNS_right : PySem.W.nsIn K C_TURNS "right" = some (some (.int 3 tk_TURNS_right))
  ks_TURNS : keysS es_TURNS.toList = (["left", "round", "right"] : List Str)
  C_Looker : Addr
  g_Looker : mg "Looker" = some (.ref C_Looker)
  kp_Looker : PySem.W.keepIn K (.ref C_Looker) = true
  cl_Looker : Cls K C_Looker
  na_Looker_number : NoAttr K C_Looker "number"
  C_Reader : Addr
  g_Reader : mg "Reader" = some (.ref C_Reader)
  kp_Reader : PySem.W.keepIn K (.ref C_Reader) = true
  cl_Reader : Cls K C_Reader
  na_Reader_heads : NoAttr K C_Reader "heads"
  na_Reader_rows : NoAttr K C_Reader "rows"
  me_Looker_init : Meth K C_Looker "__init__" a_Looker_init
  mk_Looker : Mk K C_Looker a_Looker_init
  me_Looker_look_at : Meth K C_Looker "look_at" a_Looker_look_at
  me_Looker_look_into : Meth K C_Looker "look_into" a_Looker_look_into
  me_Reader_init : Meth K C_Reader "__init__" a_Reader_init
  mk_Reader : Mk K C_Reader a_Reader_init
  me_Reader_closed : Meth K C_Reader "closed" a_Reader_closed
  me_Reader_opened : Meth K C_Reader "opened" a_Reader_opened
  me_Reader_read_line : Meth K C_Reader "read_line" a_Reader_read_line
  C_MillError : Addr
  g_MillError : mg "MillError" = some (.ref C_MillError)
  kp_MillError : PySem.W.keepIn K (.ref C_MillError) = true
  C_NoKin : Addr
  g_NoKin : mg "NoKin" = some (.ref C_NoKin)
  kp_NoKin : PySem.W.keepIn K (.ref C_NoKin) = true
  C_NoNumber : Addr
  g_NoNumber : mg "NoNumber" = some (.ref C_NoNumber)
  kp_NoNumber : PySem.W.keepIn K (.ref C_NoNumber) = true
  C_NoPiece : Addr
  g_NoPiece : mg "NoPiece" = some (.ref C_NoPiece)
  kp_NoPiece : PySem.W.keepIn K (.ref C_NoPiece) = true
  C_NoRow : Addr
  g_NoRow : mg "NoRow" = some (.ref C_NoRow)
  kp_NoRow : PySem.W.keepIn K (.ref C_NoRow) = true
  C_NoText : Addr
  g_NoText : mg "NoText" = some (.ref C_NoText)
  kp_NoText : PySem.W.keepIn K (.ref C_NoText) = true
  C_TooMuch : Addr
  g_TooMuch : mg "TooMuch" = some (.ref C_TooMuch)
  kp_TooMuch : PySem.W.keepIn K (.ref C_TooMuch) = true
  iC_NoRow : PySem.W.findIn K (.ref C_NoRow) "__init__" = some (some (.ref a_NoRow_init))
  iT_NoRow : PySem.W.isFn K (.ref a_NoRow_init) = true
  iC_NoText : PySem.W.findIn K (.ref C_NoText) "__init__" = some (some (.ref a_NoText_init))
  iT_NoText : PySem.W.isFn K (.ref a_NoText_init) = true
  s_MillError : PySem.W.subIn K (.ref C_MillError) (.type "BaseException") = some true
  t_MillError : PySem.W.typeIn K (.ref C_MillError) = some (.type "type")
  d_MillError : PySem.W.hasDictIn K C_MillError = true
  s_NoKin : PySem.W.subIn K (.ref C_NoKin) (.type "BaseException") = some true
  t_NoKin : PySem.W.typeIn K (.ref C_NoKin) = some (.type "type")
  d_NoKin : PySem.W.hasDictIn K C_NoKin = true
  s_NoNumber : PySem.W.subIn K (.ref C_NoNumber) (.type "BaseException") = some true
  t_NoNumber : PySem.W.typeIn K (.ref C_NoNumber) = some (.type "type")
  d_NoNumber : PySem.W.hasDictIn K C_NoNumber = true
  s_NoPiece : PySem.W.subIn K (.ref C_NoPiece) (.type "BaseException") = some true
  t_NoPiece : PySem.W.typeIn K (.ref C_NoPiece) = some (.type "type")
  d_NoPiece : PySem.W.hasDictIn K C_NoPiece = true
  s_NoRow : PySem.W.subIn K (.ref C_NoRow) (.type "BaseException") = some true
  t_NoRow : PySem.W.typeIn K (.ref C_NoRow) = some (.type "type")
  d_NoRow : PySem.W.hasDictIn K C_NoRow = true
  s_NoText : PySem.W.subIn K (.ref C_NoText) (.type "BaseException") = some true
  t_NoText : PySem.W.typeIn K (.ref C_NoText) = some (.type "type")
  d_NoText : PySem.W.hasDictIn K C_NoText = true
  s_TooMuch : PySem.W.subIn K (.ref C_TooMuch) (.type "BaseException") = some true
  t_TooMuch : PySem.W.typeIn K (.ref C_TooMuch) = some (.type "type")
  d_TooMuch : PySem.W.hasDictIn K C_TooMuch = true
  x_NoNumber : PySem.W.excIn K C_NoNumber [.type "ValueError", .type "Exception", .type "BaseException", .type "object"] "ValueError.__new__" = true
  v_NoNumber : PySem.W.subIn K (.ref C_NoNumber) (.type "ValueError") = some true
  hg_NoNumber : PySem.W.findIn K (.ref C_NoNumber) "__getattribute__" = some (some (.builtin "BaseException.__getattribute__"))
  hk_NoNumber : PySem.W.findIn K (.ref C_NoNumber) "__getattr__" = some none
  ha_NoNumber : PySem.W.findIn K (.ref C_NoNumber) "__class__" = some (some (.builtin "object.__class__"))
  hm_NoNumber : PySem.W.mroIn K C_NoNumber (.type "object") = some true
  sub_NoNumber_MillError : PySem.W.subIn K (.ref C_NoNumber) (.ref C_MillError) = some true
  sub_NoNumber_NoKin : PySem.W.subIn K (.ref C_NoNumber) (.ref C_NoKin) = some false
  ne_NoNumber_NoKin : (Value.ref C_NoNumber == Value.ref C_NoKin) = false
  sub_NoNumber_NoPiece : PySem.W.subIn K (.ref C_NoNumber) (.ref C_NoPiece) = some false
  ne_NoNumber_NoPiece : (Value.ref C_NoNumber == Value.ref C_NoPiece) = false
  sub_NoNumber_NoRow : PySem.W.subIn K (.ref C_NoNumber) (.ref C_NoRow) = some false
  ne_NoNumber_NoRow : (Value.ref C_NoNumber == Value.ref C_NoRow) = false
  sub_NoNumber_NoText : PySem.W.subIn K (.ref C_NoNumber) (.ref C_NoText) = some false
  ne_NoNumber_NoText : (Value.ref C_NoNumber == Value.ref C_NoText) = false
  sub_NoNumber_TooMuch : PySem.W.subIn K (.ref C_NoNumber) (.ref C_TooMuch) = some false
  ne_NoNumber_TooMuch : (Value.ref C_NoNumber == Value.ref C_TooMuch) = false
  x_NoPiece : PySem.W.excIn K C_NoPiece [.type "ValueError", .type "Exception", .type "BaseException", .type "object"] "ValueError.__new__" = true
  v_NoPiece : PySem.W.subIn K (.ref C_NoPiece) (.type "ValueError") = some true
  hg_NoPiece : PySem.W.findIn K (.ref C_NoPiece) "__getattribute__" = some (some (.builtin "BaseException.__getattribute__"))
  hk_NoPiece : PySem.W.findIn K (.ref C_NoPiece) "__getattr__" = some none
  ha_NoPiece : PySem.W.findIn K (.ref C_NoPiece) "__class__" = some (some (.builtin "object.__class__"))
  hm_NoPiece : PySem.W.mroIn K C_NoPiece (.type "object") = some true
  sub_NoPiece_MillError : PySem.W.subIn K (.ref C_NoPiece) (.ref C_MillError) = some true
  sub_NoPiece_NoKin : PySem.W.subIn K (.ref C_NoPiece) (.ref C_NoKin) = some false
  ne_NoPiece_NoKin : (Value.ref C_NoPiece == Value.ref C_NoKin) = false
  sub_NoPiece_NoNumber : PySem.W.subIn K (.ref C_NoPiece) (.ref C_NoNumber) = some false
  ne_NoPiece_NoNumber : (Value.ref C_NoPiece == Value.ref C_NoNumber) = false
  sub_NoPiece_NoRow : PySem.W.subIn K (.ref C_NoPiece) (.ref C_NoRow) = some false
  ne_NoPiece_NoRow : (Value.ref C_NoPiece == Value.ref C_NoRow) = false
  sub_NoPiece_NoText : PySem.W.subIn K (.ref C_NoPiece) (.ref C_NoText) = some false
  ne_NoPiece_NoText : (Value.ref C_NoPiece == Value.ref C_NoText) = false
  sub_NoPiece_TooMuch : PySem.W.subIn K (.ref C_NoPiece) (.ref C_TooMuch) = some false
  ne_NoPiece_TooMuch : (Value.ref C_NoPiece == Value.ref C_TooMuch) = false
  o_NoRow : oexB K C_NoRow = true
  xs_NoRow : PySem.W.findIn K (.ref C_NoRow) "__setattr__" = some (some (.builtin "object.__setattr__"))
  sub_NoRow_NoRow : PySem.W.subIn K (.ref C_NoRow) (.ref C_NoRow) = some true
  ci_NoRow : (PySem.W.clsIn K C_NoRow).isSome = true
  nf_NoRow : PySem.W.findIn K (.ref C_NoRow) "row" = some none
  bga_MillError : PySem.W.specialIn K (.ref C_MillError) "__getattribute__" = some (some (.builtin "type.__getattribute__"))
  br_MillError : PySem.W.readsIn K C_MillError (.type "type") = true
  bi_MillError : PySem.W.findCls K (.ref C_MillError) (.type "type") "__init__" = some (.val (.builtin "ValueError.__init__"))
  v_NoRow : PySem.W.subIn K (.ref C_NoRow) (.type "ValueError") = some true
  hg_NoRow : PySem.W.findIn K (.ref C_NoRow) "__getattribute__" = some (some (.builtin "BaseException.__getattribute__"))
  hk_NoRow : PySem.W.findIn K (.ref C_NoRow) "__getattr__" = some none
  ha_NoRow : PySem.W.findIn K (.ref C_NoRow) "__class__" = some (some (.builtin "object.__class__"))
  hm_NoRow : PySem.W.mroIn K C_NoRow (.type "object") = some true
  sub_NoRow_MillError : PySem.W.subIn K (.ref C_NoRow) (.ref C_MillError) = some true
  sub_NoRow_NoKin : PySem.W.subIn K (.ref C_NoRow) (.ref C_NoKin) = some false
  ne_NoRow_NoKin : (Value.ref C_NoRow == Value.ref C_NoKin) = false
  sub_NoRow_NoNumber : PySem.W.subIn K (.ref C_NoRow) (.ref C_NoNumber) = some false
  ne_NoRow_NoNumber : (Value.ref C_NoRow == Value.ref C_NoNumber) = false
  sub_NoRow_NoPiece : PySem.W.subIn K (.ref C_NoRow) (.ref C_NoPiece) = some false
  ne_NoRow_NoPiece : (Value.ref C_NoRow == Value.ref C_NoPiece) = false
  sub_NoRow_NoText : PySem.W.subIn K (.ref C_NoRow) (.ref C_NoText) = some false
  ne_NoRow_NoText : (Value.ref C_NoRow == Value.ref C_NoText) = false
  sub_NoRow_TooMuch : PySem.W.subIn K (.ref C_NoRow) (.ref C_TooMuch) = some false
  ne_NoRow_TooMuch : (Value.ref C_NoRow == Value.ref C_TooMuch) = false
  o_NoText : oexB K C_NoText = true
  xs_NoText : PySem.W.findIn K (.ref C_NoText) "__setattr__" = some (some (.builtin "object.__setattr__"))
  sub_NoText_NoText : PySem.W.subIn K (.ref C_NoText) (.ref C_NoText) = some true
  ci_NoText : (PySem.W.clsIn K C_NoText).isSome = true
  nf_NoText : PySem.W.findIn K (.ref C_NoText) "line" = some none
  v_NoText : PySem.W.subIn K (.ref C_NoText) (.type "ValueError") = some true
  hg_NoText : PySem.W.findIn K (.ref C_NoText) "__getattribute__" = some (some (.builtin "BaseException.__getattribute__"))
  hk_NoText : PySem.W.findIn K (.ref C_NoText) "__getattr__" = some none
  ha_NoText : PySem.W.findIn K (.ref C_NoText) "__class__" = some (some (.builtin "object.__class__"))
  hm_NoText : PySem.W.mroIn K C_NoText (.type "object") = some true
  sub_NoText_MillError : PySem.W.subIn K (.ref C_NoText) (.ref C_MillError) = some true
  sub_NoText_NoKin : PySem.W.subIn K (.ref C_NoText) (.ref C_NoKin) = some false
  ne_NoText_NoKin : (Value.ref C_NoText == Value.ref C_NoKin) = false
  sub_NoText_NoNumber : PySem.W.subIn K (.ref C_NoText) (.ref C_NoNumber) = some false
  ne_NoText_NoNumber : (Value.ref C_NoText == Value.ref C_NoNumber) = false
  sub_NoText_NoPiece : PySem.W.subIn K (.ref C_NoText) (.ref C_NoPiece) = some false
  ne_NoText_NoPiece : (Value.ref C_NoText == Value.ref C_NoPiece) = false
  sub_NoText_NoRow : PySem.W.subIn K (.ref C_NoText) (.ref C_NoRow) = some false
  ne_NoText_NoRow : (Value.ref C_NoText == Value.ref C_NoRow) = false
  sub_NoText_TooMuch : PySem.W.subIn K (.ref C_NoText) (.ref C_TooMuch) = some false
  ne_NoText_TooMuch : (Value.ref C_NoText == Value.ref C_TooMuch) = false
  x_TooMuch : PySem.W.excIn K C_TooMuch [.type "ValueError", .type "Exception", .type "BaseException", .type "object"] "ValueError.__new__" = true
  v_TooMuch : PySem.W.subIn K (.ref C_TooMuch) (.type "ValueError") = some true
  hg_TooMuch : PySem.W.findIn K (.ref C_TooMuch) "__getattribute__" = some (some (.builtin "BaseException.__getattribute__"))
  hk_TooMuch : PySem.W.findIn K (.ref C_TooMuch) "__getattr__" = some none
  ha_TooMuch : PySem.W.findIn K (.ref C_TooMuch) "__class__" = some (some (.builtin "object.__class__"))
  hm_TooMuch : PySem.W.mroIn K C_TooMuch (.type "object") = some true
  sub_TooMuch_MillError : PySem.W.subIn K (.ref C_TooMuch) (.ref C_MillError) = some true
  sub_TooMuch_NoKin : PySem.W.subIn K (.ref C_TooMuch) (.ref C_NoKin) = some false
  ne_TooMuch_NoKin : (Value.ref C_TooMuch == Value.ref C_NoKin) = false
  sub_TooMuch_NoNumber : PySem.W.subIn K (.ref C_TooMuch) (.ref C_NoNumber) = some false
  ne_TooMuch_NoNumber : (Value.ref C_TooMuch == Value.ref C_NoNumber) = false
  sub_TooMuch_NoPiece : PySem.W.subIn K (.ref C_TooMuch) (.ref C_NoPiece) = some false
  ne_TooMuch_NoPiece : (Value.ref C_TooMuch == Value.ref C_NoPiece) = false
  sub_TooMuch_NoRow : PySem.W.subIn K (.ref C_TooMuch) (.ref C_NoRow) = some false
  ne_TooMuch_NoRow : (Value.ref C_TooMuch == Value.ref C_NoRow) = false
  sub_TooMuch_NoText : PySem.W.subIn K (.ref C_TooMuch) (.ref C_NoText) = some false
  ne_TooMuch_NoText : (Value.ref C_TooMuch == Value.ref C_NoText) = false
  e_hn : PySem.W.specialIn K (.builtin "object.__class__") "__get__" = some (some (.builtin "getset_descriptor.__get__"))
  e_ht : PySem.W.takesIn K (.builtin "object.__class__") = some true
section
variable {P : Program} {w : World} {K : PySem.W.Frag} {mg : Str → Option Value} {base : Heap}
local macro_rules | `(tactic| walk_at "fb") => `(tactic| with_reducible first | assumption | (apply fb_add <;> walk_at "fb") | (apply fb_sub <;> walk_at "fb") | (apply fb_mul <;> walk_at "fb") | (apply fb_div <;> walk_at "fb") | (apply fb_neg <;> walk_at "fb") | exact fb_one | exact fb_zero)
local macro_rules | `(tactic| walk_at "fk") => `(tactic| with_reducible first | assumption | (apply Fk.nx; walk_at "fk"))
local macro_rules | `(tactic| walk_at "ib") => `(tactic| with_reducible first | assumption | (apply ib_num; walk_at "fb") | (apply ib_den; walk_at "fb") | (apply ib_mul <;> walk_at "ib") | (apply ib_add <;> walk_at "ib") | (apply ib_sub <;> walk_at "ib") | (apply ib_neg; walk_at "ib") | (apply ib_v; walk_at "ib"; decide) | exact ib_n 2 (by decide) | exact ib_n 6 (by decide) | exact ib_n 12 (by decide) | exact ib_n 20 (by decide) | exact ib_n 32 (by decide) | exact ib_lit (by decide) | exact ib_lit2 (by decide))
local macro_rules | `(tactic| walk_at "nz") => `(tactic| first | with_reducible exact den_ne _ | assumption | ((with_reducible apply one_v); decide) | ((with_reducible apply Int.mul_ne_zero) <;> walk_at "nz") | omega | decide)
local macro_rules | `(tactic| walk_at "ob") => `(tactic| first | ((with_reducible apply cmul_ib); walk_at "ib"; walk_at "ib"; omega) | ((with_reducible apply lt_ib); walk_at "ib"; omega) | ((with_reducible apply lt_ib8); walk_at "ib"; omega) | walk_at "nz" | (with_reducible rfl) | omega | decide | assumption | exact k_int_int | exact k_int_bool | exact k_bool_bool | exact k_tuple_tuple)
local macro_rules | `(tactic| walk_at "eqv") => `(tactic| first | exact SeqAt.eqv_refl _ rfl | (rw [eqv_fr]; first | exact decide_eq_true (by assumption) | exact decide_eq_false (by assumption)))
local macro_rules | `(tactic| walk_at "dec") => `(tactic| first | rfl | decide | exact decide_eq_true (by omega) | exact decide_eq_false (by omega))
local macro_rules | `(tactic| walk_at "fb") => `(tactic| with_reducible first | (apply Pb.fx; walk_at "fb") | (apply Pb.fy; walk_at "fb") | (apply pb_add <;> walk_at "fb") | (apply pb_sub <;> walk_at "fb") | (apply pb_smul <;> walk_at "fb") | (apply fb_along <;> walk_at "fb") | (apply fb_across <;> walk_at "fb") | (apply fb_far <;> walk_at "fb"))
local macro_rules | `(tactic| walk_at "ib") => `(tactic| with_reducible (apply ib_less <;> walk_at "fb"))
local macro_rules | `(tactic| walk_at "fb") => `(tactic| with_reducible first | (apply fb_ib <;> walk_at "ib") | (apply fb_int8; decide))
local macro_rules | `(tactic| walk_at "fb") => `(tactic| with_reducible first | (apply fb_uS; walk_at "fb") | (apply fb_vS; walk_at "fb") | (apply pb_share <;> walk_at "fb"))
local macro_rules | `(tactic| walk_at "ob") => `(tactic| with_reducible exact div_ok (b := 64) (by decide) (by decide))
local macro_rules | `(tactic| walk_at "fb") => `(tactic| with_reducible (apply fb_abs; walk_at "fb"))
def c_law_row : Con := fun ss M R _ => ∃ (c : Int) (k : Nat), ss = [.d (.int c), .d (.int k)] ∧ k ≤ 1000 ∧ ∀ rs : List Int, rs.length = k → Mil rs → R (.d (.list (rs.map PyData.int))) M
theorem ok_law_row (T : Tx w K mg) : FnOk P w K mg base (L2.CX P w) 1 T.a_law_row T.fd_law_row ["_law_cell", "_law_many"] (spD K c_law_row) := by
  refine Fun.okD T.F_law_row sc_law_row (fun ss M R Rx h => ?_) (fun cdv A outer s H E ss M R Rx h hr tk => ?_)
  · obtain ⟨c, k, rfl, _⟩ := h
    rfl
  · obtain ⟨c, k, rfl, hk, hR⟩ := h
    -- found = []
    refine b_cons (s_setM 2 sc_law_row.nd (n_lst ea_nil) (fun q => ?_))
    -- number = cell
    refine b_cons (s_set 3 sc_law_row.nd (e_var 0 rfl) ?_)
    -- if abs(cell) < 10 ** 18:
    refine b_cut (fun γ' M' => M' = M ++ [(q, MO.lst [])] ∧ ∃ nu : Int, γ' = [.d (.int c), .d (.int k), .ob q, .d (.int nu), .no] ∧ ((c.natAbs : Int) < 1000000000000000000 → 0 ≤ nu ∧ nu < 2147483648)) (s_if (t_lt (e_abs rfl T.n_abs (ea_cons (e_var 0 rfl) ea_nil)) (e_pow (z := 1000000000000000000) e_int e_int pow_ok (by decide))) (fun h1 => ?_) (fun h1 => ?_)) ?_
    · -- number = cell % 2147483647 + 1
      refine b_cons (s_set 3 sc_law_row.nd (e_add (e_mod (e_var 0 rfl) e_int (by decide)) e_int) ?_)
      have h2 := Int.emod_nonneg c (b := 2147483647) (by decide)
      have h3 := Int.emod_lt_of_pos c (b := 2147483647) (by decide)
      exact b_nil ⟨rfl, _, rfl, fun _ => ⟨by omega, by omega⟩⟩
    · exact b_nil ⟨rfl, _, rfl, fun h => absurd h (of_decide_eq_false h1)⟩
    rintro _ _ ⟨rfl, nu, rfl, hnu⟩
    -- for k in range(many):
    refine b_cons (s_for (passes_of rfl) rfl (i_range1 rfl T.n_range (ea_cons (e_var 1 rfl) ea_nil) (by omega)) (fun i γ' M' => ∃ (rs : List Int) (nu : Int) (u : S), M' = M ++ [(q, MO.lst ((rs.map PyData.int).map S.d))] ∧ γ' = [.d (.int c), .d (.int k), .ob q, .d (.int nu), u] ∧ rs.length = i ∧ Mil rs ∧ ((c.natAbs : Int) < 1000000000000000000 → 0 ≤ nu ∧ nu < 2147483648)) ⟨[], nu, _, rfl, rfl, rfl, fun _ h => (nomatch h), hnu⟩ (fun _ _ _ _ => trivial) (fun i x γ2 M2 hx w => ?_) (fun γ2 M2 w => ?_))
    · obtain ⟨rs, nu, u, rfl, rfl, hl, hm, hnu⟩ := w
      obtain ⟨hi, rfl⟩ : i < k ∧ x = S.d (.int (0 + (i : Int))) := by
        obtain ⟨h1, h2⟩ := List.getElem?_eq_some_iff.mp hx
        have h1 : i < k := by simpa using h1
        refine ⟨h1, ?_⟩
        rw [← h2]
        simp
      refine ⟨_, g_name 4 sc_law_row.nd, ?_⟩
      have snoc : ∀ z : Int, M ++ [(q, MO.lst ((rs.map PyData.int).map S.d ++ [S.d (.int z)]))] = M ++ [(q, MO.lst (((rs ++ [z]).map PyData.int).map S.d))] := fun z => by
        rw [List.map_append, List.map_append]
        rfl
      have mil : ∀ z : Int, 0 ≤ z ∧ z < 1000000 → Mil (rs ++ [z]) := fun z hz r hr => by
        rcases List.mem_append.mp hr with h | h
        · exact hm r h
        · rw [List.mem_singleton.mp h]
          exact hz
      have m6 : ∀ z : Int, 0 ≤ z % 1000000 ∧ z % 1000000 < 1000000 := fun z => ⟨Int.emod_nonneg z (by decide), Int.emod_lt_of_pos z (by decide)⟩
      have hlen : ((rs.map PyData.int).map S.d).length < 100000 := by rw [List.length_map, List.length_map]; omega
      -- if abs(cell) < 10 ** 18:
      refine b_cons (s_if (t_lt (e_abs rfl T.n_abs (ea_cons (e_var 0 rfl) ea_nil)) (e_pow (z := 1000000000000000000) e_int e_int pow_ok (by decide))) (fun h1 => ?_) (fun h1 => ?_))
      · obtain ⟨n0, n1⟩ := hnu (of_decide_eq_true h1)
        have hib : Ib 32 nu := ⟨by decide, by show _ < 4294967296; omega⟩
        -- number = number * 48271 % 2147483647
        refine b_cons (s_set 3 sc_law_row.nd (e_mod (e_mul (e_var 3 rfl) e_int (by walk_at "ob")) e_int (by decide)) ?_)
        have h2 := Int.emod_nonneg (nu * 48271) (b := 2147483647) (by decide)
        have h3 := Int.emod_lt_of_pos (nu * 48271) (b := 2147483647) (by decide)
        generalize nu * 48271 % 2147483647 = nv at *
        have hib2 : Ib 32 nv := ⟨by decide, by show _ < 4294967296; omega⟩
        -- found.append((number * number + 69621 * number + k) % 214748
        refine b_cons (s_expr (e_append (k := M.length) (e_var 2 rfl) (ea_cons (e_mod (e_fdiv (e_mod (e_add (e_add (e_mul (e_var 3 rfl) (e_var 3 rfl) (by walk_at "ob")) (e_mul e_int (e_var 3 rfl) (by walk_at "ob"))) (e_var 4 rfl)) e_int (by decide)) e_int (div_ok (b := 64) (by decide) (by decide))) (e_pow (z := 1000000) e_int e_int pow_ok (by decide)) (by decide)) ea_nil) (ga1 _ _) hlen ⟨M.length, _, ga1 _ _⟩) ?_)
        rw [sa1, snoc]
        exact b_nil (b_nil ⟨_, _, _, rfl, rfl, by rw [List.length_append, hl]; rfl, mil _ (m6 _), fun _ => ⟨h2, by omega⟩⟩)
      · -- found.append(number % 10 ** 6)
        refine b_cons (s_expr (e_append (k := M.length) (e_var 2 rfl) (ea_cons (e_mod (e_var 3 rfl) (e_pow (z := 1000000) e_int e_int pow_ok (by decide)) (by decide)) ea_nil) (ga1 _ _) hlen ⟨M.length, _, ga1 _ _⟩) ?_)
        rw [sa1, snoc]
        -- number = number // 10 ** 6
        refine b_cons (s_set 3 sc_law_row.nd (e_fdiv (e_var 3 rfl) (e_pow (z := 1000000) e_int e_int pow_ok (by decide)) (div_ok (b := 64) (by decide) (by decide))) ?_)
        exact b_nil (b_nil ⟨_, _, _, rfl, rfl, by rw [List.length_append, hl]; rfl, mil _ (m6 _), fun h => absurd h (of_decide_eq_false h1)⟩)
    · obtain ⟨rs, nu, u, rfl, rfl, hl, hm, hnu⟩ := w
      refine b_frz (ds := rs.map PyData.int) 2 rfl ?_
      -- return found
      refine b_cons (s_ret (e_var 2 rfl) ?_)
      exact hR rs (by rw [hl]; simp) hm

def c_law_rows : Con := fun ss M R _ => ∃ (n : Nat) (ws : List Int), ss = [.d (.int (n : Int)), .d (.list (ws.map PyData.int))] ∧ n ≤ 100 ∧ 8 ≤ ws.length ∧ ∀ rs, s23L rs → sizeL rs = n → deepL rs ≤ 9 → R (.d (.tuple (rowsD rs))) M
theorem ok_law_rows (T : Tx w K mg) : FnOk P w K mg base (L2.CX P w) 1 T.a_law_rows T.fd_law_rows ["_law_many", "_law_row_here"] (spD K c_law_rows) := by
  refine Fun.okD T.F_law_rows sc_law_rows (fun ss M R Rx h => ?_) (fun cdv A outer s H E ss M R Rx h hr tk => ?_)
  · obtain ⟨n, ws, rfl, _⟩ := h
    rfl
  · obtain ⟨n, ws, rfl, hn, hl, hR⟩ := h
    -- rows_here = ()
    refine b_cons (s_set 2 sc_law_rows.nd (e_tup (ds := []) ea_nil) ?_)
    -- left = many
    refine b_cons (s_set 3 sc_law_rows.nd (e_var 0 rfl) ?_)
    -- deep_here = 0
    refine b_cons (s_set 4 sc_law_rows.nd e_int ?_)
    -- while left > 0:
    refine b_cons (s_while (passes_of rfl) (fun m γ' M' => ∃ (rs : List Rw) (dh : Nat) (u5 u6 u7 : S), M' = M ∧ γ' = [.d (.int (n : Int)), .d (.list (ws.map PyData.int)), .d (.tuple (rowsD rs)), .d (.int (m : Int)), .d (.int (dh : Int)), u5, u6, u7, .no] ∧ s23L rs ∧ sizeL rs + m = n ∧ deepL rs ≤ dh ∧ deepL rs ≤ 9) n ⟨[], 0, _, _, _, rfl, rfl, trivial, (show 0 + n = n by omega), Nat.le_refl _, Nat.zero_le _⟩ fun m γ2 M2 w => ?_)
    obtain ⟨rs, dh, u5, u6, u7, rfl, rfl, hs, hz, hd, hd9⟩ := w
    have hrl := len_size rs
    refine ⟨decide ((0 : Int) < (m : Int)), _, (t_gt (e_var 3 rfl) e_int), fun h1 => ?_, fun h1 => ?_⟩
    · have hm : 0 < m := by have := of_decide_eq_true h1; omega
      have i6 : itD (.list (ws.map PyData.int)) ((dh : Int) % 6) = some (.int (ws.getD (dh % 6) 0)) := by
        rw [show (dh : Int) % 6 = ((dh % 6 : Nat) : Int) by omega]
        exact itI (by omega)
      have i5 : itD (.list (ws.map PyData.int)) ((dh : Int) % 5) = some (.int (ws.getD (dh % 5) 0)) := by
        rw [show (dh : Int) % 5 = ((dh % 5 : Nat) : Int) by omega]
        exact itI (by omega)
      have y0 := Int.emod_nonneg (ws.getD (dh % 6) 0) (b := 20) (by decide)
      obtain ⟨k, hk, hkm⟩ : ∃ k : Nat, min ((m : Int) - 1) (1 + ws.getD (dh % 6) 0 % 20) = (k : Int) ∧ k + 1 ≤ m := ⟨(min ((m : Int) - 1) (1 + ws.getD (dh % 6) 0 % 20)).toNat, by omega, by omega⟩
      -- inner = min(left - 1, 1 + row_here[deep_here % 6] % 20)
      refine b_cons (s_set 5 sc_law_rows.nd (e_is (e_min2 rfl rfl T.n_min (ea_cons (e_sub (e_var 3 rfl) e_int) (ea_cons (e_add e_int (e_mod (e_ix (e_var 1 rfl) (e_mod (e_var 4 rfl) e_int (by decide)) i6) e_int (by decide))) ea_nil))) (congrArg (fun z => S.d (.int z)) hk)) ?_)
      -- if row_here[5] % 4 == 0 or inner < 1 or deep_here > 8:
      refine b_cut (fun γ' M' => M' = M2 ∧ ∃ (rs2 : List Rw) (m2 : Nat) (u5 u6 u7 : S), m2 < m ∧ γ' = [.d (.int (n : Int)), .d (.list (ws.map PyData.int)), .d (.tuple (rowsD rs2)), .d (.int (m2 : Int)), .d (.int (dh : Int)), u5, u6, u7, .no] ∧ s23L rs2 ∧ sizeL rs2 + m2 = n ∧ deepL rs2 ≤ dh + 1 ∧ deepL rs2 ≤ 9) (s_if (b1 := decide (ws.getD 5 0 % 4 = 0) || (decide ((k : Int) < 1) || decide ((8 : Int) < (dh : Int)))) (EW.t (w_or (t_eqI hr (e_mod (e_ix (e_var 1 rfl) e_int (itI (i := 5) (by omega))) e_int (by decide)) e_int) (fun hb => (w_or (t_lt (e_var 5 rfl) e_int) (fun hb => (w_or1 (t_gt (e_var 4 rfl) e_int))))))) (fun h2 => ?_) (fun h2 => ?_)) ?_
      · obtain ⟨r, r1, r2, r3, r4⟩ := three23 (Int.emod_nonneg (m : Int) (b := 3) (by decide)) (Int.emod_lt_of_pos (m : Int) (b := 3) (by decide))
        have rz : r.size = 1 ∧ r.deep = 0 := by cases r <;> first | exact ⟨rfl, rfl⟩ | cases r2
        -- rows_here = rows_here + ((['left', 'dot', 'mirror'][left % 3],),)
        refine b_cons (s_set 2 sc_law_rows.nd (e_is (e_catT (xs := rowsD rs) (ys := [r.D]) (e_var 2 rfl) (e_tup (ds := [r.D]) (ea_cons (e_is (e_tup (ds := [.str r.word]) (ea_cons (e_ix (e_lst (ds := [_, _, _]) (ea_cons e_str (ea_cons e_str (ea_cons e_str ea_nil)))) (e_mod (e_var 3 rfl) e_int (by decide)) r4) ea_nil)) (congrArg S.d r3.symm)) ea_nil)) (by rw [rowsD_len]; show _ + 1 ≤ _; omega)) (congrArg (fun z => S.d (.tuple z)) (show rowsD rs ++ [r.D] = rowsD (rs ++ [r]) from rowsD_app rs [r]))) ?_)
        -- left = left - 1
        refine b_cons (s_set 3 sc_law_rows.nd (e_is (e_sub (e_var 3 rfl) e_int) (show _ = S.d (.int ((m - 1 : Nat) : Int)) from congrArg (fun z => S.d (.int z)) (by omega))) ?_)
        refine b_nil ⟨rfl, rs ++ [r], m - 1, _, _, _, by omega, rfl, s23_app hs (by rw [s23L]; exact ⟨r1, trivial⟩), ?_, ?_, ?_⟩
        · rw [sizeL_app, sizeL, sizeL, rz.1]; omega
        · rw [deepL_app, deepL, deepL, rz.2]; omega
        · rw [deepL_app, deepL, deepL, rz.2]; omega
      · rw [Bool.or_eq_false_iff, Bool.or_eq_false_iff, decide_eq_false_iff_not, decide_eq_false_iff_not, decide_eq_false_iff_not] at h2
        have hd8 : dh ≤ 8 := by omega
        have x0 := Int.emod_nonneg (ws.getD (dh % 5) 0) (b := 2) (by decide)
        have x1 := Int.emod_lt_of_pos (ws.getD (dh % 5) 0) (b := 2) (by decide)
        obtain ⟨bd, mk, hb, hbi⟩ := blk23 (Int.emod_nonneg (dh : Int) (b := 3) (by decide)) (Int.emod_lt_of_pos (dh : Int) (b := 3) (by decide)) x0 x1
        obtain ⟨⟨hd0, hbd, hdl, hbD⟩, hbs, hbz, hbp⟩ := hb
        subst hbd
        -- block = [('keep',), ('again', row_here[deep_here % 5] % 2), ('keep',)][deep_here % 3]
        refine b_cons (s_set 6 sc_law_rows.nd (e_ix (e_lst (ds := [_, _, _]) (ea_cons (e_tup (ds := [_]) (ea_cons e_str ea_nil)) (ea_cons (e_tup (ds := [_, _]) (ea_cons e_str (ea_cons (e_mod (e_ix (e_var 1 rfl) (e_mod (e_var 4 rfl) e_int (by decide)) i5) e_int (by decide)) ea_nil))) (ea_cons (e_tup (ds := [_]) (ea_cons e_str ea_nil)) ea_nil)))) (e_mod (e_var 4 rfl) e_int (by decide)) hbi) ?_)
        have hown : ((List.range k).map fun _ => Rw.right.D) = rowsD (List.replicate k .right) := rights_D k
        obtain ⟨o1, o2⟩ := rights_nums k
        have o3 : s23L (List.replicate k Rw.right) := s23_rep .right trivial k
        have ol : (List.replicate k Rw.right).length = k := List.length_replicate
        -- own = tuple([('right',) for k in range(inner)])
        refine b_cons (s_set 7 sc_law_rows.nd (e_is (e_tupleL (ds := (List.range k).map fun _ => Rw.right.D) rfl T.n_tuple (ea_cons (e_frz (ds := (List.range k).map fun _ => Rw.right.D) (n_compI 8 (List.range k) (fun j => PyData.int (0 + (j : Int))) (fun _ => Rw.right.D) rfl sc_law_rows.nd (by rw [List.map_map]; exact i_range1 (hi := (k : Int)) rfl T.n_range (ea_cons (e_var 5 rfl) ea_nil) (by omega)) (blkOk_by rfl) (by exact (show 8 < 9 by decide)) (Nat.ble_eq_true_of_le (by rw [List.length_range]; omega)) (fun x hx M' s' H' C cl fp => e_is (e_tup (ds := [_]) (ea_cons e_str ea_nil)) (show _ = S.d Rw.right.D from rfl)) (hg := fun _ _ _ _ _ => pg_name sc_law_rows.nd rfl (Or.inl rfl)))) ea_nil) .d) (congrArg (fun z => S.d (.tuple z)) hown)) ?_)
        generalize List.replicate k Rw.right = os at o1 o2 o3 ol
        -- if row_here[4] % 3 == 0 and deep_here % 4 < 3:
        refine b_cut (fun γ' M' => M' = M2 ∧ ∃ (rs2 : List Rw) (u5 u6 u7 : S), γ' = [.d (.int (n : Int)), .d (.list (ws.map PyData.int)), .d (.tuple (rowsD rs2)), .d (.int (m : Int)), .d (.int (dh : Int)), .d (.int (k : Int)), u6, u7, .no] ∧ s23L rs2 ∧ sizeL rs2 = sizeL rs + 1 + k ∧ deepL rs2 ≤ dh + 1) (s_if (b1 := decide (ws.getD 4 0 % 3 = 0) && decide ((dh : Int) % 4 < 3)) (EW.t (w_and (t_eqI hr (e_mod (e_ix (e_var 1 rfl) e_int (itI (i := 4) (by omega))) e_int (by decide)) e_int) (fun hb => (w_and1 (t_lt (e_mod (e_var 4 rfl) e_int (by decide)) e_int))))) (fun h3 => ?_) (fun h3 => ?_)) ?_
        · have e1 : hd0 ++ [PyData.tuple (rowsD rs ++ rowsD os)] = hd0 ++ [.tuple (rowsD (rs ++ os))] := by rw [← rowsD_app]
          -- rows_here = (block + (rows_here + own,),)
          refine b_cons (s_set 2 sc_law_rows.nd (e_is (e_tup (ds := [(mk (rs ++ os)).D]) (ea_cons (e_is (e_catT (xs := hd0) (ys := [.tuple (rowsD rs ++ rowsD os)]) (e_var 6 rfl) (e_tup (ds := [_]) (ea_cons (e_catT (e_var 2 rfl) (e_var 7 rfl) (by rw [rowsD_len, rowsD_len]; omega)) ea_nil)) (by show _ + 1 ≤ _; omega)) (show _ = S.d (mk (rs ++ os)).D by rw [hbD, e1])) ea_nil)) (show _ = S.d (.tuple (rowsD [mk (rs ++ os)])) from rfl)) ?_)
          refine b_nil ⟨rfl, [mk (rs ++ os)], .d (.int (k : Int)), _, _, rfl, by rw [s23L]; exact ⟨hbs _ (s23_app hs o3), trivial⟩, ?_, ?_⟩
          · rw [sizeL, sizeL, hbz, sizeL_app]; omega
          · rw [deepL, deepL, hbp, deepL_app]; omega
        · -- rows_here = rows_here + (block + (own,),)
          refine b_cons (s_set 2 sc_law_rows.nd (e_is (e_catT (xs := rowsD rs) (ys := [(mk os).D]) (e_var 2 rfl) (e_tup (ds := [(mk os).D]) (ea_cons (e_is (e_catT (xs := hd0) (ys := [.tuple (rowsD os)]) (e_var 6 rfl) (e_tup (ds := [_]) (ea_cons (e_var 7 rfl) ea_nil)) (by show _ + 1 ≤ _; omega)) (congrArg S.d (hbD os).symm)) ea_nil)) (by rw [rowsD_len]; show _ + 1 ≤ _; omega)) (congrArg (fun z => S.d (.tuple z)) (show rowsD rs ++ [(mk os).D] = rowsD (rs ++ [mk os]) from rowsD_app rs [mk os]))) ?_)
          refine b_nil ⟨rfl, rs ++ [mk os], .d (.int (k : Int)), _, _, rfl, s23_app hs (by rw [s23L]; exact ⟨hbs _ o3, trivial⟩), ?_, ?_⟩
          · rw [sizeL_app, sizeL, sizeL, hbz]; omega
          · rw [deepL_app, deepL, deepL, hbp]; omega
        rintro _ _ ⟨rfl, rs2, u5, u6, u7, rfl, q1, q2, q3⟩
        -- left = left - 1 - inner
        refine b_cons (s_set 3 sc_law_rows.nd (e_is (e_sub (e_sub (e_var 3 rfl) e_int) (e_var 5 rfl)) (show _ = S.d (.int ((m - 1 - k : Nat) : Int)) from congrArg (fun z => S.d (.int z)) (by omega))) ?_)
        exact b_nil ⟨rfl, rs2, m - 1 - k, _, _, _, by omega, rfl, q1, by omega, q3, by omega⟩
      rintro _ _ ⟨rfl, rs2, m2, u5, u6, u7, hm2, rfl, q1, q2, q3, q4⟩
      -- deep_here = deep_here + 1
      refine b_cons (s_set 4 sc_law_rows.nd (e_is (e_add (e_var 4 rfl) e_int) (show _ = S.d (.int ((dh + 1 : Nat) : Int)) from congrArg (fun z => S.d (.int z)) (by omega))) ?_)
      exact b_nil ⟨m2, hm2, rs2, dh + 1, _, _, _, rfl, rfl, q1, q2, q3, q4⟩
    · have hm : m = 0 := by have := of_decide_eq_false h1; omega
      subst hm
      -- return rows_here
      refine b_cons (s_ret (e_var 2 rfl) ?_)
      exact hR rs hs (by omega) hd9

def c_law_deep (dp : Nat) : Con := fun ss M R _ => ∃ rs : List Rw, ss = [.d (.tuple (rowsD rs))] ∧ s23L rs ∧ deepL rs ≤ dp ∧ sizeL rs ≤ 1000 ∧ R (.d (.int ((deepL rs : Nat) : Int))) M
theorem at_law_deep (T : Tx w K mg) (dp : Nat) : FnOk P w K mg base (L2.CX P w) (2 * dp + 1) T.a_law_deep T.fd_law_deep ["_law_rows_here"] (spD K (c_law_deep dp)) := by
  induction dp using Nat.strongRecOn with
  | ind dp ih =>
  refine Fun.okD T.F_law_deep sc_law_deep (fun ss M R Rx h => ?_) (fun cdv A outer s H E ss M R Rx h hr tk => ?_)
  · obtain ⟨rs, rfl, _⟩ := h
    rfl
  · obtain ⟨rs, rfl, hs, hd, hz, hR⟩ := h
    have hlen : rs.length ≤ 1000 := Nat.le_trans (len_size rs) hz
    have key := deep_max rs
    -- return max([1 + deep(row_here[-1]) for row_here in rows_here if row_here[0] in ['keep', 'again']], default=0)
    refine b_cons (s_ret (e_is (e_maxDf (ns := (rs.filter fun r => !r.plain).map fun r => 1 + ((deepL r.inner : Nat) : Int)) hr rfl rfl T.n_max (ea_cons (e_compH 1 rs Rw.D (fun r => .int (1 + ((deepL r.inner : Nat) : Int))) (fun r => !r.plain) rfl sc_law_deep.nd (by rw [← rowsD_map]; exact i_tup (e_var 0 rfl)) (fun _ _ => trivial) (blkOk_by rfl) (show 1 < 2 by decide) (by omega) (fun r hr' hb M' s' H C cl fp => by
      rw [Bool.not_eq_true'] at hb
      obtain ⟨d, hd1, hd2⟩ := deep_inner hd hr' hb
      exact e_add e_int (e_call (ih d (by omega)) (hr.mono (by omega)) T.g_law_deep T.F_law_deep.kp T.b_law_deep tkF (ea_cons (e_ix (d := r.D) (e_var 1 rfl) (e_neg e_int) (blk_last hb)) ea_nil) ⟨r.inner, rfl, s23_inner (s23_mem hs hr'), hd2, Nat.le_trans (size_blk hr') hz, rfl, rfl⟩)) (fun r hr' M' s' H C cl fp => t_inD hr (e_ix (d := r.D) (d' := .str r.word) (e_var 1 rfl) e_int (it_word r)) (e_lst (ds := [_, _]) (ea_cons e_str (ea_cons e_str ea_nil))) .d .d (sh_word r) (by decide +kernel) (ka_s23 (s23_mem hs hr'))) (hg := fun _ _ _ _ _ => pg_name sc_law_deep.nd rfl (Or.inl rfl))) ea_nil) (by have h := VL.d (M := M) (xs := (rs.filter fun r => !r.plain).map fun r => PyData.int (1 + ((deepL r.inner : Nat) : Int))); rw [List.map_map] at h ⊢; exact h) e_int) (congrArg (fun z => S.d (.int z)) key)) ?_)
    exact hR
theorem ok_law_deep (T : Tx w K mg) : FnOk P w K mg base (L2.CX P w) 25 T.a_law_deep T.fd_law_deep ["_law_rows_here"] (spD K (c_law_deep 12)) := at_law_deep T 12

def c_rows_in (dp : Nat) : Con := fun ss M R _ => ∃ (rs : List Rw) (L : Nat), ss = [.d (.tuple (rowsD rs))] ∧ Prg L dp rs ∧ R (.d (.int ((sizeL rs : Nat) : Int))) M
theorem size_stepN {rs : List Rw} {i : Nat} {r : Rw} (h : rs[i]? = some r) : sizeL (rs.take (i + 1)) = sizeL (rs.take i) + r.size := by
  rw [take_at h, sizeL_app, sizeL, sizeL, Nat.add_zero]
theorem at_rows_in (T : Tx w K mg) (dp : Nat) : FnOk P w K mg base (L2.CX P w) (3 * dp + 1) T.a_rows_in T.fd_rows_in ["rows"] (spD K (c_rows_in dp)) := by
  induction dp using Nat.strongRecOn with
  | ind dp ih =>
  refine Fun.okD T.F_rows_in sc_rows_in (fun ss M R Rx h => ?_) (fun cdv A outer s H E ss M R Rx h hr tk => ?_)
  · obtain ⟨rs, L, rfl, _⟩ := h
    rfl
  · obtain ⟨rs, L, rfl, hP, hR⟩ := h
    -- many = 0
    refine b_cons (s_set 1 sc_rows_in.nd e_int ?_)
    -- for row in rows:
    refine b_cons (s_for (passes_of rfl) rfl (i_tup (e_var 0 rfl)) (fun i γ' M' => M' = M ∧ ∃ u1, γ' = [.d (.tuple (rowsD rs)), .d (.int ((sizeL (rs.take i) : Nat) : Int)), u1]) ⟨rfl, _, rfl⟩ (fun _ _ _ _ => trivial) (fun i x γ2 M2 hx w => ?_) (fun γ2 M2 w => ?_))
    · obtain ⟨rfl, u1, rfl⟩ := w
      obtain ⟨r, hri, rfl⟩ := rows_at hx
      have hm := List.mem_of_getElem? hri
      have hl := size_stepN hri
      refine ⟨_, g_name 2 sc_rows_in.nd, ?_⟩
      -- many = many + 1
      refine b_cons (s_set 1 sc_rows_in.nd (e_add (e_var 1 rfl) e_int) ?_)
      -- if row[0] in ('again', 'keep', 'ever'):
      refine b_cons (s_if (b1 := !r.plain) (t_inT hr (e_ix (d := r.D) (d' := .str r.word) (e_var 2 rfl) e_int (it_word r)) (e_tup (ds := [_, _, _]) (ea_cons e_str (ea_cons e_str (ea_cons e_str ea_nil)))) .d (sh_word r) .d (by decide +kernel) (blk_any r)) (fun h1 => ?_) (fun h1 => b_nil ?_))
      · have hp : r.plain = false := by simpa using h1
        obtain ⟨d, rfl, hP2⟩ := prg_inner hP hm hp
        have hz : r.size = 1 + sizeL r.inner := by cases r <;> first | rfl | cases hp
        obtain ⟨n, hn, hi⟩ : ∃ n : Nat, lenD r.D = some n ∧ itD r.D ((n : Int) - 1) = some (.tuple (rowsD r.inner)) := by cases r <;> first | exact ⟨_, rfl, rfl⟩ | cases hp
        -- many = many + rows_in(row[len(row) - 1])
        refine b_cons (s_set 1 sc_rows_in.nd (e_add (e_var 1 rfl) (e_call (ih d (Nat.lt_succ_self d)) (hr.mono (by omega)) T.g_rows_in T.F_rows_in.kp T.b_rows_in tk (ea_cons (e_ix (d := r.D) (e_var 2 rfl) (e_sub (e_len rfl T.n_len (ea_cons (e_var 2 rfl) ea_nil) .d hn) e_int) hi) ea_nil) ⟨r.inner, L, rfl, hP2, rfl, rfl⟩)) ?_)
        refine b_nil ?_
        refine b_nil ⟨rfl, .d r.D, ?_⟩
        have e : ((sizeL (rs.take i) : Nat) : Int) + 1 + ((sizeL r.inner : Nat) : Int) = ((sizeL (rs.take (i + 1)) : Nat) : Int) := by omega
        rw [← e]
        rfl
      · have hp : r.plain = true := by simpa using h1
        have hz : r.size = 1 := by cases r <;> first | rfl | cases hp
        refine b_nil ⟨rfl, .d r.D, ?_⟩
        have e : ((sizeL (rs.take i) : Nat) : Int) + 1 = ((sizeL (rs.take (i + 1)) : Nat) : Int) := by omega
        rw [← e]
        rfl
    · obtain ⟨rfl, u1, rfl⟩ := w
      rw [take_rows]
      -- return many
      refine b_cons (s_ret (e_var 1 rfl) ?_)
      exact hR
theorem ok_rows_in (T : Tx w K mg) : FnOk P w K mg base (L2.CX P w) 25 T.a_rows_in T.fd_rows_in ["rows"] (spD K (c_rows_in 8)) := at_rows_in T 8

def c_Looker_init (K : PySem.W.Frag) : Con := fun ss M R _ => ∃ (a C : Addr) (M0 : MM), ss = [.ob a] ∧ M = M0 ++ [(a, .ins C [])] ∧ Cls K C ∧ NoAttr K C "number" ∧ R (.d .none) (M0 ++ [(a, .ins C [("number", .d (.int 0))])])
theorem ok_Looker_init (T : Tx w K mg) : FnOk P w K mg base (L2.CX P w) 1 T.a_Looker_init T.fd_Looker_init ["self"] (spD K (c_Looker_init K)) := by
  refine Fun.okD T.F_Looker_init sc_Looker_init (fun ss M R Rx h => ?_) (fun cdv A outer s H E ss M R Rx h hr tk => ?_)
  · obtain ⟨a, C, M0, rfl, _⟩ := h
    rfl
  · obtain ⟨a, C, M0, rfl, rfl, hC, hn, hR⟩ := h
    -- self.number = 0
    refine b_cons (s_fld (e_int) (e_var 0 rfl) (ga1 M0 _) hC hn ?_)
    refine b_nil ?_
    rw [sa1]
    exact hR

def c_word_of : Con := fun ss M R _ => ∃ r : Rw, ss = [.d r.D] ∧ R (.d (.str r.word)) M
theorem ok_word_of (T : Tx w K mg) : FnOk P w K mg base (L2.CX P w) 1 T.a_word_of T.fd_word_of ["row"] (spD K c_word_of) := by
  refine Fun.okD T.F_word_of sc_word_of (fun ss M R Rx h => ?_) (fun cdv A outer s H E ss M R Rx h hr tk => ?_)
  · obtain ⟨r, rfl, _⟩ := h
    rfl
  · obtain ⟨r, rfl, hR⟩ := h
    obtain ⟨xs, e⟩ := rw_cons r
    have i0 := it_word r
    rw [e] at i0 ⊢
    -- if not isinstance(row, tuple) or len(row) == 0 or (not isinstance(row[0], str)):
    refine b_cons (s_if (b1 := false) (EW.t (w_or (b1 := false) (b2 := false) (t_not (b1 := true) (t_val (e_isi (d := .tuple (.str r.word :: xs)) rfl T.n_isinstance (ea_cons (e_var 0 rfl) (ea_cons (e_ty (n := "tuple") rfl T.n_tuple (by decide +kernel)) ea_nil)) .d k_tuple_tuple))) (fun _ => (w_or (b1 := false) (b2 := false) (t_is (t_eqI hr (e_len rfl T.n_len (ea_cons (e_var 0 rfl) ea_nil) .d (n := xs.length + 1) rfl) e_int) (decide_eq_false (by omega))) (fun _ => (w_or1 (t_not (b1 := true) (t_val (e_isi (d := .str r.word) rfl T.n_isinstance (ea_cons (e_ix (e_var 0 rfl) e_int i0) (ea_cons (e_ty (n := "str") rfl T.n_str (by decide +kernel)) ea_nil)) .d k_str_str))))))))) (fun h => nomatch h) (fun _ => b_nil ?_))
    -- return row[0]
    refine b_cons (s_ret (e_ix (d' := .str r.word) (e_var 0 rfl) e_int i0) ?_)
    exact hR
def c_word_forth : Con := fun ss M R _ => ss = [.d forthD] ∧ R (.d (.str "forth")) M
theorem ok_word_forth (T : Tx w K mg) : FnOk P w K mg base (L2.CX P w) 1 T.a_word_of T.fd_word_of ["row"] (spD K c_word_forth) := by
  refine Fun.okD T.F_word_of sc_word_of (fun ss M R Rx h => ?_) (fun cdv A outer s H E ss M R Rx h hr tk => ?_)
  · obtain ⟨rfl, _⟩ := h
    rfl
  · obtain ⟨rfl, hR⟩ := h
    have i0 : itD forthD 0 = some (.str "forth") := rfl
    -- if not isinstance(row, tuple) or len(row) == 0 or (not isinstance(row[0], str)):
    refine b_cons (s_if (b1 := false) (EW.t (w_or (b1 := false) (b2 := false) (t_not (b1 := true) (t_val (e_isi (d := forthD) rfl T.n_isinstance (ea_cons (e_var 0 rfl) (ea_cons (e_ty (n := "tuple") rfl T.n_tuple (by decide +kernel)) ea_nil)) .d k_tuple_tuple))) (fun _ => (w_or (b1 := false) (b2 := false) (t_is (t_eqI hr (e_len (d := forthD) rfl T.n_len (ea_cons (e_var 0 rfl) ea_nil) .d (n := 1) rfl) e_int) (decide_eq_false (by omega))) (fun _ => (w_or1 (t_not (b1 := true) (t_val (e_isi (d := .str "forth") rfl T.n_isinstance (ea_cons (e_ix (d := forthD) (e_var 0 rfl) e_int i0) (ea_cons (e_ty (n := "str") rfl T.n_str (by decide +kernel)) ea_nil)) .d k_str_str))))))))) (fun h => nomatch h) (fun _ => b_nil ?_))
    -- return row[0]
    exact b_cons (s_ret (e_ix (d := forthD) (d' := .str "forth") (e_var 0 rfl) e_int i0) hR)

def c_divisor : Con := fun ss M R _ => ∃ a b : Int, ss = [.d (.int a), .d (.int b)] ∧ R (.d (.int (Int.gcd a b : Nat))) M
theorem ok_divisor (T : Tx w K mg) : FnOk P w K mg base (L2.CX P w) 1 T.a_divisor T.fd_divisor ["one", "other"] (spD K c_divisor) := by
  refine Fun.okD T.F_divisor sc_divisor (fun ss M R Rx h => ?_) (fun cdv A outer s H E ss M R Rx h hr tk => ?_)
  · obtain ⟨a, b, rfl, _⟩ := h
    rfl
  · obtain ⟨a, b, rfl, hR⟩ := h
    -- one = abs(one)
    refine b_cons (s_set 0 sc_divisor.nd (e_abs rfl T.n_abs (ea_cons (e_var 0 rfl) ea_nil)) ?_)
    -- other = abs(other)
    refine b_cons (s_set 1 sc_divisor.nd (e_abs rfl T.n_abs (ea_cons (e_var 1 rfl) ea_nil)) ?_)
    -- while other > 0:
    refine b_cons (s_while (passes_of rfl) (fun m γ' M' => ∃ x y : Nat, γ' = [.d (.int x), .d (.int y)] ∧ M' = M ∧ Nat.gcd x y = Int.gcd a b ∧ m = y) b.natAbs ⟨a.natAbs, b.natAbs, rfl, rfl, rfl, rfl⟩ ?_)
    rintro m γ' M' ⟨x, y, rfl, rfl, hg, rfl⟩
    refine ⟨_, _, (t_gt (e_var 1 rfl) e_int), fun h1 => ?_, fun h1 => ?_⟩
    · have h2 : (0 : Int) < m := of_decide_eq_true h1
      refine b_cons (s_par 0 1 rfl sc_divisor.nd (ea_cons (e_var 1 rfl) (ea_cons (e_mod (e_var 0 rfl) (e_var 1 rfl) h2) ea_nil)) ?_)
      refine b_nil ⟨x % m, Nat.mod_lt _ (by omega), m, x % m, rfl, rfl, ?_, rfl⟩
      rw [← hg, Nat.gcd_comm m, ← Nat.gcd_rec, Nat.gcd_comm]
    · have h2 : ¬ (0 : Int) < m := of_decide_eq_false h1
      have h3 : m = 0 := by omega
      subst h3
      refine b_cons (s_ret (e_var 0 rfl) ?_)
      rw [Nat.gcd_zero_right] at hg
      rw [hg]
      exact hR

def c_ratio (CN : Addr) : Con := fun ss M R Rx => ∃ a b : Int, ss = [.d (.int a), .d (.int b)] ∧ (b = 0 → Rx (.ref CN) M) ∧ (b ≠ 0 → b.natAbs < 2 ^ 9000 ∧ R (.d (fr (Rat.divInt a b))) M)
theorem ok_ratio (T : Tx w K mg) : FnOk P w K mg base (L2.CX P w) 2 T.a_ratio T.fd_ratio ["top", "bottom"] (spD K (c_ratio T.C_NoNumber)) := by
  refine Fun.okD T.F_ratio sc_ratio (fun ss M R Rx h => ?_) (fun cdv A outer s H E ss M R Rx h hr tk => ?_)
  · obtain ⟨a, b, rfl, _⟩ := h
    rfl
  · obtain ⟨a, b, rfl, h0, h1⟩ := h
    -- if bottom == 0:
    refine b_cons (s_if (t_eqI hr (e_var 1 rfl) e_int) (fun hb => ?_) (fun hb => ?_))
    · -- raise NoNumber('nothing is divided by 0')
      refine b_cons (s_raise rfl tk PySem.F.excBase_ValueError T.x_NoNumber T.g_NoNumber T.kp_NoNumber (raises_own T.s_NoNumber T.t_NoNumber) ?_)
      exact h0 (of_decide_eq_true hb)
    · have hb0 : b ≠ 0 := of_decide_eq_false hb
      obtain ⟨hsz, hR⟩ := h1 hb0
      refine b_nil ?_
      -- by = divisor(top, bottom)
      refine b_cons (s_set 2 sc_ratio.nd (e_call (ok_divisor T) (hr.mono (by decide)) T.g_divisor T.F_divisor.kp T.b_divisor tk (ea_cons (e_var 0 rfl) (ea_cons (e_var 1 rfl) ea_nil)) ⟨a, b, rfl, rfl, rfl⟩) ?_)
      have hg : Int.gcd a b ≤ b.natAbs := Nat.le_of_dvd (by omega) (by have := Int.gcd_dvd_right (a := a) (b := b); exact Int.ofNat_dvd_left.mp this)
      have hg0 : 0 < Int.gcd a b := Int.gcd_pos_of_ne_zero_right a hb0
      have hsg : Int.gcd a b < 2 ^ 9000 := Nat.lt_of_le_of_lt hg hsz
      -- if bottom < 0:
      refine b_cons (s_if (t_lt (e_var 1 rfl) e_int) (fun hl => ?_) (fun hl => ?_))
      · have hl' : b < 0 := of_decide_eq_true hl
        -- by = 0 - by
        refine b_cons (s_set 2 sc_ratio.nd (e_sub e_int (e_var 2 rfl)) ?_)
        refine b_nil ?_
        have hd : ∀ z : Int, CDivG z (0 - (Int.gcd a b : Int)) := fun z => ⟨by omega, PySem.Flt.log2_lt_of (by decide) (by rw [Int.zero_sub, Int.natAbs_neg, Int.natAbs_natCast]; exact hsg)⟩
        -- return (top // by, bottom // by)
        refine b_cons (s_ret (e_tup (ds := [_, _]) (ea_cons (e_fdiv (e_var 0 rfl) (e_var 2 rfl) (hd _)) (ea_cons (e_fdiv (e_var 1 rfl) (e_var 2 rfl) (hd _)) ea_nil))) ?_)
        have e1 := low_num (a := a) hb0
        have e2 := low_den (a := a) hb0
        rw [if_pos hl'] at e1 e2
        show R (.d (.tuple [.int _, .int _])) M
        rw [e1, e2]
        exact hR
      · have hl' : ¬ b < 0 := of_decide_eq_false hl
        refine b_nil ?_
        have hd : ∀ z : Int, CDivG z (Int.gcd a b : Int) := fun z => ⟨by omega, PySem.Flt.log2_lt_of (by decide) (by rw [Int.natAbs_natCast]; exact hsg)⟩
        -- return (top // by, bottom // by)
        refine b_cons (s_ret (e_tup (ds := [_, _]) (ea_cons (e_fdiv (e_var 0 rfl) (e_var 2 rfl) (hd _)) (ea_cons (e_fdiv (e_var 1 rfl) (e_var 2 rfl) (hd _)) ea_nil))) ?_)
        have e1 := low_num (a := a) hb0
        have e2 := low_den (a := a) hb0
        rw [if_neg hl'] at e1 e2
        show R (.d (.tuple [.int _, .int _])) M
        rw [e1, e2]
        exact hR

def c_minus : Con := fun ss M R _ => ∃ (x y : Rat) (n m : Nat), ss = [.d (fr x), .d (fr y)] ∧ Fb n x ∧ Fb m y ∧ n + m ≤ 9000 ∧ R (.d (fr (x - y))) M
theorem ok_minus (T : Tx w K mg) : FnOk P w K mg base (L2.CX P w) 3 T.a_minus T.fd_minus ["one", "other"] (spD K c_minus) := by
  refine Fun.okD T.F_minus sc_minus (fun ss M R Rx h => ?_) (fun cdv A outer s H E ss M R Rx h hr tk => ?_)
  · obtain ⟨x, y, n, m, rfl, _⟩ := h
    rfl
  · obtain ⟨x, y, n, m, rfl, hx, hy, hnm, hR⟩ := h
    refine b_cons (s_ret (e_call (ok_ratio T) (hr.mono (by decide)) T.g_ratio T.F_ratio.kp T.b_ratio tk (ea_cons (e_sub (e_mul (e_ix (d := fr x) (e_var 0 rfl) e_int rfl) (e_ix (d := fr y) (e_var 1 rfl) e_int rfl) (nd_mul hx hy hnm)) (e_mul (e_ix (d := fr y) (e_var 1 rfl) e_int rfl) (e_ix (d := fr x) (e_var 0 rfl) e_int rfl) (nd_mul hy hx (by omega)))) (ea_cons (e_mul (e_ix (d := fr x) (e_var 0 rfl) e_int rfl) (e_ix (d := fr y) (e_var 1 rfl) e_int rfl) (dd_mul hx hy hnm)) ea_nil)) ⟨_, _, rfl, fun h => absurd h (dd_ne x y), fun _ => ⟨dd_lt hx hy hnm, rfl, rfl⟩⟩) ?_)
    rw [← sub_eq_divInt]
    exact hR

def c_off : Con := fun ss M R _ => ∃ (p q : Pt) (n m : Nat), ss = [.d (pt p), .d (pt q)] ∧ Pb n p ∧ Pb m q ∧ n + m ≤ 9000 ∧ R (.d (pt (p.sub q))) M
theorem ok_off (T : Tx w K mg) : FnOk P w K mg base (L2.CX P w) 4 T.a_off T.fd_off ["p", "q"] (spD K c_off) := by
  refine Fun.okD T.F_off sc_off (fun ss M R Rx h => ?_) (fun cdv A outer s H E ss M R Rx h hr tk => ?_)
  · obtain ⟨p, q, n, m, rfl, _⟩ := h
    rfl
  · obtain ⟨p, q, n, m, rfl, h0, h1, h2, hR⟩ := h
    -- return (minus(p[0], q[0]), minus(p[1], q[1]))
    refine b_cons (s_ret (e_tup (ds := [_, _]) (ea_cons (e_call (ok_minus T) (hr.mono (by decide)) T.g_minus T.F_minus.kp T.b_minus tk (ea_cons (e_ix (e_var 0 rfl) e_int rfl) (ea_cons (e_ix (e_var 1 rfl) e_int rfl) ea_nil)) ⟨_, _, _, _, rfl, by walk_at "fb", by walk_at "fb", by first | omega | decide, rfl, rfl⟩) (ea_cons (e_call (ok_minus T) (hr.mono (by decide)) T.g_minus T.F_minus.kp T.b_minus tk (ea_cons (e_ix (e_var 0 rfl) e_int rfl) (ea_cons (e_ix (e_var 1 rfl) e_int rfl) ea_nil)) ⟨_, _, _, _, rfl, by walk_at "fb", by walk_at "fb", by first | omega | decide, rfl, rfl⟩) ea_nil))) ?_)
    exact hR

def c_plus : Con := fun ss M R _ => ∃ (x y : Rat) (n m : Nat), ss = [.d (fr x), .d (fr y)] ∧ Fb n x ∧ Fb m y ∧ n + m ≤ 9000 ∧ R (.d (fr (x + y))) M
theorem ok_plus (T : Tx w K mg) : FnOk P w K mg base (L2.CX P w) 3 T.a_plus T.fd_plus ["one", "other"] (spD K c_plus) := by
  refine Fun.okD T.F_plus sc_plus (fun ss M R Rx h => ?_) (fun cdv A outer s H E ss M R Rx h hr tk => ?_)
  · obtain ⟨x, y, n, m, rfl, _⟩ := h
    rfl
  · obtain ⟨x, y, n, m, rfl, hx, hy, hnm, hR⟩ := h
    refine b_cons (s_ret (e_call (ok_ratio T) (hr.mono (by decide)) T.g_ratio T.F_ratio.kp T.b_ratio tk (ea_cons (e_add (e_mul (e_ix (d := fr x) (e_var 0 rfl) e_int rfl) (e_ix (d := fr y) (e_var 1 rfl) e_int rfl) (nd_mul hx hy hnm)) (e_mul (e_ix (d := fr y) (e_var 1 rfl) e_int rfl) (e_ix (d := fr x) (e_var 0 rfl) e_int rfl) (nd_mul hy hx (by omega)))) (ea_cons (e_mul (e_ix (d := fr x) (e_var 0 rfl) e_int rfl) (e_ix (d := fr y) (e_var 1 rfl) e_int rfl) (dd_mul hx hy hnm)) ea_nil)) ⟨_, _, rfl, fun h => absurd h (dd_ne x y), fun _ => ⟨dd_lt hx hy hnm, rfl, rfl⟩⟩) ?_)
    rw [← add_eq_divInt]
    exact hR

def c_times : Con := fun ss M R _ => ∃ (x y : Rat) (n m : Nat), ss = [.d (fr x), .d (fr y)] ∧ Fb n x ∧ Fb m y ∧ n + m ≤ 9000 ∧ R (.d (fr (x * y))) M
theorem ok_times (T : Tx w K mg) : FnOk P w K mg base (L2.CX P w) 3 T.a_times T.fd_times ["one", "other"] (spD K c_times) := by
  refine Fun.okD T.F_times sc_times (fun ss M R Rx h => ?_) (fun cdv A outer s H E ss M R Rx h hr tk => ?_)
  · obtain ⟨x, y, n, m, rfl, _⟩ := h
    rfl
  · obtain ⟨x, y, n, m, rfl, hx, hy, hnm, hR⟩ := h
    refine b_cons (s_ret (e_call (ok_ratio T) (hr.mono (by decide)) T.g_ratio T.F_ratio.kp T.b_ratio tk (ea_cons (e_mul (e_ix (d := fr x) (e_var 0 rfl) e_int rfl) (e_ix (d := fr y) (e_var 1 rfl) e_int rfl) (nn_mul hx hy hnm)) (ea_cons (e_mul (e_ix (d := fr x) (e_var 0 rfl) e_int rfl) (e_ix (d := fr y) (e_var 1 rfl) e_int rfl) (dd_mul hx hy hnm)) ea_nil)) ⟨_, _, rfl, fun h => absurd h (dd_ne x y), fun _ => ⟨dd_lt hx hy hnm, rfl, rfl⟩⟩) ?_)
    rw [← mul_eq_divInt]
    exact hR

def c_along : Con := fun ss M R _ => ∃ (p q : Pt) (n m : Nat), ss = [.d (pt p), .d (pt q)] ∧ Pb n p ∧ Pb m q ∧ n + m + (n + m) ≤ 9000 ∧ R (.d (fr (p.along q))) M
theorem ok_along (T : Tx w K mg) : FnOk P w K mg base (L2.CX P w) 4 T.a_along T.fd_along ["p", "q"] (spD K c_along) := by
  refine Fun.okD T.F_along sc_along (fun ss M R Rx h => ?_) (fun cdv A outer s H E ss M R Rx h hr tk => ?_)
  · obtain ⟨p, q, n, m, rfl, _⟩ := h
    rfl
  · obtain ⟨p, q, n, m, rfl, h0, h1, h2, hR⟩ := h
    -- return plus(times(p[0], q[0]), times(p[1], q[1]))
    refine b_cons (s_ret (e_call (ok_plus T) (hr.mono (by decide)) T.g_plus T.F_plus.kp T.b_plus tk (ea_cons (e_call (ok_times T) (hr.mono (by decide)) T.g_times T.F_times.kp T.b_times tk (ea_cons (e_ix (e_var 0 rfl) e_int rfl) (ea_cons (e_ix (e_var 1 rfl) e_int rfl) ea_nil)) ⟨_, _, _, _, rfl, by walk_at "fb", by walk_at "fb", by first | omega | decide, rfl, rfl⟩) (ea_cons (e_call (ok_times T) (hr.mono (by decide)) T.g_times T.F_times.kp T.b_times tk (ea_cons (e_ix (e_var 0 rfl) e_int rfl) (ea_cons (e_ix (e_var 1 rfl) e_int rfl) ea_nil)) ⟨_, _, _, _, rfl, by walk_at "fb", by walk_at "fb", by first | omega | decide, rfl, rfl⟩) ea_nil)) ⟨_, _, _, _, rfl, by walk_at "fb", by walk_at "fb", by first | omega | decide, rfl, rfl⟩) ?_)
    exact hR

def c_far : Con := fun ss M R _ => ∃ (p q : Pt) (n m : Nat), ss = [.d (pt p), .d (pt q)] ∧ Pb n p ∧ Pb m q ∧ 4 * (n + m + 1) ≤ 9000 ∧ R (.d (fr (p.far q))) M
theorem ok_far (T : Tx w K mg) : FnOk P w K mg base (L2.CX P w) 5 T.a_far T.fd_far ["p", "q"] (spD K c_far) := by
  refine Fun.okD T.F_far sc_far (fun ss M R Rx h => ?_) (fun cdv A outer s H E ss M R Rx h hr tk => ?_)
  · obtain ⟨p, q, n, m, rfl, _⟩ := h
    rfl
  · obtain ⟨p, q, n, m, rfl, h0, h1, h2, hR⟩ := h
    -- way = off(p, q)
    refine b_cons (s_set 2 sc_far.nd (e_call (ok_off T) (hr.mono (by decide)) T.g_off T.F_off.kp T.b_off tk (ea_cons (e_var 0 rfl) (ea_cons (e_var 1 rfl) ea_nil)) ⟨_, _, _, _, rfl, by walk_at "fb", by walk_at "fb", by first | omega | decide, rfl, rfl⟩) ?_)
    -- return along(way, way)
    refine b_cons (s_ret (e_call (ok_along T) (hr.mono (by decide)) T.g_along T.F_along.kp T.b_along tk (ea_cons (e_var 2 rfl) (ea_cons (e_var 2 rfl) ea_nil)) ⟨_, _, _, _, rfl, by walk_at "fb", by walk_at "fb", by first | omega | decide, rfl, rfl⟩) ?_)
    exact hR

def c_is_round : Con := fun ss M R _ => ∃ c q : Pt, ss = [.d (Rw.arc c q).D] ∧ Pb 40 c ∧ Pb 40 q ∧ c ≠ ⟨0, 0⟩ ∧ c.far ⟨0, 0⟩ = c.far q ∧ R (.d (.bool true)) M
theorem ok_is_round (T : Tx w K mg) : FnOk P w K mg base (L2.CX P w) 6 T.a_is_round T.fd_is_round ["row"] (spD K c_is_round) := by
  refine Fun.okD T.F_is_round sc_is_round (fun ss M R Rx h => ?_) (fun cdv A outer s H E ss M R Rx h hr tk => ?_)
  · obtain ⟨c, q, rfl, _⟩ := h
    rfl
  · obtain ⟨c, q, rfl, hc, hq, hne, hf, hR⟩ := h
    have h0 : Pb 40 (⟨0, 0⟩ : Pt) := ⟨fb_zero.mono (by decide), fb_zero.mono (by decide)⟩
    -- c = (row[1], row[2])
    refine b_cons (s_set 1 sc_is_round.nd (e_is (e_tup (ds := [fr c.x, fr c.y]) (ea_cons (e_ix (d := (Rw.arc c q).D) (e_var 0 rfl) e_int rfl) (ea_cons (e_ix (d := (Rw.arc c q).D) (e_var 0 rfl) e_int rfl) ea_nil))) (show _ = S.d (pt c) from rfl)) ?_)
    -- return c != NOUGHT and far(c, NOUGHT) == far(c, (row[3], row[4]))
    refine b_cons (s_ret (e_and (b1 := true) (b2 := true) (e_is (e_ne (d1 := pt c) (d2 := pt ⟨0, 0⟩) (z := false) hr (e_var 1 rfl) (e_con T.m_NOUGHT T.r_NOUGHT T.d_NOUGHT) .d .d rfl rfl (by rw [pt_eqv]; exact decide_eq_false hne)) rfl) (fun _ => (e_one (e_eq (z := true) (d1 := fr (c.far ⟨0, 0⟩)) (d2 := fr (c.far q)) hr (e_call (ok_far T) (hr.mono (by decide)) T.g_far T.F_far.kp T.b_far tk (ea_cons (e_var 1 rfl) (ea_cons (e_con T.m_NOUGHT T.r_NOUGHT T.d_NOUGHT) ea_nil)) ⟨c, ⟨0, 0⟩, 40, 40, rfl, hc, h0, by first | omega | decide, rfl, rfl⟩) (e_call (ok_far T) (hr.mono (by decide)) T.g_far T.F_far.kp T.b_far tk (ea_cons (e_var 1 rfl) (ea_cons (e_is (e_tup (ds := [fr q.x, fr q.y]) (ea_cons (e_ix (d := (Rw.arc c q).D) (e_var 0 rfl) e_int rfl) (ea_cons (e_ix (d := (Rw.arc c q).D) (e_var 0 rfl) e_int rfl) ea_nil))) (show _ = S.d (pt q) from rfl)) ea_nil)) ⟨c, q, 40, 40, rfl, hc, hq, by first | omega | decide, rfl, rfl⟩) .d .d rfl rfl ((eqv_fr _ _).trans (decide_eq_true hf)))))) ?_)
    exact hR

/-- a op b op' c, as a value -/
theorem e_chain {Y : Ct} {γ : List S} {M M1 M2 : MM} {a b c : Expr} {pos : Pos} {i j l : Int} {op op' : CmpOp} {f g : Int → Int → Bool} (ho : OpR Y.X (compareOp op) (rI0 fun i j => .bl (f i j))) (ho' : OpR Y.X (compareOp op') (rI0 fun i j => .bl (g i j))) (ha : EV Y a γ M (.d (.int i)) M1) (hb : EV Y b γ M1 (.d (.int j)) M2) (hc : EV Y c γ M2 (.d (.int l)) M2)
    (hm : lastMarks [op, op'] [b, c] = false := by with_unfolding_all rfl) : EV Y (.Compare a [op, op'] [b, c] pos) γ M (.d (.bool (f i j && g j l))) M2 :=
  ⟨PE.imp (pe_chain ho ho' ha.pe hb.pe hc.pe hm) fun σ H Q ⟨F, rl, q, ex⟩ => ⟨F, rl, fun F1 v H1 e1 r1 v1 => ⟨F1, r1, fun F2 w H2 e2 r2 v2 => by
    cases v1
    cases v2
    refine ⟨i, j, rfl, rfl, f i j, rfl, ?_⟩
    cases hf : f i j with
    | true =>
      rw [if_pos rfl]
      refine ⟨F2, r2, fun F3 u H3 e3 r3 v3 => ?_, ex.mono (e1.trans e2)⟩
      cases v3
      rw [hf] at q
      exact ⟨j, l, rfl, rfl, q F3 _ H3 ((e1.trans e2).trans e3) r3 (.bl _)⟩
    | false =>
      rw [if_neg (by decide)]
      rw [hf] at q
      exact q F2 _ H2 (e1.trans e2) r2 (.bl _), ex.mono e1⟩, ex⟩⟩
def c_is_whole : Con := fun ss M R _ => ∃ i : Int, ss = [.d (.int i)] ∧ R (.d (.bool true)) M
theorem ok_is_whole (T : Tx w K mg) : FnOk P w K mg base (L2.CX P w) 1 T.a_is_whole T.fd_is_whole ["thing"] (spD K c_is_whole) := by
  refine Fun.okD T.F_is_whole sc_is_whole (fun ss M R Rx h => ?_) (fun cdv A outer s H E ss M R Rx h hr tk => ?_)
  · obtain ⟨i, rfl, _⟩ := h
    rfl
  · obtain ⟨i, rfl, hR⟩ := h
    -- return isinstance(thing, int) and (not isinstance(thing, bool))
    refine b_cons (s_ret (e_and (b1 := true) (b2 := true) (e_isi (d := .int i) rfl T.n_isinstance (ea_cons (e_var 0 rfl) (ea_cons (e_ty (n := "int") rfl T.n_int (by decide +kernel)) ea_nil)) .d k_int_int) (fun _ => (e_one (e_not (b1 := false) (e_isi (d := .int i) rfl T.n_isinstance (ea_cons (e_var 0 rfl) (ea_cons (e_ty (n := "bool") rfl T.n_bool (by decide +kernel)) ea_nil)) .d k_int_bool))))) ?_)
    exact hR

def c_is_fraction : Con := fun ss M R _ => ∃ x : Rat, ss = [.d (fr x)] ∧ R (.d (.bool true)) M
theorem ok_is_fraction (T : Tx w K mg) : FnOk P w K mg base (L2.CX P w) 2 T.a_is_fraction T.fd_is_fraction ["thing"] (spD K c_is_fraction) := by
  refine Fun.okD T.F_is_fraction sc_is_fraction (fun ss M R Rx h => ?_) (fun cdv A outer s H E ss M R Rx h hr tk => ?_)
  · obtain ⟨x, rfl, _⟩ := h
    rfl
  · obtain ⟨x, rfl, hR⟩ := h
    have g1 : Int.gcd x.num (x.den : Int) = 1 := x.reduced
    have d0 : 0 < (x.den : Int) := by have := x.den_pos; omega
    -- if not isinstance(thing, tuple) or len(thing) != 2 or (not is_whole(thing[0])) or (not is_whole(thing[1])):
    refine b_cons (s_if (b1 := false) (EW.t (w_or (b1 := false) (b2 := false) (t_not (b1 := true) (t_val (e_isi (d := fr x) rfl T.n_isinstance (ea_cons (e_var 0 rfl) (ea_cons (e_ty (n := "tuple") rfl T.n_tuple (by decide +kernel)) ea_nil)) .d k_tuple_tuple))) (fun _ => (w_or (b1 := false) (b2 := false) (t_is (t_neI hr (e_len rfl T.n_len (ea_cons (e_var 0 rfl) ea_nil) .d (n := 2) rfl) e_int) rfl) (fun _ => (w_or (b1 := false) (b2 := false) (t_not (b1 := true) (t_val (e_call (ok_is_whole T) (hr.mono (by decide)) T.g_is_whole T.F_is_whole.kp T.b_is_whole tk (ea_cons (e_ix (d := fr x) (d' := .int x.num) (e_var 0 rfl) e_int rfl) ea_nil) ⟨x.num, rfl, rfl, rfl⟩))) (fun _ => (w_or1 (t_not (b1 := true) (t_val (e_call (ok_is_whole T) (hr.mono (by decide)) T.g_is_whole T.F_is_whole.kp T.b_is_whole tk (ea_cons (e_ix (d := fr x) (d' := .int (x.den : Int)) (e_var 0 rfl) e_int rfl) ea_nil) ⟨(x.den : Int), rfl, rfl, rfl⟩))))))))))) (fun h => nomatch h) (fun _ => b_nil ?_))
    -- return thing[1] > 0 and divisor(thing[0], thing[1]) == 1
    refine b_cons (s_ret (e_and (b1 := true) (b2 := true) (e_is (e_gt (e_ix (d := fr x) (d' := .int (x.den : Int)) (e_var 0 rfl) e_int rfl) e_int) (congrArg (fun z => S.d (.bool z)) (decide_eq_true d0))) (fun _ => (e_one (e_is (e_eqI hr (e_is (e_call (ok_divisor T) (hr.mono (by decide)) T.g_divisor T.F_divisor.kp T.b_divisor tk (ea_cons (e_ix (d := fr x) (d' := .int x.num) (e_var 0 rfl) e_int rfl) (ea_cons (e_ix (d := fr x) (d' := .int (x.den : Int)) (e_var 0 rfl) e_int rfl) ea_nil)) ⟨_, _, rfl, rfl, rfl⟩) (congrArg (fun z : Nat => S.d (.int (z : Int))) g1)) e_int) rfl)))) ?_)
    exact hR

def fracsR : Rw → List Rat
  | .go x => [x]
  | .skip x => [x]
  | .side x y => [x, y]
  | .grow s => [s]
  | .quarter x => [x]
  | .half x => [x]
  | .arc c q => [c.x, c.y, q.x, q.y]
  | _ => []
theorem rw_fracs {r : Rw} (hp : r.plain = true) : r.D = .tuple (.str r.word :: (fracsR r).map fr) := by cases r <;> first | rfl | cases hp
theorem fracs_len (r : Rw) : (fracsR r).length ≤ 4 := by cases r <;> exact Nat.le_of_ble_eq_true rfl
theorem num_of (T : Tx w K mg) {r : Rw} (hp : r.plain = true) : ∃ tk : Tok, PySem.W.nsIn K T.C_NUMBERS r.word = some (some (.int (((fracsR r).length : Nat) : Int) tk)) := by
  cases r with
  | go x => exact ⟨_, T.i_NUMBERS_go⟩
  | skip x => exact ⟨_, T.i_NUMBERS_skip⟩
  | side x y => exact ⟨_, T.i_NUMBERS_side⟩
  | dot => exact ⟨_, T.i_NUMBERS_dot⟩
  | left => exact ⟨_, T.i_NUMBERS_left⟩
  | right => exact ⟨_, T.i_NUMBERS_right⟩
  | round => exact ⟨_, T.i_NUMBERS_round⟩
  | mirror => exact ⟨_, T.i_NUMBERS_mirror⟩
  | grow s => exact ⟨_, T.i_NUMBERS_grow⟩
  | quarter x => exact ⟨_, T.i_NUMBERS_quarter⟩
  | half x => exact ⟨_, T.i_NUMBERS_half⟩
  | arc c q => exact ⟨_, T.i_NUMBERS_arc⟩
  | again n rs => cases hp
  | keep rs => cases hp
  | ever rs => cases hp
theorem cut_tail (x : PyData) (xs : List PyData) : cutL (x :: xs) (some 1) none = xs := by
  have e1 : HT.sIx (x :: xs).length 0 (some 1) = 1 := (HT.sIx_nat _ _ 1).trans (Nat.min_eq_left (by rw [List.length_cons]; omega))
  unfold cutL
  rw [e1]
  show List.take ((x :: xs).length - 1) xs = xs
  exact List.take_of_length_le (by rw [List.length_cons]; omega)
def c_is_plain_row : Con := fun ss M R _ => ∃ (r : Rw) (L : Nat), ss = [.d r.D] ∧ r.plain = true ∧ r.good L ∧ R (.d (.bool true)) M
theorem ok_is_plain_row (T : Tx w K mg) : FnOk P w K mg base (L2.CX P w) 7 T.a_is_plain_row T.fd_is_plain_row ["row"] (spD K c_is_plain_row) := by
  refine Fun.okD T.F_is_plain_row sc_is_plain_row (fun ss M R Rx h => ?_) (fun cdv A outer s H E ss M R Rx h hr tk => ?_)
  · obtain ⟨r, L, rfl, _⟩ := h
    rfl
  · obtain ⟨r, L, rfl, hp, hg, hR⟩ := h
    obtain ⟨tk2, hnum⟩ := num_of T hp
    have eD := rw_fracs hp
    have hlen : lenD r.D = some ((fracsR r).length + 1) := by
      rw [eD]
      show some (((fracsR r).map fr).length + 1) = _
      rw [List.length_map]
    have h4 := fracs_len r
    -- word = word_of(row)
    refine b_cons (s_set 1 sc_is_plain_row.nd (e_call (ok_word_of T) (hr.mono (by decide)) T.g_word_of T.F_word_of.kp T.b_word_of tk (ea_cons (e_var 0 rfl) ea_nil) ⟨r, rfl, rfl, rfl⟩) ?_)
    -- if word not in NUMBERS or len(row) != 1 + NUMBERS[word] or (not all([is_fraction(one) for one in row[1:]])):
    refine b_cons (s_if (b1 := false) (EW.t (w_or (b1 := false) (b2 := false) (t_is (t_notInKD T.kd_NUMBERS hnum (e_var 1 rfl) (e_globR rfl T.m_NUMBERS rfl)) rfl) (fun _ => (w_or (b1 := false) (b2 := false) (t_is (t_neI hr (e_len rfl T.n_len (ea_cons (e_var 0 rfl) ea_nil) .d hlen) (e_add e_int (e_ixKD T.kd_NUMBERS hnum (rv_int _ _) (fun _ => .int _) (e_globR rfl T.m_NUMBERS rfl) (e_var 1 rfl)))) (by simp; omega)) (fun _ => (w_or1 (t_not (b1 := true) (t_val (e_is (e_all (bs := (fracsR r).map fun _ => true) rfl rfl T.n_all (ea_cons (e_frz (n_compI 2 (fracsR r) fr (fun _ => .bool true) rfl sc_is_plain_row.nd (i_tup (e_is (e_sliceA (ds := .str r.word :: (fracsR r).map fr) (l := some 1) (h := none) (e_is (e_var 0 rfl) (congrArg S.d eD)) (o_some e_int) o_none) (congrArg (fun z => S.d (.tuple z)) (cut_tail _ _)))) (blkOk_by rfl) (show 2 < 3 by decide) (Nat.ble_eq_true_of_le (by omega)) (fun x hx M' s H C cl fp => e_call (ok_is_fraction T) (hr.mono (by decide)) T.g_is_fraction T.F_is_fraction.kp T.b_is_fraction tkF (ea_cons (e_var 2 rfl) ea_nil) ⟨x, rfl, rfl, rfl⟩) (hg := fun _ _ _ _ _ => pg_name sc_is_plain_row.nd rfl (Or.inl rfl)))) ea_nil) vl_true) (show S.d _ = S.d _ from congrArg S.d (congrArg PyData.bool (all_true _)))))))))))) (fun h1 => nomatch h1) (fun _ => b_nil ?_))
    -- if word == 'grow':
    refine b_cons (s_if (b1 := r.isW "grow") (t_eq (d1 := .str r.word) hr (e_var 1 rfl) e_str .d .d (sh_word r) (by decide +kernel) rfl) (fun h1 => ?_) (fun h1 => b_nil ?_))
    · obtain ⟨x, rfl⟩ := of_grow h1
      rw [Rw.good] at hg
      obtain ⟨g1, g2, g3⟩ := hg
      have g4 : 0 < x.num := (num_pos x).mpr g1
      -- return 1 <= row[1][0] <= MOST_GROWN and row[1][1] <= MOST_GROWN
      refine b_cons (s_ret (e_and (b1 := true) (b2 := true) (e_is (e_chain op_le op_le e_int (e_ix (d := fr x) (d' := .int x.num) (e_ix (d := (Rw.grow x).D) (d' := fr x) (e_var 0 rfl) e_int rfl) e_int rfl) (e_con T.m_MOST_GROWN T.r_MOST_GROWN T.d_MOST_GROWN)) (congrArg (fun z => S.d (.bool z)) (show (decide ((1 : Int) ≤ x.num) && decide (x.num ≤ 12)) = true from by simp; omega))) (fun _ => (e_one (e_is (e_le (e_ix (d := fr x) (d' := .int (x.den : Int)) (e_ix (d := (Rw.grow x).D) (d' := fr x) (e_var 0 rfl) e_int rfl) e_int rfl) (e_con T.m_MOST_GROWN T.r_MOST_GROWN T.d_MOST_GROWN)) (congrArg (fun z => S.d (.bool z)) (decide_eq_true (show (x.den : Int) ≤ 12 by omega))))))) ?_)
      exact hR
    -- if word == 'quarter' or word == 'half':
    refine b_cons (s_if (b1 := r.isW "quarter" || r.isW "half") (EW.t (w_or (t_eq (d1 := .str r.word) hr (e_var 1 rfl) e_str .d .d (sh_word r) (by decide +kernel) rfl) (fun _ => (w_or1 (t_eq (d1 := .str r.word) hr (e_var 1 rfl) e_str .d .d (sh_word r) (by decide +kernel) rfl))))) (fun h2 => ?_) (fun h2 => b_nil ?_))
    · have h3 : ∃ x : Rat, r.D = .tuple [.str r.word, fr x] ∧ x ≠ 0 := by
        rw [Bool.or_eq_true] at h2
        rcases h2 with h2 | h2
        · obtain ⟨x, rfl⟩ := of_quarter h2; rw [Rw.good] at hg; exact ⟨x, rfl, hg.2⟩
        · obtain ⟨x, rfl⟩ := of_half h2; rw [Rw.good] at hg; exact ⟨x, rfl, hg.2⟩
      obtain ⟨x, ex, hx⟩ := h3
      have nx : x.num ≠ 0 := fun z => hx (Rat.num_eq_zero.mp z)
      -- return row[1][0] != 0
      refine b_cons (s_ret (e_is (e_ne (z := false) (d1 := .int x.num) (d2 := .int 0) hr (e_ix (d := fr x) (d' := .int x.num) (e_ix (d := .tuple [.str r.word, fr x]) (d' := fr x) (e_is (e_var 0 rfl) (congrArg S.d ex)) e_int rfl) e_int rfl) e_int .d .d rfl rfl ((eqv_int _ _).trans (decide_eq_false nx))) (show _ = S.d (.bool true) from rfl)) ?_)
      exact hR
    -- return word != 'arc' or is_round(row)
    cases h3 : r.isW "arc" with
    | false =>
      refine b_cons (s_ret (e_is (e_or (b1 := true) (b2 := true) (e_is (e_ne (z := false) (d1 := .str r.word) (d2 := .str "arc") hr (e_var 1 rfl) e_str .d .d (sh_word r) (by decide +kernel) h3) (show _ = S.d (.bool true) from rfl)) (fun h => nomatch h)) (show _ = S.d (.bool true) from rfl)) ?_)
      exact hR
    | true =>
      obtain ⟨c, q, rfl⟩ := of_arc h3
      rw [Rw.good] at hg
      obtain ⟨g1, g2, g3, g4⟩ := hg
      refine b_cons (s_ret (e_is (e_or (b1 := false) (b2 := true) (e_is (e_ne (z := true) (d1 := .str "arc") (d2 := .str "arc") hr (e_var 1 rfl) e_str .d .d (by decide +kernel) (by decide +kernel) (by decide +kernel)) (show _ = S.d (.bool false) from rfl)) (fun _ => (e_one (e_call (ok_is_round T) (hr.mono (by decide)) T.g_is_round T.F_is_round.kp T.b_is_round tk (ea_cons (e_var 0 rfl) ea_nil) ⟨c, q, rfl, g1, ⟨g2.1.1, g2.2.1⟩, g3, g4, rfl, rfl⟩)))) (show _ = S.d (.bool true) from rfl)) ?_)
      exact hR
def c_is_plain_forth : Con := fun ss M R _ => ss = [.d forthD] ∧ R (.d (.bool false)) M
theorem ok_is_plain_forth (T : Tx w K mg) : FnOk P w K mg base (L2.CX P w) 7 T.a_is_plain_row T.fd_is_plain_row ["row"] (spD K c_is_plain_forth) := by
  refine Fun.okD T.F_is_plain_row sc_is_plain_row (fun ss M R Rx h => ?_) (fun cdv A outer s H E ss M R Rx h hr tk => ?_)
  · obtain ⟨rfl, _⟩ := h
    rfl
  · obtain ⟨rfl, hR⟩ := h
    have hz : PySem.W.nsIn K T.C_NUMBERS "forth" = some none := ns_none T.kd_NUMBERS T.ks_NUMBERS (by decide +kernel)
    -- word = word_of(row)
    refine b_cons (s_set 1 sc_is_plain_row.nd (e_call (ok_word_forth T) (hr.mono (by decide)) T.g_word_of T.F_word_of.kp T.b_word_of tk (ea_cons (e_var 0 rfl) ea_nil) ⟨rfl, rfl, rfl⟩) ?_)
    -- if word not in NUMBERS or ..:
    refine b_cons (s_if (b1 := true || false) (EW.t (w_or (b1 := true) (b2 := false) (t_is (t_notInKD T.kd_NUMBERS hz (e_var 1 rfl) (e_globR rfl T.m_NUMBERS rfl)) rfl) (fun h => nomatch h))) (fun _ => ?_) (fun h => nomatch h))
    -- return False
    exact b_cons (s_ret e_bl hR)

def c_is_block : Con := fun ss M R _ => ∃ r : Rw, ss = [.d r.D] ∧ r.plain = false ∧ (∀ n rs, r = .again n rs → n ≤ 12) ∧ R (.d (.bool true)) M
theorem ok_is_block (T : Tx w K mg) : FnOk P w K mg base (L2.CX P w) 2 T.a_is_block T.fd_is_block ["row"] (spD K c_is_block) := by
  refine Fun.okD T.F_is_block sc_is_block (fun ss M R Rx h => ?_) (fun cdv A outer s H E ss M R Rx h hr tk => ?_)
  · obtain ⟨r, rfl, _⟩ := h
    rfl
  · obtain ⟨r, rfl, hp, hn, hR⟩ := h
    cases r with
    | again n rs =>
      have hn := hn n rs rfl
      -- if not isinstance(row[len(row) - 1], tuple):
      refine b_cons (s_if (b1 := false) (t_not (b1 := true) (t_val (e_isi (d := .tuple (rowsD rs)) rfl T.n_isinstance (ea_cons (e_ix (d := (Rw.again n rs).D) (e_var 0 rfl) (e_sub (e_len rfl T.n_len (ea_cons (e_var 0 rfl) ea_nil) .d (n := 3) rfl) e_int) rfl) (ea_cons (e_ty (n := "tuple") rfl T.n_tuple (by decide +kernel)) ea_nil)) .d k_tuple_tuple))) (fun h => nomatch h) (fun _ => b_nil ?_))
      -- if row[0] == 'again':
      refine b_cons (s_if (b1 := true) (t_eq (z := true) hr (e_ix (d := (Rw.again n rs).D) (d' := .str "again") (e_var 0 rfl) e_int rfl) e_str .d .d (by decide +kernel) (by decide +kernel) (by decide +kernel)) (fun _ => ?_) (fun h => nomatch h))
      -- return len(row) == 3 and is_whole(row[1]) and (0 <= row[1] <= MOST_ROUNDS)
      refine b_cons (s_ret (e_and (b1 := true) (b2 := true) (e_is (e_eqI hr (e_len rfl T.n_len (ea_cons (e_var 0 rfl) ea_nil) .d (n := 3) rfl) e_int) rfl) (fun _ => (e_and (b1 := true) (b2 := true) (e_call (ok_is_whole T) (hr.mono (by decide)) T.g_is_whole T.F_is_whole.kp T.b_is_whole tk (ea_cons (e_ix (d := (Rw.again n rs).D) (d' := .int (n : Int)) (e_var 0 rfl) e_int rfl) ea_nil) ⟨_, rfl, rfl, rfl⟩) (fun _ => (e_one (e_is (e_chain op_le op_le e_int (e_ix (d := (Rw.again n rs).D) (d' := .int (n : Int)) (e_var 0 rfl) e_int rfl) (e_con T.m_MOST_ROUNDS T.r_MOST_ROUNDS T.d_MOST_ROUNDS)) (congrArg (fun z => S.d (.bool z)) (show (decide ((0 : Int) ≤ (n : Int)) && decide ((n : Int) ≤ 12)) = true from by simp; omega)))))))) ?_)
      exact hR
    | keep rs =>
      refine b_cons (s_if (b1 := false) (t_not (b1 := true) (t_val (e_isi (d := .tuple (rowsD rs)) rfl T.n_isinstance (ea_cons (e_ix (d := (Rw.keep rs).D) (e_var 0 rfl) (e_sub (e_len rfl T.n_len (ea_cons (e_var 0 rfl) ea_nil) .d (n := 2) rfl) e_int) rfl) (ea_cons (e_ty (n := "tuple") rfl T.n_tuple (by decide +kernel)) ea_nil)) .d k_tuple_tuple))) (fun h => nomatch h) (fun _ => b_nil ?_))
      refine b_cons (s_if (b1 := false) (t_eq (z := false) hr (e_ix (d := (Rw.keep rs).D) (d' := .str "keep") (e_var 0 rfl) e_int rfl) e_str .d .d (by decide +kernel) (by decide +kernel) (by decide +kernel)) (fun h => nomatch h) (fun _ => b_nil ?_))
      -- return len(row) == 2
      refine b_cons (s_ret (e_is (e_eqI hr (e_len rfl T.n_len (ea_cons (e_var 0 rfl) ea_nil) .d (n := 2) rfl) e_int) (show _ = S.d (.bool true) from rfl)) ?_)
      exact hR
    | ever rs =>
      refine b_cons (s_if (b1 := false) (t_not (b1 := true) (t_val (e_isi (d := .tuple (rowsD rs)) rfl T.n_isinstance (ea_cons (e_ix (d := (Rw.ever rs).D) (e_var 0 rfl) (e_sub (e_len rfl T.n_len (ea_cons (e_var 0 rfl) ea_nil) .d (n := 2) rfl) e_int) rfl) (ea_cons (e_ty (n := "tuple") rfl T.n_tuple (by decide +kernel)) ea_nil)) .d k_tuple_tuple))) (fun h => nomatch h) (fun _ => b_nil ?_))
      refine b_cons (s_if (b1 := false) (t_eq (z := false) hr (e_ix (d := (Rw.ever rs).D) (d' := .str "ever") (e_var 0 rfl) e_int rfl) e_str .d .d (by decide +kernel) (by decide +kernel) (by decide +kernel)) (fun h => nomatch h) (fun _ => b_nil ?_))
      -- return len(row) == 2
      refine b_cons (s_ret (e_is (e_eqI hr (e_len rfl T.n_len (ea_cons (e_var 0 rfl) ea_nil) .d (n := 2) rfl) e_int) (show _ = S.d (.bool true) from rfl)) ?_)
      exact hR
    | _ => cases hp

def c_size_by (dp : Nat) : Con := fun ss M R _ => ∃ (s : S) (rs : List Rw) (L lb N : Nat), ss = [s] ∧ SqV M s (rowsD rs) ∧ goodL L rs ∧ deepL rs ≤ dp ∧ Mv L lb N ∧ alldL N rs ∧ doneL rs ≤ N ∧ R (.d (fr (sizeR rs))) M
theorem at_size_by (T : Tx w K mg) (dp : Nat) : FnOk P w K mg base (L2.CX P w) (3 * dp + 4) T.a_size_by T.fd_size_by ["rows"] (spD K (c_size_by dp)) := by
  induction dp using Nat.strongRecOn with
  | ind dp ih =>
  refine Fun.okD T.F_size_by sc_size_by (fun ss M R Rx h => ?_) (fun cdv A outer s H E ss M R Rx h hr tk => ?_)
  · obtain ⟨s, rs, L, lb, N, rfl, _⟩ := h
    rfl
  · obtain ⟨sr, rs, L, lb, N, rfl, hv, hg, hd, hM, hA, hN, hR⟩ := h
    have hk := SqV.kn hv
    have hb2 := fb_mv2 hM
    -- size = (1, 1)
    refine b_cons (s_set 1 sc_size_by.nd (e_is (e_tup (ds := [_, _]) (ea_cons e_int (ea_cons e_int ea_nil))) (show _ = S.d (fr 1) from rfl)) ?_)
    -- for row in rows:
    refine b_cons (s_for (passes_of rfl) rfl (i_sq (e_var 0 rfl (hk := hk)) hv) (fun i γ' M' => M' = M ∧ ∃ u1 u2 u3, γ' = [sr, .d (fr (sizeR (rs.take i))), u1, u2, u3]) ⟨rfl, _, _, _, rfl⟩ (fun _ _ _ h => by rw [h.1]; exact hv) (fun i x γ2 M2 hx w => ?_) (fun γ2 M2 w => ?_))
    · obtain ⟨rfl, u1, u2, u3, rfl⟩ := w
      obtain ⟨r, hri, rfl⟩ := rows_at hx
      have hm := List.mem_of_getElem? hri
      have hgr := good_mem hg hm
      have hl := size_step hri
      have hw := doneL_take hri
      have hs0 := fb_sizeR hM (good_take hg i) (by omega)
      refine ⟨_, g_name 2 sc_size_by.nd, ?_⟩
      -- if row[0] == 'grow':
      refine b_cut (fun γ' M' => M' = M2 ∧ γ' = [sr, .d (fr (if r.isW "grow" then sizeR (rs.take i) * r.move.size else sizeR (rs.take i))), .d r.D, u2, u3]) (s_if (b1 := r.isW "grow") (t_eq hr (e_ix (d := r.D) (d' := .str r.word) (e_var 2 rfl) e_int (it_word r)) e_str .d .d (sh_word r) (by decide +kernel) rfl) (fun h1 => ?_) (fun h1 => b_nil ?_)) ?_
      · rw [if_pos h1]
        obtain ⟨x, rfl⟩ := of_grow h1
        rw [Rw.good] at hgr
        have hx : Fb 4 x := ⟨Nat.lt_of_le_of_lt hgr.2.1 (by decide), Nat.lt_of_le_of_lt hgr.2.2 (by decide)⟩
        have hn1 : 1 ≤ N := by
          have : (Rw.grow x).done = 1 := rfl
          omega
        -- size = times(size, row[1])
        refine b_cons (s_set 1 sc_size_by.nd (e_call (ok_times T) (hr.mono (by omega)) T.g_times T.F_times.kp T.b_times tk (ea_cons (e_var 1 rfl) (ea_cons (e_ix (d := (Rw.grow x).D) (d' := fr x) (e_var 2 rfl) e_int rfl) ea_nil)) ⟨_, x, 4 * N + 1, 4, rfl, hs0, hx, by omega, rfl, rfl⟩) ?_)
        exact b_nil ⟨rfl, rfl⟩
      · rw [if_neg (by rw [h1]; decide)]
        exact ⟨rfl, rfl⟩
      rintro γ3 M3 ⟨rfl, rfl⟩
      -- if row[0] == 'again':
      refine b_cons (s_if (b1 := r.isW "again") (t_eq hr (e_ix (d := r.D) (d' := .str r.word) (e_var 2 rfl) e_int (it_word r)) e_str .d .d (sh_word r) (by decide +kernel) rfl) (fun h1 => ?_) (fun h1 => b_nil ?_))
      · obtain ⟨n, rs', rfl⟩ := of_again h1
        rw [if_neg (show ¬ (Rw.again n rs').isW "grow" = true from by simp only [Rw.isW, Rw.word]; decide +kernel)]
        obtain ⟨d, rfl, hd2⟩ := deep_inner hd hm rfl
        rw [Rw.good] at hgr
        have hAr := alld_mem hA hm
        rw [Rw.alld] at hAr
        rw [Rw.done] at hw
        have hs1 := fb_sizeR hM hgr.2 hAr.1
        -- once = size(row[2])
        refine b_cons (s_set 3 sc_size_by.nd (e_call (ih d (Nat.lt_succ_self d)) (hr.mono (by omega)) T.g_size_by T.F_size_by.kp T.b_size_by tk (ea_cons (e_ix (d := (Rw.again n rs').D) (d' := .tuple (rowsD rs')) (e_var 2 rfl) e_int rfl) ea_nil) ⟨_, rs', L, lb, N, rfl, .t, hgr.2, hd2, hM, hAr.2, hAr.1, rfl, rfl⟩) ?_)
        -- for turn in range(row[1]):
        refine b_cons (s_for (passes_of rfl) rfl (i_range1 rfl T.n_range (ea_cons (e_ix (d := (Rw.again n rs').D) (d' := .int (n : Int)) (e_var 2 rfl) e_int rfl) ea_nil) (by omega)) (fun j γ' M' => M' = M3 ∧ ∃ u1, γ' = [sr, .d (fr (sizeR (rs.take i) * (iterF (moveA rs' Fr.one) j).size)), .d (Rw.again n rs').D, .d (fr (sizeR rs')), u1]) ⟨rfl, _, by rw [show (iterF (moveA rs' Fr.one) 0).size = 1 from rfl, Rat.mul_one]; rfl⟩ (fun _ _ _ _ => trivial) (fun j x γ2 M2 hx w => ?_) (fun γ2 M2 w => ?_))
        · obtain ⟨rfl, u1, rfl⟩ := w
          refine ⟨_, g_name 4 sc_size_by.nd, ?_⟩
          have hj : j < n := by
            have := (List.getElem?_eq_some_iff.mp hx).1
            rw [List.length_map, List.length_range] at this
            omega
          have hj2 : (j + 1) * doneL rs' ≤ n * doneL rs' := Nat.mul_le_mul_right _ hj
          rw [Nat.succ_mul] at hj2
          have hz1 := sz_moveA (rs.take i) (good_take hg i) 0 Fr.one (sz_one L)
          rw [Nat.zero_add] at hz1
          have hz2 := sz_moveA rs' hgr.2 0 Fr.one (sz_one L)
          rw [Nat.zero_add] at hz2
          have hz3 := fb_size hM (sz_behind hz1 (sz_iter hz2 j)) (by omega)
          rw [sizeR_iter] at hz3
          -- size = times(size, once)
          refine b_cons (s_set 1 sc_size_by.nd (e_call (ok_times T) (hr.mono (by omega)) T.g_times T.F_times.kp T.b_times tk (ea_cons (e_var 1 rfl) (ea_cons (e_var 3 rfl) ea_nil)) ⟨_, _, 4 * N + 1, 4 * N + 1, rfl, hz3, hs1, hb2, rfl, rfl⟩) ?_)
          refine b_nil ⟨rfl, x, ?_⟩
          rw [iter_size, ← Rat.mul_assoc]
          rfl
        · obtain ⟨rfl, u1, rfl⟩ := w
          rw [show ((List.range (n : Int).toNat).map fun (k : Nat) => S.d (.int (0 + (k : Int)))).length = n by rw [List.length_map, List.length_range]; omega]
          refine b_nil ?_
          refine b_nil ⟨rfl, .d (Rw.again n rs').D, .d (fr (sizeR rs')), u1, ?_⟩
          rw [hl]
          rfl
      · refine b_nil ⟨rfl, .d r.D, u2, u3, ?_⟩
        rw [hl]
        by_cases h2 : r.isW "grow" = true
        · rw [if_pos h2]
        · rw [if_neg h2, move_size (by simpa using h2) h1, Rat.mul_one]
    · obtain ⟨rfl, u1, u2, u3, rfl⟩ := w
      rw [take_rows]
      -- return size
      refine b_cons (s_ret (e_var 1 rfl) ?_)
      exact hR
theorem ok_size_by (T : Tx w K mg) : FnOk P w K mg base (L2.CX P w) 28 T.a_size_by T.fd_size_by ["rows"] (spD K (c_size_by 8)) := at_size_by T 8

def c_done_by (dp : Nat) : Con := fun ss M R _ => ∃ (rs : List Rw) (L : Nat), ss = [.d (.tuple (rowsD rs))] ∧ Prg L dp rs ∧ dp ≤ 8 ∧ R (.d (.int ((doneL rs : Nat) : Int))) M
theorem at_done_by (T : Tx w K mg) (dp : Nat) : FnOk P w K mg base (L2.CX P w) (3 * dp + 1) T.a_done_by T.fd_done_by ["rows"] (spD K (c_done_by dp)) := by
  induction dp using Nat.strongRecOn with
  | ind dp ih =>
  refine Fun.okD T.F_done_by sc_done_by (fun ss M R Rx h => ?_) (fun cdv A outer s H E ss M R Rx h hr tk => ?_)
  · obtain ⟨rs, L, rfl, _⟩ := h
    rfl
  · obtain ⟨rs, L, rfl, hP, h8, hR⟩ := h
    -- many = 0
    refine b_cons (s_set 1 sc_done_by.nd e_int ?_)
    -- for row in rows:
    refine b_cons (s_for (passes_of rfl) rfl (i_tup (e_var 0 rfl)) (fun i γ' M' => M' = M ∧ ∃ u1, γ' = [.d (.tuple (rowsD rs)), .d (.int ((doneL (rs.take i) : Nat) : Int)), u1]) ⟨rfl, _, rfl⟩ (fun _ _ _ _ => trivial) (fun i x γ2 M2 hx w => ?_) (fun γ2 M2 w => ?_))
    · obtain ⟨rfl, u1, rfl⟩ := w
      obtain ⟨r, hri, rfl⟩ := rows_at hx
      have hm := List.mem_of_getElem? hri
      have hl := done_step hri
      refine ⟨_, g_name 2 sc_done_by.nd, ?_⟩
      -- if row[0] == 'again':
      refine b_cons (s_if (b1 := r.isW "again") (t_eq hr (e_ix (d := r.D) (d' := .str r.word) (e_var 2 rfl) e_int (it_word r)) e_str .d .d (sh_word r) (by decide +kernel) rfl) (fun h1 => ?_) (fun h1 => ?_))
      · obtain ⟨n, rs', rfl⟩ := of_again h1
        obtain ⟨d, rfl, hP2⟩ := prg_inner hP hm rfl
        have hn : n ≤ 12 := by
          have := good_mem hP.g hm
          rw [Rw.good] at this
          exact this.1
        have hd := prg_done hP2 (by omega)
        have hc : CMulW (n : Int) ((doneL rs' : Nat) : Int) := mul_ok (a := 4) (b := 40) (by omega) (by rw [Int.natAbs_natCast]; exact hd)
        -- many = many + row[1] * done_by(row[2])
        refine b_cons (s_set 1 sc_done_by.nd (e_add (e_var 1 rfl) (e_mul (e_ix (d := (Rw.again n rs').D) (d' := .int (n : Int)) (e_var 2 rfl) e_int rfl) (e_call (ih d (Nat.lt_succ_self d)) (hr.mono (by omega)) T.g_done_by T.F_done_by.kp T.b_done_by tk (ea_cons (e_ix (d := (Rw.again n rs').D) (d' := .tuple (rowsD rs')) (e_var 2 rfl) e_int rfl) ea_nil) ⟨rs', L, rfl, hP2, by omega, rfl, rfl⟩) hc)) ?_)
        refine b_nil ?_
        refine b_nil ⟨rfl, .d (Rw.again n rs').D, ?_⟩
        have e : ((doneL (rs.take i) : Nat) : Int) + (n : Int) * ((doneL rs' : Nat) : Int) = ((doneL (rs.take (i + 1)) : Nat) : Int) := by
          rw [hl, Rw.done, Int.natCast_add, Int.natCast_mul]
        rw [← e]
        rfl
      · -- if row[0] == 'keep' or row[0] == 'ever':
        refine b_cons (s_if (b1 := r.isW "keep" || r.isW "ever") (EW.t (w_or (t_eq hr (e_ix (d := r.D) (d' := .str r.word) (e_var 2 rfl) e_int (it_word r)) e_str .d .d (sh_word r) (by decide +kernel) rfl) (fun hb => (w_or1 (t_eq hr (e_ix (d := r.D) (d' := .str r.word) (e_var 2 rfl) e_int (it_word r)) e_str .d .d (sh_word r) (by decide +kernel) rfl))))) (fun h2 => ?_) (fun h2 => ?_))
        · have h3 : itD r.D 1 = some (.tuple (rowsD r.inner)) ∧ r.plain = false ∧ r.done = doneL r.inner := by
            rw [Bool.or_eq_true] at h2
            rcases h2 with h2 | h2
            · obtain ⟨rs', rfl⟩ := of_keep h2; exact ⟨rfl, rfl, rfl⟩
            · obtain ⟨rs', rfl⟩ := of_ever h2; exact ⟨rfl, rfl, rfl⟩
          obtain ⟨h3, h4, h5⟩ := h3
          obtain ⟨d, rfl, hP2⟩ := prg_inner hP hm h4
          -- many = many + done_by(row[1])
          refine b_cons (s_set 1 sc_done_by.nd (e_add (e_var 1 rfl) (e_call (ih d (Nat.lt_succ_self d)) (hr.mono (by omega)) T.g_done_by T.F_done_by.kp T.b_done_by tk (ea_cons (e_ix (d := r.D) (e_var 2 rfl) e_int h3) ea_nil) ⟨r.inner, L, rfl, hP2, by omega, rfl, rfl⟩)) ?_)
          refine b_nil ?_
          refine b_nil ?_
          refine b_nil ⟨rfl, .d r.D, ?_⟩
          have e : ((doneL (rs.take i) : Nat) : Int) + ((doneL r.inner : Nat) : Int) = ((doneL (rs.take (i + 1)) : Nat) : Int) := by omega
          rw [← e]
          rfl
        · have hp : r.plain = true := by
            rw [Bool.or_eq_false_iff] at h2
            exact plain_of h1 h2.1 h2.2
          -- many = many + 1
          refine b_cons (s_set 1 sc_done_by.nd (e_add (e_var 1 rfl) e_int) ?_)
          refine b_nil ?_
          refine b_nil ?_
          refine b_nil ⟨rfl, .d r.D, ?_⟩
          have e : ((doneL (rs.take i) : Nat) : Int) + 1 = ((doneL (rs.take (i + 1)) : Nat) : Int) := by
            have := done_plain hp
            omega
          rw [← e]
          rfl
    · obtain ⟨rfl, u1, rfl⟩ := w
      rw [take_rows]
      -- return many
      refine b_cons (s_ret (e_var 1 rfl) ?_)
      exact hR
theorem ok_done_by (T : Tx w K mg) : FnOk P w K mg base (L2.CX P w) 25 T.a_done_by T.fd_done_by ["rows"] (spD K (c_done_by 8)) := at_done_by T 8

def c_below : Con := fun ss M R _ => ∃ (x y : Rat) (n m : Nat), ss = [.d (fr x), .d (fr y)] ∧ Fb n x ∧ Fb m y ∧ n + m ≤ 20000 ∧ R (.d (.bool (decide (x < y)))) M
theorem ok_below (T : Tx w K mg) : FnOk P w K mg base (L2.CX P w) 1 T.a_below T.fd_below ["one", "other"] (spD K c_below) := by
  refine Fun.okD T.F_below sc_below (fun ss M R Rx h => ?_) (fun cdv A outer s H E ss M R Rx h hr tk => ?_)
  · obtain ⟨x, y, n, m, rfl, _⟩ := h
    rfl
  · obtain ⟨x, y, n, m, rfl, hx, hy, hnm, hR⟩ := h
    refine b_cons (s_ret (e_lt (e_mul (e_ix (d := fr x) (e_var 0 rfl) e_int rfl) (e_ix (d := fr y) (e_var 1 rfl) e_int rfl) (nd_mulW hx hy (by omega))) (e_mul (e_ix (d := fr y) (e_var 1 rfl) e_int rfl) (e_ix (d := fr x) (e_var 0 rfl) e_int rfl) (nd_mulW hy hx (by omega)))) ?_)
    have e : decide (x < y) = decide (x.num * y.den < y.num * x.den) := decide_eq_decide.mpr (Rat.lt_iff x y)
    rw [e] at hR
    exact hR

def c_before : Con := fun ss M R _ => ∃ (p q : Pt) (n m : Nat), ss = [.d (pt p), .d (pt q)] ∧ Pb n p ∧ Pb m q ∧ n + m ≤ 9000 ∧ R (.d (.bool (p.before q))) M
theorem ok_before (T : Tx w K mg) : FnOk P w K mg base (L2.CX P w) 2 T.a_before T.fd_before ["p", "q"] (spD K c_before) := by
  refine Fun.okD T.F_before sc_before (fun ss M R Rx h => ?_) (fun cdv A outer s H E ss M R Rx h hr tk => ?_)
  · obtain ⟨p, q, n, m, rfl, _⟩ := h
    rfl
  · obtain ⟨p, q, n, m, rfl, h0, h1, h2, hR⟩ := h
    -- return below(p[0], q[0]) or (p[0] == q[0] and below(p[1], q[
    refine b_cons (s_ret (e_or (e_call (ok_below T) (hr.mono (by decide)) T.g_below T.F_below.kp T.b_below tk (ea_cons (e_ix (e_var 0 rfl) e_int rfl) (ea_cons (e_ix (e_var 1 rfl) e_int rfl) ea_nil)) ⟨_, _, _, _, rfl, by walk_at "fb", by walk_at "fb", by first | omega | decide, rfl, rfl⟩) (fun hb => (e_one (e_and (e_eq hr (e_ix (e_var 0 rfl) e_int rfl) (e_ix (e_var 1 rfl) e_int rfl) .d .d rfl rfl rfl) (fun hb => (e_one (e_call (ok_below T) (hr.mono (by decide)) T.g_below T.F_below.kp T.b_below tk (ea_cons (e_ix (e_var 0 rfl) e_int rfl) (ea_cons (e_ix (e_var 1 rfl) e_int rfl) ea_nil)) ⟨_, _, _, _, rfl, by walk_at "fb", by walk_at "fb", by first | omega | decide, rfl, rfl⟩))))))) ?_)
    (rw [eqv_fr]; exact hR)

def stretchD (p q : Pt) : PyData := if p = q then dotD p else if q.before p = true then stD q p else stD p q
def c_stretch : Con := fun ss M R _ => ∃ (p q : Pt) (n m : Nat), ss = [.d (pt p), .d (pt q)] ∧ Pb n p ∧ Pb m q ∧ n + m ≤ 9000 ∧ R (.d (stretchD p q)) M
theorem ok_stretch (T : Tx w K mg) : FnOk P w K mg base (L2.CX P w) 3 T.a_stretch T.fd_stretch ["p", "q"] (spD K c_stretch) := by
  refine Fun.okD T.F_stretch sc_stretch (fun ss M R Rx h => ?_) (fun cdv A outer s H E ss M R Rx h hr tk => ?_)
  · obtain ⟨p, q, n, m, rfl, _⟩ := h
    rfl
  · obtain ⟨p, q, n, m, rfl, hp, hq, hnm, hR⟩ := h
    -- if p == q:
    refine b_cons (s_if (t_eq hr (e_var 0 rfl) (e_var 1 rfl) .d .d rfl rfl rfl) (fun h1 => ?_) (fun h1 => b_nil ?_))
    · rw [pt_eqv, decide_eq_true_eq] at h1
      -- return ('dot', p)
      refine b_cons (s_ret (e_tup (ds := [_, _]) (ea_cons e_str (ea_cons (e_var 0 rfl) ea_nil))) ?_)
      unfold stretchD at hR
      rw [if_pos h1] at hR
      exact hR
    · rw [pt_eqv, decide_eq_false_iff_not] at h1
      unfold stretchD at hR
      rw [if_neg h1] at hR
      -- if before(q, p):
      refine b_cons (s_if (t_val (e_call (ok_before T) (hr.mono (by decide)) T.g_before T.F_before.kp T.b_before tk (ea_cons (e_var 1 rfl) (ea_cons (e_var 0 rfl) ea_nil)) ⟨q, p, m, n, rfl, hq, hp, by omega, rfl, rfl⟩)) (fun h2 => ?_) (fun h2 => b_nil ?_))
      · -- return ('stretch', q, p)
        refine b_cons (s_ret (e_tup (ds := [_, _, _]) (ea_cons e_str (ea_cons (e_var 1 rfl) (ea_cons (e_var 0 rfl) ea_nil)))) ?_)
        rw [if_pos h2] at hR
        exact hR
      · -- return ('stretch', p, q)
        refine b_cons (s_ret (e_tup (ds := [_, _, _]) (ea_cons e_str (ea_cons (e_var 0 rfl) (ea_cons (e_var 1 rfl) ea_nil)))) ?_)
        rw [if_neg (by rw [h2]; decide)] at hR
        exact hR

def c_stood : Con := fun ss M R _ => ∃ (p : Pt) (t : Int), ss = [.d (pt p), .d (.int t)] ∧ R (.d (frD (stand p t))) M
theorem ok_stood (T : Tx w K mg) : FnOk P w K mg base (L2.CX P w) 1 T.a_stood T.fd_stood ["place", "turns"] (spD K c_stood) := by
  refine FunD.okD T.F_stood sc_stood (fun ss M R Rx h => ?_) (fun cdv A outer s H E ss M R Rx h hr tk => ?_)
  · obtain ⟨p, t, rfl, _⟩ := h
    rfl
  · obtain ⟨p, t, rfl, hR⟩ := h
    -- return (place, turns, 1, (1, 1))
    refine b_cons (s_ret (e_tup (ds := [_, _, _, _]) (ea_cons (e_var 0 rfl) (ea_cons (e_var 1 rfl) (ea_cons e_int (ea_cons (e_tup (ds := [_, _]) (ea_cons e_int (ea_cons e_int ea_nil))) ea_nil))))) ?_)
    exact hR

def c_straight : Con := fun ss M R _ => ∃ p : Pt, ss = [.d (pt p)] ∧ Pb 300 p ∧ R (.d (.tuple [(stretchP ⟨0, 0⟩ p).D, frD (stand p 0)])) M
theorem straight_D (p q : Pt) : stretchD p q = (stretchP p q).D := by
  unfold stretchD stretchP
  split
  · rfl
  · split <;> rfl
theorem ok_straight (T : Tx w K mg) : FnOk P w K mg base (L2.CX P w) 4 T.a_straight T.fd_straight ["p"] (spD K c_straight) := by
  refine Fun.okD T.F_straight sc_straight (fun ss M R Rx h => ?_) (fun cdv A outer s H E ss M R Rx h hr tk => ?_)
  · obtain ⟨p, rfl, _⟩ := h
    rfl
  · obtain ⟨p, rfl, hp, hR⟩ := h
    -- return (stretch(NOUGHT, p), stood(p))
    refine b_cons (s_ret (e_tup (ds := [_, _]) (ea_cons (e_call (ok_stretch T) (hr.mono (by decide)) T.g_stretch T.F_stretch.kp T.b_stretch tk (ea_cons (e_con T.m_NOUGHT T.r_NOUGHT T.d_NOUGHT) (ea_cons (e_var 0 rfl) ea_nil)) ⟨⟨(0 : Rat), (0 : Rat)⟩, p, 1, 300, rfl, ⟨fb_zero, fb_zero⟩, hp, by decide, rfl, rfl⟩) (ea_cons (e_callD (ok_stood T) (hr.mono (by decide)) T.g_stood T.F_stood.kp T.bd_stood T.dv_stood dd_int tk (ea_cons (e_var 0 rfl) ea_nil) ⟨p, 0, rfl, rfl, rfl⟩) ea_nil))) ?_)
    rw [straight_D]
    exact hR

def noArc (c p q : Pt) : Prop := c.far p ≠ c.far q ∨ c = p
instance (c p q : Pt) : Decidable (noArc c p q) := inferInstanceAs (Decidable (_ ∨ _))
def arcD (c p q : Pt) : PyData := if p = q then .tuple [.str "ring", pt c, pt p] else .tuple [.str "arc", pt c, pt p, pt q]
def c_arc (NP : Addr) : Con := fun ss M R Rx => ∃ (c p q : Pt), ss = [.d (pt c), .d (pt p), .d (pt q)] ∧ Pb 300 c ∧ Pb 300 p ∧ Pb 300 q ∧ (noArc c p q → Rx (.ref NP) M) ∧ (¬ noArc c p q → R (.d (arcD c p q)) M)
theorem ok_arc (T : Tx w K mg) : FnOk P w K mg base (L2.CX P w) 6 T.a_arc T.fd_arc ["c", "p", "q"] (spD K (c_arc T.C_NoPiece)) := by
  refine Fun.okD T.F_arc sc_arc (fun ss M R Rx h => ?_) (fun cdv A outer s H E ss M R Rx h hr tk => ?_)
  · obtain ⟨c, p, q, rfl, _⟩ := h
    rfl
  · obtain ⟨c, p, q, rfl, hc, hp, hq, h0, hR⟩ := h
    -- if far(c, p) != far(c, q) or c == p:
    refine b_cons (s_if (EW.t (w_or (t_ne (d1 := fr (c.far p)) (d2 := fr (c.far q)) hr (e_call (ok_far T) (hr.mono (by decide)) T.g_far T.F_far.kp T.b_far tk (ea_cons (e_var 0 rfl) (ea_cons (e_var 1 rfl) ea_nil)) ⟨c, p, _, _, rfl, hc, hp, by first | omega | decide, rfl, rfl⟩) (e_call (ok_far T) (hr.mono (by decide)) T.g_far T.F_far.kp T.b_far tk (ea_cons (e_var 0 rfl) (ea_cons (e_var 2 rfl) ea_nil)) ⟨c, q, _, _, rfl, hc, hq, by first | omega | decide, rfl, rfl⟩) .d .d rfl rfl (eqv_fr _ _)) (fun hb => (w_or1 (t_eq hr (e_var 0 rfl) (e_var 1 rfl) .d .d rfl rfl (pt_eqv _ _)))))) (fun h1 => ?_) (fun h1 => ?_))
    · -- raise NoPiece('no arc round this centre')
      refine b_cons (s_raise rfl tk PySem.F.excBase_ValueError T.x_NoPiece T.g_NoPiece T.kp_NoPiece (raises_own T.s_NoPiece T.t_NoPiece) ?_)
      refine h0 ?_
      simpa [noArc] using h1
    · refine b_nil ?_
      have hn : ¬ noArc c p q := by
        intro z
        simp [noArc] at h1 z
        rcases z with z | z
        · exact z h1.1
        · exact h1.2 z
      have hR := hR hn
      unfold arcD at hR
      -- if p == q:
      refine b_cons (s_if (t_eq hr (e_var 1 rfl) (e_var 2 rfl) .d .d rfl rfl (pt_eqv _ _)) (fun h1 => ?_) (fun h1 => ?_))
      · -- return ('ring', c, p)
        rw [if_pos (of_decide_eq_true h1)] at hR
        refine b_cons (s_ret (e_tup (ds := [_, _, _]) (ea_cons e_str (ea_cons (e_var 0 rfl) (ea_cons (e_var 1 rfl) ea_nil)))) ?_)
        exact hR
      · refine b_nil ?_
        -- return ('arc', c, p, q)
        rw [if_neg (of_decide_eq_false h1)] at hR
        refine b_cons (s_ret (e_tup (ds := [_, _, _, _]) (ea_cons e_str (ea_cons (e_var 0 rfl) (ea_cons (e_var 1 rfl) (ea_cons (e_var 2 rfl) ea_nil))))) ?_)
        exact hR

def c_bowed : Con := fun ss M R _ => ∃ (x : Rat) (p : Pt) (t : Int), ss = [.d (fr x), .d (pt p), .d (.int t)] ∧ Fb 300 x ∧ Pb 300 p ∧ ¬ noArc ⟨0, x⟩ ⟨0, 0⟩ p ∧ ¬ noArc ⟨0, x⟩ p ⟨0, 0⟩ ∧
  R (.d (.tuple [if 0 < x then arcD ⟨0, x⟩ ⟨0, 0⟩ p else arcD ⟨0, x⟩ p ⟨0, 0⟩, frD (stand p (if 0 < x then t else (0 - t) % 4))])) M
theorem ok_bowed (T : Tx w K mg) : FnOk P w K mg base (L2.CX P w) 7 T.a_bowed T.fd_bowed ["number", "p", "turns"] (spD K c_bowed) := by
  refine Fun.okD T.F_bowed sc_bowed (fun ss M R Rx h => ?_) (fun cdv A outer s H E ss M R Rx h hr tk => ?_)
  · obtain ⟨x, p, t, rfl, _⟩ := h
    rfl
  · obtain ⟨x, p, t, rfl, hx, hp, ha, hb, hR⟩ := h
    have h0 : Pb 300 (⟨0, 0⟩ : Pt) := ⟨fb_zero.mono (by decide), fb_zero.mono (by decide)⟩
    have hc : Pb 300 (⟨0, x⟩ : Pt) := ⟨fb_zero.mono (by decide), hx⟩
    -- c = ((0, 1), number)
    refine b_cons (s_set 3 sc_bowed.nd (e_is (e_tup (ds := [_, _]) (ea_cons (e_tup (ds := [_, _]) (ea_cons e_int (ea_cons e_int ea_nil))) (ea_cons (e_var 0 rfl) ea_nil))) (show _ = S.d (pt ⟨0, x⟩) from rfl)) ?_)
    -- if number[0] > 0:
    refine b_cons (s_if (b1 := decide (0 < x)) (t_is (t_gt (e_ix (d := fr x) (e_var 0 rfl) e_int rfl) e_int) (decide_eq_decide.mpr (num_pos x))) (fun h1 => ?_) (fun h1 => b_nil ?_))
    · have h1' := of_decide_eq_true h1
      -- return (arc(c, NOUGHT, p), stood(p, turns))
      refine b_cons (s_ret (e_tup (ds := [_, _]) (ea_cons (e_call (ok_arc T) (hr.mono (by decide)) T.g_arc T.F_arc.kp T.b_arc tk (ea_cons (e_var 3 rfl) (ea_cons (e_con T.m_NOUGHT T.r_NOUGHT T.d_NOUGHT) (ea_cons (e_var 1 rfl) ea_nil))) ⟨⟨0, x⟩, ⟨0, 0⟩, p, rfl, hc, h0, hp, fun z => absurd z ha, fun _ => ⟨rfl, rfl⟩⟩) (ea_cons (e_call (ok_stood T) (hr.mono (by decide)) T.g_stood T.F_stood.kp T.b_stood tk (ea_cons (e_var 1 rfl) (ea_cons (e_var 2 rfl) ea_nil)) ⟨p, t, rfl, rfl, rfl⟩) ea_nil))) ?_)
      simp only [if_pos h1'] at hR
      exact hR
    · have h1' := of_decide_eq_false h1
      -- return (arc(c, p, NOUGHT), stood(p, (0 - turns) % 4))
      refine b_cons (s_ret (e_tup (ds := [_, _]) (ea_cons (e_call (ok_arc T) (hr.mono (by decide)) T.g_arc T.F_arc.kp T.b_arc tk (ea_cons (e_var 3 rfl) (ea_cons (e_var 1 rfl) (ea_cons (e_con T.m_NOUGHT T.r_NOUGHT T.d_NOUGHT) ea_nil))) ⟨⟨0, x⟩, p, ⟨0, 0⟩, rfl, hc, hp, h0, fun z => absurd z hb, fun _ => ⟨rfl, rfl⟩⟩) (ea_cons (e_call (ok_stood T) (hr.mono (by decide)) T.g_stood T.F_stood.kp T.b_stood tk (ea_cons (e_var 1 rfl) (ea_cons (e_mod (e_sub e_int (e_var 2 rfl)) e_int (by decide)) ea_nil)) ⟨p, (0 - t) % 4, rfl, rfl, rfl⟩) ea_nil))) ?_)
      simp only [if_neg h1'] at hR
      exact hR

def c_first : Con := fun ss M R _ => ss = [] ∧ R (.d (frD Fr.one)) M
theorem ok_first (T : Tx w K mg) : FnOk P w K mg base (L2.CX P w) 1 T.a_first T.fd_first [] (spD K c_first) := by
  refine Fun.okD T.F_first sc_first (fun ss M R Rx h => ?_) (fun cdv A outer s H E ss M R Rx h hr tk => ?_)
  · obtain ⟨rfl, _⟩ := h
    rfl
  · obtain ⟨rfl, hR⟩ := h
    refine b_cons (s_ret (e_tup (ds := [_, _, _, _]) (ea_cons (e_con T.m_NOUGHT T.r_NOUGHT T.d_NOUGHT) (ea_cons e_int (ea_cons e_int (ea_cons (e_tup (ds := [_, _]) (ea_cons e_int (ea_cons e_int ea_nil))) ea_nil))))) ?_)
    exact hR

def c_shaped : Con := fun ss M R _ => ∃ (r : Rw) (L : Nat), ss = [.d r.D] ∧ r.plain = true ∧ r.good L ∧ R (.d (shapeD r)) M
theorem raw_st (p q : Pt) : (Raw.st p q).led Fr.one = stretchP p q := by
  show (if (Fr.one.led q).before (Fr.one.led p) = true then Pc.st (Fr.one.led q) (Fr.one.led p) else if Fr.one.led p = Fr.one.led q then .dot (Fr.one.led p) else .st (Fr.one.led p) (Fr.one.led q)) = _
  simp only [led_one]
  unfold stretchP
  by_cases e : p = q
  · subst e
    rw [bef_irr]
    simp
  · rw [if_neg e, if_neg e]
theorem raw_arcD (c p q : Pt) : ((Raw.arc c p q).led Fr.one).D = arcD c p q := by
  have h1 : ¬ Fr.one.hand < 0 := by decide
  show (if Fr.one.led p = Fr.one.led q then Pc.ring (Fr.one.led c) (Fr.one.led p) else if Fr.one.hand < 0 then .arc (Fr.one.led c) (Fr.one.led q) (Fr.one.led p) else .arc (Fr.one.led c) (Fr.one.led p) (Fr.one.led q)).D = _
  simp only [led_one, if_neg h1]
  unfold arcD
  split <;> rfl
theorem pt_inj {a b c d : Rat} (h : (⟨a, b⟩ : Pt) = ⟨c, d⟩) : a = c ∧ b = d := ⟨congrArg Pt.x h, congrArg Pt.y h⟩
theorem bow_quarter {x : Rat} (hx : x ≠ 0) : ¬ noArc ⟨0, x⟩ ⟨0, 0⟩ ⟨absR x, x⟩ ∧ ¬ noArc ⟨0, x⟩ ⟨absR x, x⟩ ⟨0, 0⟩ := by
  have e : (⟨0, x⟩ : Pt).far ⟨0, 0⟩ = (⟨0, x⟩ : Pt).far ⟨absR x, x⟩ := by
    show (0 - 0) * (0 - 0) + (x - 0) * (x - 0) = (0 - absR x) * (0 - absR x) + (x - x) * (x - x)
    have := absR_sq x
    grind
  refine ⟨fun z => ?_, fun z => ?_⟩
  · rcases z with z | z
    · exact z e
    · exact hx (pt_inj z).2
  · rcases z with z | z
    · exact z e.symm
    · have h := (pt_inj z).1
      have := absR_sq x
      rw [← h] at this
      grind
theorem bow_half {x : Rat} (hx : x ≠ 0) : ¬ noArc ⟨0, x⟩ ⟨0, 0⟩ ⟨0, x + x⟩ ∧ ¬ noArc ⟨0, x⟩ ⟨0, x + x⟩ ⟨0, 0⟩ := by
  have e : (⟨0, x⟩ : Pt).far ⟨0, 0⟩ = (⟨0, x⟩ : Pt).far ⟨0, x + x⟩ := by
    show (0 - 0) * (0 - 0) + (x - 0) * (x - 0) = (0 - 0) * (0 - 0) + (x - (x + x)) * (x - (x + x))
    grind
  refine ⟨fun z => ?_, fun z => ?_⟩
  · rcases z with z | z
    · exact z e
    · exact hx (pt_inj z).2
  · rcases z with z | z
    · exact z e.symm
    · have h := (pt_inj z).2
      grind
theorem turn_of {r : Rw} (hp : r.plain = true) (h1 : r.isW "go" = false) (h2 : r.isW "skip" = false) (h3 : r.isW "side" = false) (h4 : r.isW "dot" = false) (h5 : r.isW "mirror" = false) (h6 : r.isW "grow" = false) (h7 : r.isW "quarter" = false) (h8 : r.isW "half" = false) (h9 : r.isW "arc" = false) : r = .left ∨ r = .right ∨ r = .round := by
  cases r <;> first | exact .inl rfl | exact .inr (.inl rfl) | exact .inr (.inr rfl) | cases hp | skip
  all_goals simp only [Rw.isW, Rw.word] at h1 h2 h3 h4 h5 h6 h7 h8 h9
  all_goals first | exact absurd h1 (by decide +kernel) | exact absurd h2 (by decide +kernel) | exact absurd h3 (by decide +kernel) | exact absurd h4 (by decide +kernel) | exact absurd h5 (by decide +kernel) | exact absurd h6 (by decide +kernel) | exact absurd h7 (by decide +kernel) | exact absurd h8 (by decide +kernel) | exact absurd h9 (by decide +kernel)
theorem ok_shaped (T : Tx w K mg) : FnOk P w K mg base (L2.CX P w) 8 T.a_shaped T.fd_shaped ["row"] (spD K c_shaped) := by
  refine Fun.okD T.F_shaped sc_shaped (fun ss M R Rx h => ?_) (fun cdv A outer s H E ss M R Rx h hr tk => ?_)
  · obtain ⟨r, L, rfl, _⟩ := h
    rfl
  · obtain ⟨r, L, rfl, hp, hg, hR⟩ := h
    have hb0 : Pb 300 (⟨0, 0⟩ : Pt) := ⟨fb_zero.mono (by decide), fb_zero.mono (by decide)⟩
    -- word = row[0]
    refine b_cons (s_set 1 sc_shaped.nd (e_ix (d := r.D) (d' := .str r.word) (e_var 0 rfl) e_int (it_word r)) ?_)
    -- if word == 'go':
    refine b_cons (s_if (b1 := r.isW "go") (t_eq hr (e_var 1 rfl) e_str .d .d (sh_word r) (by decide +kernel) rfl) (fun h => ?_) (fun h1 => b_nil ?_))
    · obtain ⟨x, rfl⟩ := of_go h
      rw [Rw.good] at hg
      -- return straight((row[1], (0, 1)))
      refine b_cons (s_ret (e_call (ok_straight T) (hr.mono (by decide)) T.g_straight T.F_straight.kp T.b_straight tk (ea_cons (e_tup (ds := [_, _]) (ea_cons (e_ix (d := (Rw.go x).D) (d' := fr x) (e_var 0 rfl) e_int rfl) (ea_cons (e_tup (ds := [_, _]) (ea_cons e_int (ea_cons e_int ea_nil))) ea_nil))) ea_nil) ⟨⟨x, 0⟩, rfl, ⟨hg.1.mono (by decide), fb_zero.mono (by decide)⟩, rfl, rfl⟩) ?_)
      rw [show (stretchP ⟨0, 0⟩ ⟨x, 0⟩).D = rawPD (Rw.go x).raw from congrArg Pc.D (raw_st _ _).symm]
      exact hR
    -- if word == 'skip':
    refine b_cons (s_if (b1 := r.isW "skip") (t_eq hr (e_var 1 rfl) e_str .d .d (sh_word r) (by decide +kernel) rfl) (fun h => ?_) (fun h2 => b_nil ?_))
    · obtain ⟨x, rfl⟩ := of_skip h
      -- return (None, stood((row[1], (0, 1))))
      refine b_cons (s_ret (e_tup (ds := [_, _]) (ea_cons e_non (ea_cons (e_callD (ok_stood T) (hr.mono (by decide)) T.g_stood T.F_stood.kp T.bd_stood T.dv_stood dd_int tk (ea_cons (e_tup (ds := [_, _]) (ea_cons (e_ix (d := (Rw.skip x).D) (d' := fr x) (e_var 0 rfl) e_int rfl) (ea_cons (e_tup (ds := [_, _]) (ea_cons e_int (ea_cons e_int ea_nil))) ea_nil))) ea_nil) ⟨⟨x, 0⟩, 0, rfl, rfl, rfl⟩) ea_nil))) ?_)
      exact hR
    -- if word == 'side':
    refine b_cons (s_if (b1 := r.isW "side") (t_eq hr (e_var 1 rfl) e_str .d .d (sh_word r) (by decide +kernel) rfl) (fun h => ?_) (fun h3 => b_nil ?_))
    · obtain ⟨x, y, rfl⟩ := of_side h
      rw [Rw.good] at hg
      -- return straight((row[1], row[2]))
      refine b_cons (s_ret (e_call (ok_straight T) (hr.mono (by decide)) T.g_straight T.F_straight.kp T.b_straight tk (ea_cons (e_tup (ds := [_, _]) (ea_cons (e_ix (d := (Rw.side x y).D) (d' := fr x) (e_var 0 rfl) e_int rfl) (ea_cons (e_ix (d := (Rw.side x y).D) (d' := fr y) (e_var 0 rfl) e_int rfl) ea_nil))) ea_nil) ⟨⟨x, y⟩, rfl, ⟨hg.1.1.mono (by decide), hg.2.1.mono (by decide)⟩, rfl, rfl⟩) ?_)
      rw [show (stretchP ⟨0, 0⟩ ⟨x, y⟩).D = rawPD (Rw.side x y).raw from congrArg Pc.D (raw_st _ _).symm]
      exact hR
    -- if word == 'dot':
    refine b_cons (s_if (b1 := r.isW "dot") (t_eq hr (e_var 1 rfl) e_str .d .d (sh_word r) (by decide +kernel) rfl) (fun h => ?_) (fun h4 => b_nil ?_))
    · cases of_dot h
      -- return (('dot', NOUGHT), first())
      refine b_cons (s_ret (e_tup (ds := [_, _]) (ea_cons (e_tup (ds := [_, _]) (ea_cons e_str (ea_cons (e_con T.m_NOUGHT T.r_NOUGHT T.d_NOUGHT) ea_nil))) (ea_cons (e_call0 (ok_first T) (hr.mono (by decide)) T.g_first T.F_first.kp T.b_first tk ⟨rfl, rfl, rfl⟩) ea_nil))) ?_)
      have e : shapeD .dot = .tuple [dotD ⟨0, 0⟩, frD Fr.one] := by
        show PyData.tuple [(Pc.dot (Fr.one.led ⟨0, 0⟩)).D, frD Fr.one] = _
        rw [led_one]
        rfl
      rw [e] at hR
      exact hR
    -- if word == 'mirror':
    refine b_cons (s_if (b1 := r.isW "mirror") (t_eq hr (e_var 1 rfl) e_str .d .d (sh_word r) (by decide +kernel) rfl) (fun h => ?_) (fun h5 => b_nil ?_))
    · cases of_mirror h
      -- return (None, (NOUGHT, 0, -1, (1, 1)))
      refine b_cons (s_ret (e_tup (ds := [_, _]) (ea_cons e_non (ea_cons (e_tup (ds := [_, _, _, _]) (ea_cons (e_con T.m_NOUGHT T.r_NOUGHT T.d_NOUGHT) (ea_cons e_int (ea_cons (e_neg e_int) (ea_cons (e_tup (ds := [_, _]) (ea_cons e_int (ea_cons e_int ea_nil))) ea_nil))))) ea_nil))) ?_)
      exact hR
    -- if word == 'grow':
    refine b_cons (s_if (b1 := r.isW "grow") (t_eq hr (e_var 1 rfl) e_str .d .d (sh_word r) (by decide +kernel) rfl) (fun h => ?_) (fun h6 => b_nil ?_))
    · obtain ⟨x, rfl⟩ := of_grow h
      -- return (None, (NOUGHT, 0, 1, row[1]))
      refine b_cons (s_ret (e_tup (ds := [_, _]) (ea_cons e_non (ea_cons (e_tup (ds := [_, _, _, _]) (ea_cons (e_con T.m_NOUGHT T.r_NOUGHT T.d_NOUGHT) (ea_cons e_int (ea_cons e_int (ea_cons (e_ix (d := (Rw.grow x).D) (d' := fr x) (e_var 0 rfl) e_int rfl) ea_nil))))) ea_nil))) ?_)
      exact hR
    -- if word == 'quarter':
    refine b_cons (s_if (b1 := r.isW "quarter") (t_eq hr (e_var 1 rfl) e_str .d .d (sh_word r) (by decide +kernel) rfl) (fun h => ?_) (fun h7 => b_nil ?_))
    · obtain ⟨x, rfl⟩ := of_quarter h
      rw [Rw.good] at hg
      obtain ⟨n1, n2⟩ := bow_quarter hg.2
      have hx := hg.1.1
      -- return bowed(row[1], ((abs(row[1][0]), row[1][1]), row[1]), 1)
      refine b_cons (s_ret (e_call (ok_bowed T) (hr.mono (by decide)) T.g_bowed T.F_bowed.kp T.b_bowed tk (ea_cons (e_ix (d := (Rw.quarter x).D) (d' := fr x) (e_var 0 rfl) e_int rfl) (ea_cons (e_tup (ds := [_, _]) (ea_cons (e_is (e_tup (ds := [_, _]) (ea_cons (e_abs rfl T.n_abs (ea_cons (e_ix (d := fr x) (e_ix (d := (Rw.quarter x).D) (d' := fr x) (e_var 0 rfl) e_int rfl) e_int rfl) ea_nil)) (ea_cons (e_ix (d := fr x) (e_ix (d := (Rw.quarter x).D) (d' := fr x) (e_var 0 rfl) e_int rfl) e_int rfl) ea_nil))) (congrArg S.d (absR_tup x))) (ea_cons (e_ix (d := (Rw.quarter x).D) (d' := fr x) (e_var 0 rfl) e_int rfl) ea_nil))) (ea_cons e_int ea_nil))) ⟨x, ⟨absR x, x⟩, 1, rfl, hx.mono (by decide), ⟨(fb_abs hx).mono (by decide), hx.mono (by decide)⟩, n1, n2, rfl, rfl⟩) ?_)
      have e : shapeD (.quarter x) = .tuple [if 0 < x then arcD ⟨0, x⟩ ⟨0, 0⟩ ⟨absR x, x⟩ else arcD ⟨0, x⟩ ⟨absR x, x⟩ ⟨0, 0⟩, frD (stand ⟨absR x, x⟩ (if 0 < x then 1 else (0 - 1) % 4))] := by
        unfold shapeD Rw.raw Rw.mv
        by_cases c : 0 < x
        · simp only [if_pos c]
          rw [show rawPD (some (.arc ⟨0, x⟩ ⟨0, 0⟩ ⟨absR x, x⟩)) = _ from raw_arcD _ _ _]
        · simp only [if_neg c]
          rw [show rawPD (some (.arc ⟨0, x⟩ ⟨absR x, x⟩ ⟨0, 0⟩)) = _ from raw_arcD _ _ _]
          rfl
      rw [e] at hR
      exact hR
    -- if word == 'half':
    refine b_cons (s_if (b1 := r.isW "half") (t_eq hr (e_var 1 rfl) e_str .d .d (sh_word r) (by decide +kernel) rfl) (fun h => ?_) (fun h8 => b_nil ?_))
    · obtain ⟨x, rfl⟩ := of_half h
      rw [Rw.good] at hg
      obtain ⟨n1, n2⟩ := bow_half hg.2
      have hx := hg.1.1
      -- return bowed(row[1], ((0, 1), plus(row[1], row[1])), 2)
      refine b_cons (s_ret (e_call (ok_bowed T) (hr.mono (by decide)) T.g_bowed T.F_bowed.kp T.b_bowed tk (ea_cons (e_ix (d := (Rw.half x).D) (d' := fr x) (e_var 0 rfl) e_int rfl) (ea_cons (e_tup (ds := [_, _]) (ea_cons (e_tup (ds := [_, _]) (ea_cons e_int (ea_cons e_int ea_nil))) (ea_cons (e_call (ok_plus T) (hr.mono (by decide)) T.g_plus T.F_plus.kp T.b_plus tk (ea_cons (e_ix (d := (Rw.half x).D) (d' := fr x) (e_var 0 rfl) e_int rfl) (ea_cons (e_ix (d := (Rw.half x).D) (d' := fr x) (e_var 0 rfl) e_int rfl) ea_nil)) ⟨x, x, _, _, rfl, hx, hx, by first | omega | decide, rfl, rfl⟩) ea_nil))) (ea_cons e_int ea_nil))) ⟨x, ⟨0, x + x⟩, 2, rfl, hx.mono (by decide), ⟨fb_zero.mono (by decide), (fb_add hx hx).mono (by decide)⟩, n1, n2, rfl, rfl⟩) ?_)
      have e : shapeD (.half x) = .tuple [if 0 < x then arcD ⟨0, x⟩ ⟨0, 0⟩ ⟨0, x + x⟩ else arcD ⟨0, x⟩ ⟨0, x + x⟩ ⟨0, 0⟩, frD (stand ⟨0, x + x⟩ (if 0 < x then 2 else (0 - 2) % 4))] := by
        unfold shapeD Rw.raw Rw.mv
        by_cases c : 0 < x
        · simp only [if_pos c]
          rw [show rawPD (some (.arc ⟨0, x⟩ ⟨0, 0⟩ ⟨0, x + x⟩)) = _ from raw_arcD _ _ _]
        · simp only [if_neg c]
          rw [show rawPD (some (.arc ⟨0, x⟩ ⟨0, x + x⟩ ⟨0, 0⟩)) = _ from raw_arcD _ _ _]
          rfl
      rw [e] at hR
      exact hR
    -- if word == 'arc':
    refine b_cons (s_if (b1 := r.isW "arc") (t_eq hr (e_var 1 rfl) e_str .d .d (sh_word r) (by decide +kernel) rfl) (fun h => ?_) (fun h9 => b_nil ?_))
    · obtain ⟨c, q, rfl⟩ := of_arc h
      rw [Rw.good] at hg
      obtain ⟨g1, g2, g3, g4⟩ := hg
      have n1 : ¬ noArc c ⟨0, 0⟩ q := fun z => z.elim (fun z => z g4) g3
      -- return (arc((row[1], row[2]), NOUGHT, (row[3], row[4])), stood((row[3], row[4])))
      refine b_cons (s_ret (e_tup (ds := [_, _]) (ea_cons (e_call (ok_arc T) (hr.mono (by decide)) T.g_arc T.F_arc.kp T.b_arc tk (ea_cons (e_tup (ds := [_, _]) (ea_cons (e_ix (d := (Rw.arc c q).D) (d' := fr c.x) (e_var 0 rfl) e_int rfl) (ea_cons (e_ix (d := (Rw.arc c q).D) (d' := fr c.y) (e_var 0 rfl) e_int rfl) ea_nil))) (ea_cons (e_con T.m_NOUGHT T.r_NOUGHT T.d_NOUGHT) (ea_cons (e_tup (ds := [_, _]) (ea_cons (e_ix (d := (Rw.arc c q).D) (d' := fr q.x) (e_var 0 rfl) e_int rfl) (ea_cons (e_ix (d := (Rw.arc c q).D) (d' := fr q.y) (e_var 0 rfl) e_int rfl) ea_nil))) ea_nil))) ⟨c, ⟨0, 0⟩, q, rfl, ⟨g1.1.mono (by decide), g1.2.mono (by decide)⟩, hb0, ⟨g2.1.1.mono (by decide), g2.2.1.mono (by decide)⟩, fun z => absurd z n1, fun _ => ⟨rfl, rfl⟩⟩) (ea_cons (e_callD (ok_stood T) (hr.mono (by decide)) T.g_stood T.F_stood.kp T.bd_stood T.dv_stood dd_int tk (ea_cons (e_tup (ds := [_, _]) (ea_cons (e_ix (d := (Rw.arc c q).D) (d' := fr q.x) (e_var 0 rfl) e_int rfl) (ea_cons (e_ix (d := (Rw.arc c q).D) (d' := fr q.y) (e_var 0 rfl) e_int rfl) ea_nil))) ea_nil) ⟨q, 0, rfl, rfl, rfl⟩) ea_nil))) ?_)
      have e : shapeD (.arc c q) = .tuple [arcD c ⟨0, 0⟩ q, frD (stand q 0)] := by
        show PyData.tuple [rawPD (some (.arc c ⟨0, 0⟩ q)), _] = _
        rw [show rawPD (some (.arc c ⟨0, 0⟩ q)) = _ from raw_arcD _ _ _]
        rfl
      rw [e] at hR
      exact hR
    -- return (None, stood(NOUGHT, TURNS[word]))
    rcases turn_of hp h1 h2 h3 h4 h5 h6 h7 h8 h9 with rfl | rfl | rfl
    · refine b_cons (s_ret (e_tup (ds := [_, _]) (ea_cons e_non (ea_cons (e_call (ok_stood T) (hr.mono (by decide)) T.g_stood T.F_stood.kp T.b_stood tk (ea_cons (e_con T.m_NOUGHT T.r_NOUGHT T.d_NOUGHT) (ea_cons (e_ixKD T.kd_TURNS T.i_TURNS_left (rv_int _ _) (fun _ => .int _) (e_globR rfl T.m_TURNS rfl) (e_var 1 rfl)) ea_nil)) ⟨⟨0, 0⟩, 1, rfl, rfl, rfl⟩) ea_nil))) ?_)
      exact hR
    · refine b_cons (s_ret (e_tup (ds := [_, _]) (ea_cons e_non (ea_cons (e_call (ok_stood T) (hr.mono (by decide)) T.g_stood T.F_stood.kp T.b_stood tk (ea_cons (e_con T.m_NOUGHT T.r_NOUGHT T.d_NOUGHT) (ea_cons (e_ixKD T.kd_TURNS T.i_TURNS_right (rv_int _ _) (fun _ => .int _) (e_globR rfl T.m_TURNS rfl) (e_var 1 rfl)) ea_nil)) ⟨⟨0, 0⟩, 3, rfl, rfl, rfl⟩) ea_nil))) ?_)
      exact hR
    · refine b_cons (s_ret (e_tup (ds := [_, _]) (ea_cons e_non (ea_cons (e_call (ok_stood T) (hr.mono (by decide)) T.g_stood T.F_stood.kp T.b_stood tk (ea_cons (e_con T.m_NOUGHT T.r_NOUGHT T.d_NOUGHT) (ea_cons (e_ixKD T.kd_TURNS T.i_TURNS_round (rv_int _ _) (fun _ => .int _) (e_globR rfl T.m_TURNS rfl) (e_var 1 rfl)) ea_nil)) ⟨⟨0, 0⟩, 2, rfl, rfl, rfl⟩) ea_nil))) ?_)
      exact hR

theorem raw_isn (r : Rw) : isNon (rawPD r.raw) = !r.raw.isSome := by
  cases h : r.raw with
  | none => rfl
  | some z =>
    show isNon (z.led Fr.one).D = false
    generalize z.led Fr.one = y
    cases y <;> rfl
theorem draws_of {rs : List Rw} {r : Rw} (hm : r ∈ rs) (h : r.draws = true) : drawsL rs = true := by
  induction rs with
  | nil => cases hm
  | cons a as ih =>
    rw [drawsL, Bool.or_eq_true]
    rcases List.mem_cons.mp hm with rfl | hm
    · exact .inl h
    · exact .inr (ih hm)
def c_draws (dp : Nat) : Con := fun ss M R _ => ∃ (s : S) (rs : List Rw) (L : Nat), ss = [s] ∧ SqV M s (rowsD rs) ∧ goodL L rs ∧ deepL rs ≤ dp ∧ dp ≤ 8 ∧ R (.d (.bool (drawsL rs))) M
theorem at_draws (T : Tx w K mg) (dp : Nat) : FnOk P w K mg base (L2.CX P w) (3 * dp + 9) T.a_draws T.fd_draws ["rows"] (spD K (c_draws dp)) := by
  induction dp using Nat.strongRecOn with
  | ind dp ih =>
  refine Fun.okD T.F_draws sc_draws (fun ss M R Rx h => ?_) (fun cdv A outer s H E ss M R Rx h hr tk => ?_)
  · obtain ⟨s, rs, L, rfl, _⟩ := h
    rfl
  · obtain ⟨sr, rs, L, rfl, hv, hg, hd, h8, hR⟩ := h
    have hk := SqV.kn hv
    -- for row in rows:
    refine b_cons (s_for (passes_of rfl) rfl (i_sq (e_var 0 rfl (hk := hk)) hv) (fun i γ' M' => M' = M ∧ ∃ u1 u2, γ' = [sr, u1, u2] ∧ drawsL (rs.take i) = false) ⟨rfl, _, _, rfl, rfl⟩ (fun _ _ _ h => by rw [h.1]; exact hv) (fun i x γ2 M2 hx w => ?_) (fun γ2 M2 w => ?_))
    · obtain ⟨rfl, u1, u2, rfl, hc⟩ := w
      obtain ⟨r, hri, rfl⟩ := rows_at hx
      have hm := List.mem_of_getElem? hri
      have hgr := good_mem hg hm
      have hl := draws_step hri
      refine ⟨_, g_name 1 sc_draws.nd, ?_⟩
      -- if row[0] == 'again' and row[1] == 0: .. elif .. else ..
      refine b_cut (fun γ' M' => M' = M2 ∧ γ' = [sr, .d r.D, .d (.bool r.draws)]) ?_ ?_
      · cases hp : r.plain with
        | true =>
          have h1 : r.isW "again" = false := by cases r <;> first | (cases hp; done) | (simp only [Rw.isW, Rw.word]; decide +kernel)
          refine s_if (b1 := false) (EW.t (w_and (b1 := false) (b2 := false) (t_is (t_eq (z := r.isW "again") (d1 := .str r.word) hr (e_ix (d := r.D) (d' := .str r.word) (e_var 1 rfl) e_int (it_word r)) e_str .d .d (sh_word r) (by decide +kernel) rfl) h1) (fun h => nomatch h))) (fun h => nomatch h) (fun _ => ?_)
          refine b_cons (s_if (b1 := false) (t_is (t_inT hr (e_ix (d := r.D) (d' := .str r.word) (e_var 1 rfl) e_int (it_word r)) (e_tup (ds := [_, _, _]) (ea_cons e_str (ea_cons e_str (ea_cons e_str ea_nil)))) .d (sh_word r) .d (by decide +kernel) (blk_any r)) (by rw [hp]; rfl)) (fun h => nomatch h) (fun _ => ?_))
          -- found = shaped(row)[0] is not None
          refine b_cons (s_set 2 sc_draws.nd (e_is (e_notN (e_ix (d := shapeD r) (d' := rawPD r.raw) (e_call (ok_shaped T) (hr.mono (by omega)) T.g_shaped T.F_shaped.kp T.b_shaped tk (ea_cons (e_var 1 rfl) ea_nil) ⟨r, L, rfl, hp, hgr, rfl, rfl⟩) e_int rfl)) (show _ = S.d (.bool r.draws) from congrArg (fun z => S.d (.bool z)) (by rw [raw_isn, Bool.not_not, draws_plain hp]))) ?_)
          exact b_nil (b_nil ⟨rfl, rfl⟩)
        | false =>
          obtain ⟨d, rfl, hd2⟩ := deep_inner hd hm hp
          have hdr := deep_mem hm
          have hgi : goodL L r.inner := good_inner hgr
          obtain ⟨n, hn, hi⟩ : ∃ n : Nat, lenD r.D = some n ∧ itD r.D ((n : Int) - 1) = some (.tuple (rowsD r.inner)) := by cases r <;> first | exact ⟨_, rfl, rfl⟩ | cases hp
          refine s_if (b1 := r.isW "again" && r.sec0) (EW.t (w_and (t_eq (d1 := .str r.word) hr (e_ix (d := r.D) (d' := .str r.word) (e_var 1 rfl) e_int (it_word r)) e_str .d .d (sh_word r) (by decide +kernel) rfl) (fun _ => (w_and1 (t_eq hr (e_ix (d := r.D) (e_var 1 rfl) e_int (sec_it hp)) e_int .d .d (sec_sh (d := d + 1) hp (by omega) h8) rfl (sec_eqv hp)))))) (fun h1 => ?_) (fun h1 => ?_)
          · -- found = False
            rw [Bool.and_eq_true] at h1
            refine b_cons (s_set 2 sc_draws.nd e_bl ?_)
            exact b_nil ⟨rfl, by rw [draws_blk hp, h1.2]; rfl⟩
          · have hs0 : r.sec0 = false ∨ r.draws = drawsL r.inner := by
              cases hs : r.sec0 with
              | false => exact .inl rfl
              | true =>
                rw [hs, Bool.and_true] at h1
                cases r <;> first | (cases hp; done) | (cases hs; done) | (exfalso; revert h1; simp only [Rw.isW, Rw.word]; decide +kernel)
            have hdd : r.draws = drawsL r.inner := by
              rcases hs0 with h | h
              · rw [draws_blk hp, h]; rfl
              · exact h
            refine b_cons (s_if (b1 := true) (t_is (t_inT hr (e_ix (d := r.D) (d' := .str r.word) (e_var 1 rfl) e_int (it_word r)) (e_tup (ds := [_, _, _]) (ea_cons e_str (ea_cons e_str (ea_cons e_str ea_nil)))) .d (sh_word r) .d (by decide +kernel) (blk_any r)) (by rw [hp]; rfl)) (fun _ => ?_) (fun h => nomatch h))
            -- found = draws(row[len(row) - 1])
            refine b_cons (s_set 2 sc_draws.nd (e_call (ih d (Nat.lt_succ_self d)) (hr.mono (by omega)) T.g_draws T.F_draws.kp T.b_draws tk (ea_cons (e_ix (d := r.D) (e_var 1 rfl) (e_sub (e_len rfl T.n_len (ea_cons (e_var 1 rfl) ea_nil) .d hn) e_int) hi) ea_nil) ⟨_, r.inner, L, rfl, .t, hgi, hd2, by omega, rfl, rfl⟩) ?_)
            exact b_nil (b_nil ⟨rfl, by rw [hdd]; rfl⟩)
      rintro γ3 M3 ⟨rfl, rfl⟩
      -- if found:
      refine b_cons (s_if (b1 := r.draws) (t_val (e_var 2 rfl)) (fun h1 => ?_) (fun h1 => b_nil ?_))
      · -- return True
        refine b_cons (s_ret e_bl ?_)
        rw [draws_of hm h1] at hR
        exact hR
      · exact b_nil ⟨rfl, _, _, rfl, by rw [hl, hc, h1]; rfl⟩
    · obtain ⟨rfl, u1, u2, rfl, hc⟩ := w
      rw [take_rows] at hc
      -- return False
      refine b_cons (s_ret e_bl ?_)
      rw [hc] at hR
      exact hR
theorem ok_draws (T : Tx w K mg) : FnOk P w K mg base (L2.CX P w) 33 T.a_draws T.fd_draws ["rows"] (spD K (c_draws 8)) := at_draws T 8

def threeQ : Rat := ⟨3, 4, by decide, by decide⟩
theorem three_lt (x : Rat) : (!decide (threeQ < x)) = decide (4 * x.num ≤ 3 * (x.den : Int)) := by
  rw [← decide_not]
  refine decide_eq_decide.mpr ?_
  rw [Rat.lt_iff]
  show ¬ ((3 : Int) * (x.den : Int) < x.num * 4) ↔ _
  omega
def c_goes_on : Con := fun ss M R _ => ∃ (rs : List Rw) (L lb N : Nat), ss = [.d (.tuple (rowsD rs))] ∧ Prg L 8 rs ∧ Mv L lb N ∧ alldL N rs ∧ doneL rs ≤ N ∧ R (.d (.bool (endlessB rs))) M
theorem ok_goes_on (T : Tx w K mg) : FnOk P w K mg base (L2.CX P w) 34 T.a_goes_on T.fd_goes_on ["rows"] (spD K c_goes_on) := by
  refine Fun.okD T.F_goes_on sc_goes_on (fun ss M R Rx h => ?_) (fun cdv A outer s H E ss M R Rx h hr tk => ?_)
  · obtain ⟨rs, L, lb, N, rfl, _⟩ := h
    rfl
  · obtain ⟨rs, L, lb, N, rfl, hP, hM, hA, hN, hR⟩ := h
    unfold endlessB small34 at hR
    -- if done_by(rows) > MOST_DONE:
    refine b_cons (s_if (b1 := decide (300 < doneL rs)) (t_is (t_gt (e_call (ok_done_by T) (hr.mono (by decide)) T.g_done_by T.F_done_by.kp T.b_done_by tk (ea_cons (e_var 0 rfl) ea_nil) ⟨rs, L, rfl, hP, by decide, rfl, rfl⟩) (e_con T.m_MOST_DONE T.r_MOST_DONE T.d_MOST_DONE)) (decide_eq_decide.mpr (by omega))) (fun h1 => ?_) (fun h1 => b_nil ?_))
    · rw [h1] at hR
      -- return False
      refine b_cons (s_ret e_bl ?_)
      exact hR
    rw [h1] at hR
    have hs := fb_sizeR hM hP.g hN
    have hb := hM.b
    -- size = size_by(rows)
    refine b_cons (s_set 1 sc_goes_on.nd (e_call (ok_size_by T) (hr.mono (by decide)) T.g_size_by T.F_size_by.kp T.b_size_by tk (ea_cons (e_var 0 rfl) ea_nil) ⟨_, rs, L, lb, N, rfl, .t, hP.g, hP.d, hM, hA, hN, rfl, rfl⟩) ?_)
    -- return (size == (1, 1) or not below(MOST_SIZE, size)) and draws(rows)
    refine b_cons (s_ret (e_and (e_or (e_eq hr (e_var 1 rfl) (e_is (e_tup (ds := [_, _]) (ea_cons e_int (ea_cons e_int ea_nil))) (show _ = S.d (fr 1) from rfl)) .d .d (lay_fr _).sh (lay_fr _).sh (eqv_fr _ _)) (fun hb0 => (e_one (e_is (e_not (e_call (ok_below T) (hr.mono (by decide)) T.g_below T.F_below.kp T.b_below tk (ea_cons (e_is (e_con T.m_MOST_SIZE T.r_MOST_SIZE T.d_MOST_SIZE) (show _ = S.d (fr threeQ) from rfl)) (ea_cons (e_var 1 rfl) ea_nil)) ⟨threeQ, sizeR rs, 4, 4 * N + 1, rfl, ⟨by decide, by decide⟩, hs, by omega, rfl, rfl⟩)) (congrArg (fun z => S.d (.bool z)) (three_lt (sizeR rs))))))) (fun hb0 => (e_one (e_call (ok_draws T) (hr.mono (by decide)) T.g_draws T.F_draws.kp T.b_draws tk (ea_cons (e_var 0 rfl) ea_nil) ⟨_, rs, L, rfl, .t, hP.g, hP.d, by decide, rfl, rfl⟩)))) ?_)
    exact hR

def c_Reader_init (K : PySem.W.Frag) : Con := fun ss M R _ => ∃ (a C : Addr) (M0 : MM), ss = [.ob a] ∧ M = M0 ++ [(a, .ins C [])] ∧ Cls K C ∧ NoAttr K C "heads" ∧ NoAttr K C "rows" ∧ ∀ qh qr q, R (.d .none) (rdM M0 a C qh qr [] [(q, [])])
theorem ok_Reader_init (T : Tx w K mg) : FnOk P w K mg base (L2.CX P w) 1 T.a_Reader_init T.fd_Reader_init ["self"] (spD K (c_Reader_init K)) := by
  refine Fun.okD T.F_Reader_init sc_Reader_init (fun ss M R Rx h => ?_) (fun cdv A outer s H E ss M R Rx h hr tk => ?_)
  · obtain ⟨a, C, M0, rfl, _⟩ := h
    rfl
  · obtain ⟨a, C, M0, rfl, rfl, hC, n1, n2, hR⟩ := h
    -- self.heads = []
    refine b_cons (s_fldQ (EN.q (n_lst ea_nil) fun qh => ⟨a, C, M0.length, [], _, (e_var 0 rfl), by simp, hC, n1, by show 0 < 1000; decide, ?_⟩))
    -- self.rows = [[]]
    refine b_cons (s_fldQ (q_lstM (qa_cons (EN.q (n_lst ea_nil) fun q => qa_nil ⟨rfl, fun qr => ⟨a, C, M0.length, [("heads", .ob qh)], _, (e_var 0 rfl), by simp; rfl, hC, n2, by show 1 < 1000; decide, ?_⟩⟩))))
    have e1 : putS "heads" (S.ob qh) [] = [(("heads" : Str), S.ob qh)] := rfl
    have e2 : putS "rows" (S.ob qr) [(("heads" : Str), S.ob qh)] = rdF qh qr := rfl
    rw [e1, e2]
    refine b_prm (M' := rdM M0 a C qh qr [] [(q, [])]) ?_ (b_nil (hR qh qr q))
    have e3 : ∀ (x y : MO) (z : MM), ((M0 ++ [(a, x)] ++ z).set M0.length (a, y)) = M0 ++ [(a, y)] ++ z := fun x y z => by simp
    simp [rdM, llM, Ql.obs]
    first | exact .swap .. | exact List.Perm.append_left M0 (.cons _ (.cons _ (.swap ..)))

theorem ok_NoRow_init (T : Tx w K mg) : FnOk P w K mg base (L2.CX P w) 3 T.a_NoRow_init T.fd_NoRow_init ["self", "row"] (spXI K T.C_NoRow "row") := by
  refine Fun.okX T.F_NoRow_init sc_NoRow_init (fun vs H Q E h => ?_) (fun cdv A outer s H vs Q E hr h => ?_)
  · obtain ⟨a, y, rfl, _⟩ := h
    rfl
  · obtain ⟨a, y, rfl, ha, hq⟩ := h
    exact ⟨_, xinit ⟨oexB_ok T.o_NoRow, T.xs_NoRow, T.s_NoRow, T.t_NoRow, T.kp_NoRow⟩ T.nf_NoRow rfl T.g_MillError T.bga_MillError T.t_MillError T.br_MillError T.bi_MillError rfl rfl (.inl rfl) (.inl rfl) (by decide) (by decide) (by decide) (by decide) (by decide), a, y, rfl, ha, hq⟩

def lkF (n : Int) : List (Str × S) := [("number", .d (.int n))]
def c_Looker_look_at (C CN : Addr) (dp : Nat) : Con := fun ss M R Rx => ∃ (a : Addr) (M0 : MM) (rs : List Rw) (n d L lb N : Nat) (w : Bool), ss = [.ob a, .d (.tuple (rowsD rs)), .d (.int (d : Int)), .d (.bool w)] ∧ M = M0 ++ [(a, .ins C (lkF (n : Int)))] ∧
  Prg L 8 rs ∧ deepL rs ≤ dp ∧ Mv L lb N ∧ eoL N rs ∧ (∀ m : Nat, lookL rs n d w = .ok m → R (.d .none) (M0 ++ [(a, .ins C (lkF (m : Int)))])) ∧
  (∀ i : Nat, lookL rs n d w = .error i → ∀ (j : Int) (dx : Addr), Rx (.int (CN : Nat) dx) (M0 ++ [(a, .ins C (lkF j))] ++ [(dx, .exd [("row", .d (.int (i : Int)))])]))
def c_Looker_look_into (C CN : Addr) (dp : Nat) : Con := fun ss M R Rx => ∃ (a : Addr) (M0 : MM) (r : Rw) (h d L lb N : Nat) (w : Bool), ss = [.ob a, .d r.D, .d (.int (h : Int)), .d (.int (d : Int)), .d (.bool w)] ∧ M = M0 ++ [(a, .ins C (lkF ((h + 1 : Nat) : Int)))] ∧
  r.plain = false ∧ (∀ n rs, r = .again n rs → n ≤ 12) ∧ Prg L 8 r.inner ∧ r.deep ≤ dp ∧ Mv L lb N ∧ eoR N r ∧ (∀ m : Nat, lookR r h d w = .ok m → R (.d .none) (M0 ++ [(a, .ins C (lkF (m : Int)))])) ∧
  (∀ i : Nat, lookR r h d w = .error i → ∀ (j : Int) (dx : Addr), Rx (.int (CN : Nat) dx) (M0 ++ [(a, .ins C (lkF j))] ++ [(dx, .exd [("row", .d (.int (i : Int)))])]))
theorem up_look_into (T : Tx w K mg) (dp : Nat) (G : ∀ d, dp = d + 1 → FnOk P w K mg base (L2.CX P w) (3 * d + 35 + 2) T.a_Looker_look_at T.fd_Looker_look_at ["self", "rows", "deep", "within"] (spD K (c_Looker_look_at T.C_Looker T.C_NoRow d))) : FnOk P w K mg base (L2.CX P w) (3 * dp + 35 + 1) T.a_Looker_look_into T.fd_Looker_look_into ["self", "row", "here", "deep", "within"] (spD K (c_Looker_look_into T.C_Looker T.C_NoRow dp)) := by
  refine Fun.okD T.F_Looker_look_into sc_Looker_look_into (fun ss M R Rx h => ?_) (fun cdv A outer s H E ss M R Rx h hr tk => ?_)
  · obtain ⟨a, M0, r, h0, d, L, lb, N, w2, rfl, _⟩ := h
    rfl
  · obtain ⟨a, M0, r, h0, d, L, lb, N, w2, rfl, rfl, hp, h12, hP, hd, hM, hA, hR, hX⟩ := h
    have hOx : OexC K T.C_NoRow := ⟨oexB_ok T.o_NoRow, T.xs_NoRow, T.s_NoRow, T.t_NoRow, T.kp_NoRow⟩
    obtain ⟨hE, hAi⟩ := eo_in hA
    obtain ⟨e, rfl, hd2⟩ : ∃ e, dp = e + 1 ∧ deepL r.inner ≤ e := by
      have := blk_deep hp
      exact ⟨dp - 1, by omega, by omega⟩
    obtain ⟨n, hn, hi⟩ : ∃ n : Nat, lenD r.D = some n ∧ itD r.D ((n : Int) - 1) = some (.tuple (rowsD r.inner)) := by cases r <;> first | exact ⟨_, rfl, rfl⟩ | cases hp
    rw [look_blk hp] at hR hX
    -- endless = row[0] == 'ever'
    refine b_cons (s_set 5 sc_Looker_look_into.nd (e_eq (z := r.isW "ever") (d1 := .str r.word) hr (e_ix (d := r.D) (d' := .str r.word) (e_var 1 rfl) e_int (it_word r)) e_str .d .d (sh_word r) (by decide +kernel) rfl) ?_)
    generalize r.isW "ever" = b at hR hX hAi
    -- if not is_block(row) or deep == DEEPEST or (within and endless):
    refine b_cons (s_if (b1 := decide ((d : Int) = 4) || (w2 && b)) (EW.t (w_or (b1 := false) (t_not (b1 := true) (t_val (e_call (ok_is_block T) (hr.mono (by omega)) T.g_is_block T.F_is_block.kp T.b_is_block tk (ea_cons (e_var 1 rfl) ea_nil) ⟨r, rfl, hp, h12, rfl, rfl⟩))) (fun _ => (w_or (t_eqI hr (e_var 3 rfl) (e_con T.m_DEEPEST T.r_DEEPEST T.d_DEEPEST)) (fun _ => (w_or1 (EW.t (w_and (t_val (e_var 4 rfl)) (fun _ => (w_and1 (t_val (e_var 5 rfl)))))))))))) (fun h1 => ?_) (fun h1 => b_nil ?_))
    · -- raise NoRow(here)
      unfold Pl.stepK at hX
      rw [if_pos h1] at hX
      refine b_cons (s_raiseX rfl tk hOx T.iC_NoRow (beq_iff_eq.mp T.iT_NoRow) (ok_NoRow_init T) (hr.mono (by omega)) T.g_NoRow T.b_NoRow_init (e_var 2 rfl) (fun dx => ?_))
      exact hX h0 rfl _ dx
    unfold Pl.stepK at hR hX
    rw [if_neg (by rw [h1]; decide)] at hR hX
    -- rows = row[len(row) - 1]
    refine b_cons (s_set 6 sc_Looker_look_into.nd (e_ix (d := r.D) (e_var 1 rfl) (e_sub (e_len rfl T.n_len (ea_cons (e_var 1 rfl) ea_nil) .d hn) e_int) hi) ?_)
    -- self.look_at(rows, deep + 1, within or endless)
    refine b_cons (s_exprQ (q_meth (G e rfl) (hr.mono (by omega)) T.cl_Looker T.me_Looker_look_at T.b_Looker_look_at tk (EV.q (e_var 0 rfl) ⟨a, M0.length, lkF ((h0 + 1 : Nat) : Int), rfl, ga1 M0 _, rfl, EA.q (ea_cons (e_var 6 rfl) (ea_cons (e_add (e_var 3 rfl) e_int) (ea_cons (e_or (e_var 4 rfl) (fun _ => (e_one (e_var 5 rfl)))) ea_nil))) ⟨a, M0, r.inner, h0 + 1, d + 1, L, lb, N, w2 || b, rfl, rfl, hP, hd2, hM, hE, fun m hm => ?_, fun i hi2 j dx => ?_⟩⟩)))
    · rw [hm] at hR hX
      -- self.number = self.number + 1
      refine b_cons (s_fld (e_add (e_fld (e_var 0 rfl) (ga1 M0 _) T.cl_Looker T.na_Looker_number (show List.lookup ("number" : Str) (lkF (m : Int)) = some (.d (.int (m : Int))) from rfl)) e_int) (e_var 0 rfl) (ga1 M0 _) T.cl_Looker T.na_Looker_number ?_ (hl := by show 1 < 1000; decide))
      rw [sa1]
      -- if endless and (not goes_on(rows)):
      refine b_cons (s_if (b1 := b && !endlessB r.inner) (EW.t (w_and (t_val (e_var 5 rfl)) (fun hb => (w_and1 (t_not (t_val (e_call (ok_goes_on T) (hr.mono (by omega)) T.g_goes_on T.F_goes_on.kp T.b_goes_on tk (ea_cons (e_var 6 rfl) ea_nil) ⟨r.inner, L, lb, N, rfl, hP, hM, (hAi hb).2, (hAi hb).1, rfl, rfl⟩))))))) (fun h2 => ?_) (fun h2 => b_nil ?_))
      · -- raise NoRow(here)
        simp only [if_pos h2] at hX
        refine b_cons (s_raiseX rfl tk hOx T.iC_NoRow (beq_iff_eq.mp T.iT_NoRow) (ok_NoRow_init T) (hr.mono (by omega)) T.g_NoRow T.b_NoRow_init (e_var 2 rfl) (fun dx => ?_))
        exact hX h0 rfl _ dx
      · have h3 : ¬ (b && !endlessB r.inner) = true := by rw [h2]; decide
        simp only [if_neg h3] at hR
        exact b_nil (hR (m + 1) rfl)
    · rw [hi2] at hX
      exact hX i rfl j dx

theorem at_look_at (T : Tx w K mg) (dp : Nat) : FnOk P w K mg base (L2.CX P w) (3 * dp + 35 + 2) T.a_Looker_look_at T.fd_Looker_look_at ["self", "rows", "deep", "within"] (spD K (c_Looker_look_at T.C_Looker T.C_NoRow dp)) := by
  induction dp using Nat.strongRecOn with
  | ind dp ih =>
  have hinto := up_look_into (P := P) (w := w) (base := base) T dp fun d hd => ih d (by omega)
  refine Fun.okD T.F_Looker_look_at sc_Looker_look_at (fun ss M R Rx h => ?_) (fun cdv A outer s H E ss M R Rx h hr tk => ?_)
  · obtain ⟨a, M0, rs, n, d, L, lb, N, w2, rfl, _⟩ := h
    rfl
  · obtain ⟨a, M0, rs, n, d, L, lb, N, w2, rfl, rfl, hP, hd, hM, hA, hR, hX⟩ := h
    -- for row in rows:
    refine b_cons (s_for (passes_of rfl) rfl (i_tup (e_var 1 rfl)) (fun i γ' M' => ∃ (m : Nat) (u1 u2 : S), M' = M0 ++ [(a, .ins T.C_Looker (lkF (m : Int)))] ∧ lookL (rs.take i) n d w2 = .ok m ∧ γ' = [.ob a, .d (.tuple (rowsD rs)), .d (.int (d : Int)), .d (.bool w2), u1, u2]) ⟨n, _, _, rfl, by rw [List.take_zero, lookL], rfl⟩ (fun _ _ _ _ => trivial) (fun i x γ2 M2 hx w => ?_) (fun γ2 M2 w => ?_))
    · obtain ⟨m, u1, u2, rfl, hl, rfl⟩ := w
      obtain ⟨r, hri, rfl⟩ := rows_at hx
      have hm := List.mem_of_getElem? hri
      have ht := lookL_take hri n d w2
      rw [hl] at ht
      have ht : lookL (rs.take (i + 1)) n d w2 = lookR r m d w2 := ht
      refine ⟨_, g_name 4 sc_Looker_look_at.nd, ?_⟩
      -- here = self.number
      refine b_cons (s_set 5 sc_Looker_look_at.nd (e_fld (e_var 0 rfl) (ga1 M0 _) T.cl_Looker T.na_Looker_number (show List.lookup ("number" : Str) (lkF (m : Int)) = some (.d (.int (m : Int))) from rfl)) ?_)
      -- self.number = here + 1
      refine b_cons (s_fld (e_add (e_var 5 rfl) e_int) (e_var 0 rfl) (ga1 M0 _) T.cl_Looker T.na_Looker_number ?_ (hl := by show 1 < 1000; decide))
      rw [sa1]
      have e1 : putS "number" (S.d (.int ((m : Int) + 1))) (lkF (m : Int)) = lkF ((m + 1 : Nat) : Int) := by
        rw [Int.natCast_add]
        rfl
      rw [e1]
      -- if word_of(row) in ('again', 'keep', 'ever'):
      refine b_cons (s_if (b1 := !r.plain) (t_inT hr (e_call (ok_word_of T) (hr.mono (by omega)) T.g_word_of T.F_word_of.kp T.b_word_of tk (ea_cons (e_var 4 rfl) ea_nil) ⟨r, rfl, rfl, rfl⟩) (e_tup (ds := [_, _, _]) (ea_cons e_str (ea_cons e_str (ea_cons e_str ea_nil)))) .d (sh_word r) .d (by decide +kernel) (blk_any r)) (fun h1 => ?_) (fun h1 => ?_))
      · have hp : r.plain = false := by simpa using h1
        obtain ⟨e2, _, hP2⟩ := prg_inner hP hm hp
        have h12 : ∀ n2 rs2, r = .again n2 rs2 → n2 ≤ 12 := fun n2 rs2 hr2 => by
          have := good_mem hP.g hm
          rw [hr2, Rw.good] at this
          exact this.1
        -- self.look_into(row, here, deep, within)
        refine b_cons (s_exprQ (q_meth hinto (hr.mono (by omega)) T.cl_Looker T.me_Looker_look_into T.b_Looker_look_into tk (EV.q (e_var 0 rfl) ⟨a, M0.length, lkF ((m + 1 : Nat) : Int), rfl, ga1 M0 _, rfl, EA.q (ea_cons (e_var 4 rfl) (ea_cons (e_var 5 rfl) (ea_cons (e_var 2 rfl) (ea_cons (e_var 3 rfl) ea_nil)))) ⟨a, M0, r, m, d, L, lb, N, w2, rfl, rfl, hp, h12, prg_mono hP2 (by omega), Nat.le_trans (deep_mem hm) hd, hM, eoR_mem hA hm, fun m2 hm2 => ?_, fun i2 hi2 j dx => ?_⟩⟩)))
        · exact b_nil (b_nil ⟨m2, _, _, rfl, ht.trans hm2, rfl⟩)
        · exact hX i2 (lookL_err (ht.trans hi2)) j dx
      · have hp : r.plain = true := by simpa using h1
        -- if not is_plain_row(row):
        refine b_cons (s_if (b1 := false) (t_not (b1 := true) (t_val (e_call (ok_is_plain_row T) (hr.mono (by omega)) T.g_is_plain_row T.F_is_plain_row.kp T.b_is_plain_row tk (ea_cons (e_var 4 rfl) ea_nil) ⟨r, L, rfl, hp, good_mem hP.g hm, rfl, rfl⟩))) (fun h => nomatch h) (fun _ => b_nil ?_))
        exact b_nil (b_nil ⟨m + 1, _, _, rfl, ht.trans (look_plain hp m d w2), rfl⟩)
    · obtain ⟨m, u1, u2, rfl, hl, rfl⟩ := w
      rw [take_rows] at hl
      exact b_nil (hR m hl)
theorem ok_Looker_look_at (T : Tx w K mg) : FnOk P w K mg base (L2.CX P w) 61 T.a_Looker_look_at T.fd_Looker_look_at ["self", "rows", "deep", "within"] (spD K (c_Looker_look_at T.C_Looker T.C_NoRow 8)) := at_look_at T 8
def c_look_forth (C CN : Addr) : Con := fun ss M R Rx => ∃ (a : Addr) (M0 : MM) (rs : List Rw) (L lb N m : Nat), ss = [.ob a, .d (.tuple (rowsD rs ++ oddT true)), .d (.int 0), .d (.bool false)] ∧ M = M0 ++ [(a, .ins C (lkF 0))] ∧
  Prg L 8 rs ∧ Mv L lb N ∧ eoL N rs ∧ lookL rs 0 0 false = .ok m ∧ ∀ (j : Int) (dx : Addr), Rx (.int (CN : Nat) dx) (M0 ++ [(a, .ins C (lkF j))] ++ [(dx, .exd [("row", .d (.int (m : Int)))])])
theorem ok_look_forth (T : Tx w K mg) : FnOk P w K mg base (L2.CX P w) 61 T.a_Looker_look_at T.fd_Looker_look_at ["self", "rows", "deep", "within"] (spD K (c_look_forth T.C_Looker T.C_NoRow)) := by
  have hinto := up_look_into (P := P) (w := w) (base := base) T 8 fun d hd => at_look_at T d
  refine Fun.okD T.F_Looker_look_at sc_Looker_look_at (fun ss M R Rx h => ?_) (fun cdv A outer s H E ss M R Rx h hr tk => ?_)
  · obtain ⟨a, M0, rs, L, lb, N, m, rfl, _⟩ := h
    rfl
  · obtain ⟨a, M0, rs, L, lb, N, mm, rfl, rfl, hP, hM, hA, hlook, hX⟩ := h
    have hOx : OexC K T.C_NoRow := ⟨oexB_ok T.o_NoRow, T.xs_NoRow, T.s_NoRow, T.t_NoRow, T.kp_NoRow⟩
    -- for row in rows:
    refine b_cons (s_for (passes_of rfl) rfl (i_tup (e_var 1 rfl)) (fun i γ' M' => ∃ (m : Nat) (u1 u2 : S), i ≤ rs.length ∧ M' = M0 ++ [(a, .ins T.C_Looker (lkF (m : Int)))] ∧ lookL (rs.take i) 0 0 false = .ok m ∧ γ' = [.ob a, .d (.tuple (rowsD rs ++ oddT true)), .d (.int 0), .d (.bool false), u1, u2]) ⟨0, _, _, Nat.zero_le _, rfl, by rw [List.take_zero, lookL], rfl⟩ (fun _ _ _ _ => trivial) (fun i x γ2 M2 hx w => ?_) (fun γ2 M2 w => ?_))
    · obtain ⟨m, u1, u2, hile, rfl, hl, rfl⟩ := w
      refine ⟨_, g_name 4 sc_Looker_look_at.nd, ?_⟩
      -- here = self.number
      refine b_cons (s_set 5 sc_Looker_look_at.nd (e_fld (e_var 0 rfl) (ga1 M0 _) T.cl_Looker T.na_Looker_number (show List.lookup ("number" : Str) (lkF (m : Int)) = some (.d (.int (m : Int))) from rfl)) ?_)
      -- self.number = here + 1
      refine b_cons (s_fld (e_add (e_var 5 rfl) e_int) (e_var 0 rfl) (ga1 M0 _) T.cl_Looker T.na_Looker_number ?_ (hl := by show 1 < 1000; decide))
      rw [sa1]
      have e1 : putS "number" (S.d (.int ((m : Int) + 1))) (lkF (m : Int)) = lkF ((m + 1 : Nat) : Int) := by
        rw [Int.natCast_add]
        rfl
      rw [e1]
      rcases odd_at hx with ⟨r, hri, rfl⟩ | ⟨_, rfl, rfl⟩
      · have hm := List.mem_of_getElem? hri
        have hil := (List.getElem?_eq_some_iff.mp hri).1
        have ht := lookL_take hri 0 0 false
        rw [hl] at ht
        have ht : lookL (rs.take (i + 1)) 0 0 false = lookR r m 0 false := ht
        obtain ⟨m9, hm9⟩ : ∃ m9, lookL (rs.take (i + 1)) 0 0 false = .ok m9 := look_part hlook (i + 1)
        -- if word_of(row) in ('again', 'keep', 'ever'):
        refine b_cons (s_if (b1 := !r.plain) (t_inT hr (e_call (ok_word_of T) (hr.mono (by omega)) T.g_word_of T.F_word_of.kp T.b_word_of tk (ea_cons (e_var 4 rfl) ea_nil) ⟨r, rfl, rfl, rfl⟩) (e_tup (ds := [_, _, _]) (ea_cons e_str (ea_cons e_str (ea_cons e_str ea_nil)))) .d (sh_word r) .d (by decide +kernel) (blk_any r)) (fun h1 => ?_) (fun h1 => ?_))
        · have hp : r.plain = false := by simpa using h1
          obtain ⟨e2, _, hP2⟩ := prg_inner hP hm hp
          have h12 : ∀ n2 rs2, r = .again n2 rs2 → n2 ≤ 12 := fun n2 rs2 hr2 => by
            have := good_mem hP.g hm
            rw [hr2, Rw.good] at this
            exact this.1
          -- self.look_into(row, here, deep, within)
          refine b_cons (s_exprQ (q_meth hinto (hr.mono (by omega)) T.cl_Looker T.me_Looker_look_into T.b_Looker_look_into tk (EV.q (e_var 0 rfl) ⟨a, M0.length, lkF ((m + 1 : Nat) : Int), rfl, ga1 M0 _, rfl, EA.q (ea_cons (e_var 4 rfl) (ea_cons (e_var 5 rfl) (ea_cons (e_var 2 rfl) (ea_cons (e_var 3 rfl) ea_nil)))) ⟨a, M0, r, m, 0, L, lb, N, false, rfl, rfl, hp, h12, prg_mono hP2 (by omega), Nat.le_trans (deep_mem hm) hP.d, hM, eoR_mem hA hm, fun m2 hm2 => ?_, fun i2 hi2 j dx => ?_⟩⟩)))
          · exact b_nil (b_nil ⟨m2, _, _, by omega, rfl, ht.trans hm2, rfl⟩)
          · rw [ht, hi2] at hm9
            cases hm9
        · have hp : r.plain = true := by simpa using h1
          -- if not is_plain_row(row):
          refine b_cons (s_if (b1 := false) (t_not (b1 := true) (t_val (e_call (ok_is_plain_row T) (hr.mono (by omega)) T.g_is_plain_row T.F_is_plain_row.kp T.b_is_plain_row tk (ea_cons (e_var 4 rfl) ea_nil) ⟨r, L, rfl, hp, good_mem hP.g hm, rfl, rfl⟩))) (fun h => nomatch h) (fun _ => b_nil ?_))
          exact b_nil (b_nil ⟨m + 1, _, _, by omega, rfl, ht.trans (look_plain hp m 0 false), rfl⟩)
      · rw [List.take_length, hlook] at hl
        cases hl
        -- if word_of(row) in ('again', 'keep', 'ever'):
        refine b_cons (s_if (b1 := false) (t_inT (d := .str "forth") hr (e_call (ok_word_forth T) (hr.mono (by omega)) T.g_word_of T.F_word_of.kp T.b_word_of tk (ea_cons (e_var 4 rfl) ea_nil) ⟨rfl, rfl, rfl⟩) (e_tup (ds := [_, _, _]) (ea_cons e_str (ea_cons e_str (ea_cons e_str ea_nil)))) .d (by decide +kernel) .d (by decide +kernel) (by decide +kernel)) (fun h => nomatch h) (fun _ => ?_))
        -- if not is_plain_row(row):
        refine b_cons (s_if (b1 := true) (t_not (b1 := false) (t_val (e_call (ok_is_plain_forth T) (hr.mono (by omega)) T.g_is_plain_row T.F_is_plain_row.kp T.b_is_plain_row tk (ea_cons (e_var 4 rfl) ea_nil) ⟨rfl, rfl, rfl⟩))) (fun _ => ?_) (fun h => nomatch h))
        -- raise NoRow(here)
        refine b_cons (s_raiseX rfl tk hOx T.iC_NoRow (beq_iff_eq.mp T.iT_NoRow) (ok_NoRow_init T) (hr.mono (by omega)) T.g_NoRow T.b_NoRow_init (e_var 5 rfl) (fun dx => ?_))
        exact hX _ dx
    · obtain ⟨m, u1, u2, hile, rfl, hl, rfl⟩ := w
      rw [List.length_map, List.length_append, rowsD_len] at hile
      exact absurd hile (by show ¬ _ + 1 ≤ _; omega)

def c_program_of (CN TM : Addr) : Con := fun ss M R Rx => ∃ (rs : List Rw) (L lb N : Nat), ss = [.d (.tuple (rowsD rs))] ∧ Prg L 8 rs ∧ Mv L lb N ∧ eoL N rs ∧
  (∀ m : Nat, lookL rs 0 0 false = .ok m → (60 < sizeL rs → Rx (.ref TM) M) ∧ (sizeL rs ≤ 60 → R (.d (.tuple (rowsD rs))) M)) ∧
  (∀ i : Nat, lookL rs 0 0 false = .error i → ∀ (M2 : MM) (dx : Addr), Rx (.int (CN : Nat) dx) (M ++ M2 ++ [(dx, .exd [("row", .d (.int (i : Int)))])]))
theorem ok_program_of (T : Tx w K mg) : FnOk P w K mg base (L2.CX P w) 62 T.a_program_of T.fd_program_of ["rows"] (spD K (c_program_of T.C_NoRow T.C_TooMuch)) := by
  refine Fun.okD T.F_program_of sc_program_of (fun ss M R Rx h => ?_) (fun cdv A outer s H E ss M R Rx h hr tk => ?_)
  · obtain ⟨rs, L, lb, N, rfl, _⟩ := h
    rfl
  · obtain ⟨rs, L, lb, N, rfl, hP, hM, hA, hR, hX⟩ := h
    -- Looker().look_at(rows, 0, False)
    refine b_cons (s_exprQ (q_meth (ok_Looker_look_at T) (hr.mono (by decide)) T.cl_Looker T.me_Looker_look_at T.b_Looker_look_at tk (q_make0 T.mk_Looker (ok_Looker_init T) (hr.mono (by decide)) T.g_Looker T.b_Looker_init tk fun a => ⟨a, T.C_Looker, _, rfl, rfl, T.cl_Looker, T.na_Looker_number, rfl, a, M.length, lkF 0, rfl, ga1 M _, rfl, EA.q (ea_cons (e_var 0 rfl) (ea_cons e_int (ea_cons e_bl ea_nil))) ⟨a, M, rs, 0, 0, L, lb, N, false, rfl, rfl, hP, hP.d, hM, hA, fun m hm => ?_, fun i hi j dx => hX i hi _ dx⟩⟩)))
    obtain ⟨h1, h2⟩ := hR m hm
    refine b_gc (List.sublist_append_left M _) ?_
    -- if rows_in(rows) > MOST_ROWS:
    refine b_cons (s_if (b1 := decide (60 < sizeL rs)) (t_is (t_gt (e_call (ok_rows_in T) (hr.mono (by decide)) T.g_rows_in T.F_rows_in.kp T.b_rows_in tk (ea_cons (e_var 0 rfl) ea_nil) ⟨rs, L, rfl, hP, rfl, rfl⟩) (e_con T.m_MOST_ROWS T.r_MOST_ROWS T.d_MOST_ROWS)) (decide_eq_decide.mpr (by omega))) (fun h3 => ?_) (fun h3 => b_nil ?_))
    · -- raise TooMuch('more rows than a program has')
      refine b_cons (s_raise rfl tk PySem.F.excBase_ValueError T.x_TooMuch T.g_TooMuch T.kp_TooMuch (raises_own T.s_TooMuch T.t_TooMuch) ?_)
      exact h1 (of_decide_eq_true h3)
    · -- return rows
      refine b_cons (s_ret (e_var 0 rfl) ?_)
      exact h2 (by have := of_decide_eq_false h3; omega)
def c_program_forth (CN : Addr) : Con := fun ss M R Rx => ∃ (rs : List Rw) (L lb N m : Nat), ss = [.d (.tuple (rowsD rs ++ oddT true))] ∧ Prg L 8 rs ∧ Mv L lb N ∧ eoL N rs ∧ lookL rs 0 0 false = .ok m ∧ ∀ (M2 : MM) (dx : Addr), Rx (.int (CN : Nat) dx) (M ++ M2 ++ [(dx, .exd [("row", .d (.int (m : Int)))])])
theorem ok_program_forth (T : Tx w K mg) : FnOk P w K mg base (L2.CX P w) 62 T.a_program_of T.fd_program_of ["rows"] (spD K (c_program_forth T.C_NoRow)) := by
  refine Fun.okD T.F_program_of sc_program_of (fun ss M R Rx h => ?_) (fun cdv A outer s H E ss M R Rx h hr tk => ?_)
  · obtain ⟨rs, L, lb, N, m, rfl, _⟩ := h
    rfl
  · obtain ⟨rs, L, lb, N, m, rfl, hP, hM, hA, hl, hX⟩ := h
    -- Looker().look_at(rows, 0, False)
    exact b_cons (s_exprQ (q_meth (ok_look_forth T) (hr.mono (by decide)) T.cl_Looker T.me_Looker_look_at T.b_Looker_look_at tk (q_make0 T.mk_Looker (ok_Looker_init T) (hr.mono (by decide)) T.g_Looker T.b_Looker_init tk fun a => ⟨a, T.C_Looker, _, rfl, rfl, T.cl_Looker, T.na_Looker_number, rfl, a, M.length, lkF 0, rfl, ga1 M _, rfl, EA.q (ea_cons (e_var 0 rfl) (ea_cons e_int (ea_cons e_bl ea_nil))) ⟨a, M, rs, L, lb, N, m, rfl, rfl, hP, hM, hA, hl, fun j dx => hX _ dx⟩⟩)))

def c_whole_in : Con := fun ss M R _ => ∃ z : Str, ss = [.d (.str z)] ∧ z.length ≤ 640 ∧ Asc z ∧ R (.d (optI (wholeO z))) M
theorem ok_whole_in (T : Tx w K mg) : FnOk P w K mg base (L2.CX P w) 1 T.a_whole_in T.fd_whole_in ["word"] (spD K c_whole_in) := by
  refine Fun.okD T.F_whole_in sc_whole_in (fun ss M R Rx h => ?_) (fun cdv A outer s H E ss M R Rx h hr tk => ?_)
  · obtain ⟨z, rfl, _⟩ := h
    rfl
  · obtain ⟨z, rfl, hl, ha, hR⟩ := h
    obtain ⟨y, hy, hyz, hyl⟩ := figs_ex z
    have hay : Asc y := by
      rw [hyz]
      split
      · exact asc_cut ha _ _
      · exact ha
    -- figures = word
    refine b_cons (s_set 1 sc_whole_in.nd (e_var 0 rfl) ?_)
    -- if word[:1] == '-':
    refine b_cut (fun γ' M' => M' = M ∧ γ' = [.d (.str z), .d (.str y), .no]) (s_if (b1 := decide ((TL.tl z).take 1 = [45])) (t_is (t_eq (d1 := .str (L2.cutS z none (some 1))) (d2 := .str "-") hr (e_sliceS (l := none) (h := some 1) (e_var 0 rfl) o_none (o_some e_int) (by omega)) e_str .d .d (asc_sh (asc_cut ha _ _)) (by decide +kernel) (eqv_str _ _)) (decide_eq_decide.mpr (cut1_is z))) (fun h1 => ?_) (fun h1 => b_nil ?_)) ?_
    · -- figures = word[1:]
      refine b_cons (s_set 1 sc_whole_in.nd (e_sliceS (l := some 1) (h := none) (e_var 0 rfl) (o_some e_int) o_none (by omega)) ?_)
      rw [if_pos (of_decide_eq_true h1)] at hyz
      rw [hyz]
      exact b_nil ⟨rfl, rfl⟩
    · rw [if_neg (of_decide_eq_false h1)] at hyz
      rw [hyz]
      exact ⟨rfl, rfl⟩
    rintro _ M ⟨rfl, rfl⟩
    have hlen : y.cps.toList = figs (TL.tl z) := hy
    have hnum : y.cps.toList.length ≤ 640 := by
      have := TL.len_tl y
      show (TL.tl y).length ≤ _
      omega
    have he : decide (y = "") = decide (figs (TL.tl z) = []) := decide_eq_decide.mpr ⟨fun k => by rw [← hy, k]; decide, fun k => tl_inj (by rw [hy, k]; decide)⟩
    have hd : (y.cps.toList.map fun c => decide (48 ≤ c) && decide (c ≤ 57)).all id = digB (figs (TL.tl z)) := by
      rw [hlen, List.all_map]
      rfl
    -- if figures == '' or not all([sign in FIGURES for sign in figures]):
    refine b_cons (s_if (b1 := decide (figs (TL.tl z) = []) || !digB (figs (TL.tl z))) (EW.t (w_or (t_is (t_eq (d1 := .str y) (d2 := .str "") hr (e_var 1 rfl) e_str .d .d (asc_sh hay) (by decide +kernel) (eqv_str _ _)) he) (fun hb => (w_or1 (t_not (t_is (t_val (e_all (bs := y.cps.toList.map fun c => decide (48 ≤ c) && decide (c ≤ 57)) rfl rfl T.n_all (ea_cons (e_frz (ds := y.cps.toList.map fun c => PyData.bool (decide (48 ≤ c) && decide (c ≤ 57))) (n_compI 2 y.cps.toList sgn (fun c => PyData.bool (decide (48 ≤ c) && decide (c ≤ 57))) rfl sc_whole_in.nd (i_str (e_var 1 rfl)) (blkOk_by rfl) (show 2 < 3 by decide) (Nat.ble_eq_true_of_le (by omega)) (fun c hc M' s' H' C cl fp => e_is (e_inS (e_var 2 rfl) (e_con T.m_FIGURES T.r_FIGURES T.d_FIGURES)) (congrArg (fun b => S.d (.bool b)) (fig_in c))) (hg := fun _ _ _ _ _ => pg_name sc_whole_in.nd rfl (Or.inl rfl)))) ea_nil) (by
      rw [List.map_map, show (fun b => S.d (.bool b)) ∘ (fun c : Nat => decide (48 ≤ c) && decide (c ≤ 57)) = S.d ∘ (fun c : Nat => PyData.bool (decide (48 ≤ c) && decide (c ≤ 57))) from rfl, ← List.map_map]
      exact .d))) hd)))))) (fun h1 => ?_) (fun h1 => b_nil ?_))
    · -- return None
      refine b_cons (s_ret e_non ?_)
      have e : wholeO z = none := if_pos (.inl (by simpa using h1))
      rw [e] at hR
      exact hR
    · rw [Bool.or_eq_false_iff, decide_eq_false_iff_not] at h1
      obtain ⟨n1, n2⟩ := h1
      have n2 : digB (figs (TL.tl z)) = true := by simpa using n2
      obtain ⟨c, cs, hcs⟩ : ∃ c cs, figs (TL.tl z) = c :: cs := by
        cases e : figs (TL.tl z) with
        | nil => exact absurd e n1
        | cons c cs => exact ⟨c, cs, rfl⟩
      -- if figures[0] == '0' and word != '0':
      refine b_cons (s_if (b1 := decide (c = 48) && !decide (z = "0")) (EW.t (w_and (t_is (t_eq (d1 := sgn c) (d2 := .str "0") hr (e_ixS (c := c) (e_var 1 rfl) e_int (by rw [hlen, hcs]; exact atI_zero) (by omega)) e_str .d .d (asc_sh (z := ⟨#[c]⟩) ?_) (by decide +kernel) (eqv_str _ _)) ?_) (fun hb => (w_and1 (t_ne (d1 := .str z) (d2 := .str "0") hr (e_var 0 rfl) e_str .d .d (asc_sh ha) (by decide +kernel) (eqv_str _ _)))))) (fun h2 => ?_) (fun h2 => b_nil ?_))
      · intro c2 hc2
        have hc2 : c2 ∈ [c] := hc2
        rw [List.mem_singleton.mp hc2]
        exact hay c (by rw [hy, hcs]; exact List.mem_cons_self)
      · refine decide_eq_decide.mpr ⟨fun k => ?_, fun k => by rw [k]; decide⟩
        have := congrArg TL.tl k
        have : [c] = TL.tl ("0" : Str) := this
        rw [show TL.tl ("0" : Str) = [48] by decide] at this
        exact (List.cons.inj this).1
      · -- return None
        refine b_cons (s_ret e_non ?_)
        rw [Bool.and_eq_true, decide_eq_true_eq, Bool.not_eq_true', decide_eq_false_iff_not] at h2
        have e : wholeO z = none := if_pos (.inr ⟨by rw [hcs, h2.1]; rfl, h2.2⟩)
        rw [e] at hR
        exact hR
      · -- return int(word)
        have k : ¬ ((figs (TL.tl z) = [] ∨ digB (figs (TL.tl z)) = false) ∨ ((figs (TL.tl z)).head? = some 48 ∧ z ≠ "0")) := by
          rintro ((k | k) | ⟨k1, k2⟩)
          · exact n1 k
          · rw [n2] at k; cases k
          · rw [hcs] at k1
            have k1 : c = 48 := Option.some.inj k1
            rw [decide_eq_true k1, decide_eq_false k2] at h2
            cases h2
        obtain ⟨i, hi⟩ : ∃ i, wholeO z = some i := ⟨_, if_neg k⟩
        refine b_cons (s_ret (e_intS rfl T.n_int (ea_cons (e_var 0 rfl) ea_nil) (whole_text hi hl) hl) ?_)
        rw [hi] at hR
        exact hR

def c_fraction_in : Con := fun ss M R _ => ∃ z : Str, ss = [.d (.str z)] ∧ z.length ≤ 640 ∧ Asc z ∧ R (.d (optF (fracO z))) M
theorem ok_fraction_in (T : Tx w K mg) : FnOk P w K mg base (L2.CX P w) 2 T.a_fraction_in T.fd_fraction_in ["word"] (spD K c_fraction_in) := by
  refine Fun.okD T.F_fraction_in sc_fraction_in (fun ss M R Rx h => ?_) (fun cdv A outer s H E ss M R Rx h hr tk => ?_)
  · obtain ⟨z, rfl, _⟩ := h
    rfl
  · obtain ⟨z, rfl, hl, ha, hR⟩ := h
    obtain ⟨l1, l2, l3⟩ := part_len z
    obtain ⟨a1, a2, a3⟩ := asc_part ha
    unfold fracO at hR
    -- top, mark, bottom = word.partition('/')
    refine b_cons (s_asg (e_part (y := "/") (e_var 0 rfl) e_str rfl (by omega)) (g_tup (ds := [_, _, _]) rfl (g_cons (g_name 3 sc_fraction_in.nd) (g_cons (g_name 4 sc_fraction_in.nd) (g_cons (g_name 5 sc_fraction_in.nd) g_nil)))) ?_)
    generalize Txt.partition z "/" = p at hR l1 l2 l3 a1 a2 a3
    obtain ⟨x, m, y⟩ := p
    simp only [] at l1 l2 l3 a1 a2 a3
    -- found = whole_in(top)
    refine b_cons (s_set 1 sc_fraction_in.nd (e_call (ok_whole_in T) (hr.mono (by decide)) T.g_whole_in T.F_whole_in.kp T.b_whole_in tk (ea_cons (e_var 3 rfl) ea_nil) ⟨x, rfl, by omega, a1, rfl, rfl⟩) ?_)
    -- by = 1
    refine b_cons (s_set 2 sc_fraction_in.nd e_int ?_)
    -- if mark != '':
    refine b_cut (fun γ' M' => M' = M ∧ γ' = [.d (.str z), .d (optI (wholeO x)), .d (optI (if m ≠ "" then wholeO y else some 1)), .d (.str x), .d (.str m), .d (.str y)]) (s_if (b1 := !decide (m = "")) (t_ne (d1 := .str m) (d2 := .str "") hr (e_var 4 rfl) e_str .d .d (asc_sh a2) (by decide +kernel) (eqv_str _ _)) (fun h1 => ?_) (fun h1 => b_nil ?_)) ?_
    · -- by = whole_in(bottom)
      refine b_cons (s_set 2 sc_fraction_in.nd (e_call (ok_whole_in T) (hr.mono (by decide)) T.g_whole_in T.F_whole_in.kp T.b_whole_in tk (ea_cons (e_var 5 rfl) ea_nil) ⟨y, rfl, by omega, a3, rfl, rfl⟩) ?_)
      refine b_nil ⟨rfl, ?_⟩
      rw [if_pos (show m ≠ "" by simpa using h1)]
      rfl
    · refine ⟨rfl, ?_⟩
      rw [if_neg (show ¬ m ≠ "" by simpa using h1)]
      rfl
    rintro _ M ⟨rfl, rfl⟩
    have hR : R (.d (optF (match wholeO x, (if m ≠ "" then wholeO y else some 1) with
      | some a, some b => ratO a b (decide (m ≠ ""))
      | _, _ => none))) M := hR
    generalize wholeO x = f at hR
    generalize (if m ≠ "" then wholeO y else some 1) = b at hR
    cases f with
    | none =>
      -- if found is None or ..:
      refine b_cons (s_if (b1 := true || false) (EW.t (w_or (b1 := true) (b2 := false) (t_is (t_isN (d := .none) (e_var 1 rfl)) rfl) (fun h => nomatch h))) (fun _ => ?_) (fun h => nomatch h))
      -- return None
      exact b_cons (s_ret e_non hR)
    | some i =>
      cases b with
      | none =>
        refine b_cons (s_if (b1 := false || (true || false)) (EW.t (w_or (b1 := false) (t_is (t_isN (d := .int i) (e_var 1 rfl)) rfl) (fun _ => w_or (b1 := true) (b2 := false) (t_is (t_isN (d := .none) (e_var 2 rfl)) rfl) (fun h => nomatch h)))) (fun _ => ?_) (fun h => nomatch h))
        exact b_cons (s_ret e_non hR)
      | some j =>
        refine b_cons (s_if (b1 := false || (false || (decide (j < 1) || ((decide (j = 1) && !decide (m = "")) || !decide (((Int.gcd i j : Nat) : Int) = 1))))) (EW.t (w_or (b1 := false) (t_is (t_isN (d := .int i) (e_var 1 rfl)) rfl) (fun _ => w_or (b1 := false) (t_is (t_isN (d := .int j) (e_var 2 rfl)) rfl) (fun _ => w_or (t_lt (e_var 2 rfl) e_int) (fun _ => w_or (EW.t (w_and (t_eqI hr (e_var 2 rfl) e_int) (fun _ => w_and1 (t_ne (d1 := .str m) (d2 := .str "") hr (e_var 4 rfl) e_str .d .d (asc_sh a2) (by decide +kernel) (eqv_str _ _))))) (fun _ => w_or1 (t_neI hr (e_call (ok_divisor T) (hr.mono (by decide)) T.g_divisor T.F_divisor.kp T.b_divisor tk (ea_cons (e_var 1 rfl) (ea_cons (e_var 2 rfl) ea_nil)) ⟨i, j, rfl, rfl, rfl⟩) e_int))))))) (fun h1 => ?_) (fun h1 => b_nil ?_))
        · -- return None
          refine b_cons (s_ret e_non ?_)
          have e : ratO i j (decide (m ≠ "")) = none := by
            unfold ratO
            rw [dif_neg]
            rintro ⟨k1, k2, k3⟩
            rw [Bool.false_or, Bool.false_or, Bool.or_eq_true, Bool.or_eq_true, decide_eq_true_eq, Bool.and_eq_true, decide_eq_true_eq, Bool.not_eq_true', decide_eq_false_iff_not, Bool.not_eq_true', decide_eq_false_iff_not] at h1
            rcases h1 with h1 | ⟨h1, h2⟩ | h1
            · omega
            · exact k2 ⟨h1, decide_eq_true h2⟩
            · exact h1 (by omega)
          have hR : R (.d (optF (ratO i j (decide (m ≠ ""))))) M := hR
          rw [e] at hR
          exact hR
        · -- return (found, by)
          refine b_cons (s_ret (e_tup (ds := [_, _]) (ea_cons (e_var 1 rfl) (ea_cons (e_var 2 rfl) ea_nil))) ?_)
          rw [Bool.false_or, Bool.false_or, Bool.or_eq_false_iff, Bool.or_eq_false_iff, decide_eq_false_iff_not, Bool.not_eq_false', decide_eq_true_eq] at h1
          obtain ⟨k1, k2, k3⟩ := h1
          have hc : 1 ≤ j ∧ ¬ (j = 1 ∧ decide (m ≠ "") = true) ∧ Int.gcd i j = 1 := by
            refine ⟨by omega, ?_, by omega⟩
            rintro ⟨q1, q2⟩
            rw [decide_eq_true q1, decide_eq_false (of_decide_eq_true q2)] at k2
            cases k2
          have hR : R (.d (optF (ratO i j (decide (m ≠ ""))))) M := hR
          unfold ratO at hR
          rw [dif_pos hc] at hR
          have e : fr ⟨i, j.toNat, by omega, cop_of hc.1 hc.2.2⟩ = .tuple [.int i, .int j] := by
            show PyData.tuple [.int i, .int (j.toNat : Int)] = _
            rw [Int.toNat_of_nonneg (by omega)]
          have hR : R (.d (fr ⟨i, j.toNat, by omega, cop_of hc.1 hc.2.2⟩)) M := hR
          rw [e] at hR
          exact hR

def c_Reader_closed (K : PySem.W.Frag) : Con := fun ss M R _ => ∃ (M0 : MM) (a C qh qr : Addr) (n : Nat) (hs : List (List PyData)) (ql : Ql), ss = [.ob a] ∧ M = rdM M0 a C qh qr hs ql ∧ Cls K C ∧ NoAttr K C "heads" ∧ NoAttr K C "rows" ∧ RdOk n hs ql ∧ n ≤ 50000 ∧
  RdO R M0 a C qh qr n hs ql (stepT ⟨hs, ql.map (·.2)⟩ .cls)
theorem ok_Reader_closed (T : Tx w K mg) : FnOk P w K mg base (L2.CX P w) 1 T.a_Reader_closed T.fd_Reader_closed ["self"] (spD K (c_Reader_closed K)) := by
  refine Fun.okD T.F_Reader_closed sc_Reader_closed (fun ss M R Rx h => ?_) (fun cdv A outer s H E ss M R Rx h hr tk => ?_)
  · obtain ⟨M0, a, C, qh, qr, n, hs, ql, rfl, _⟩ := h
    rfl
  · obtain ⟨M0, a, C, qh, qr, n, hs, ql, rfl, rfl, hC, n1, n2, hk, hn, hO⟩ := h
    have lh : List.lookup ("heads" : Str) (rdF qh qr) = some (.ob qh) := rfl
    have lr : List.lookup ("rows" : Str) (rdF qh qr) = some (.ob qr) := rfl
    -- if self.heads == []:
    refine b_cons (s_if (b1 := decide (hs.map PyData.tuple = [])) (t_eq (d1 := .list (hs.map PyData.tuple)) (d2 := .list []) hr (e_fld (e_var 0 rfl) rd_a hC n1 lh) (e_lst (ds := []) ea_nil) (.l rd_h) .d (lay_list (n := 1) fun d hd => by obtain ⟨h, hh, rfl⟩ := List.mem_map.mp hd; exact lay_hd (hk.h h hh)).sh (by decide +kernel) (eqv_nilL _)) (fun h1 => ?_) (fun h1 => b_nil ?_))
    · -- return False
      have e : hs = [] := List.map_eq_nil_iff.mp (of_decide_eq_true h1)
      subst e
      exact b_cons (s_ret e_bl (hO.f (cls_none _)))
    · rcases List.eq_nil_or_concat hs with e | ⟨gs, g, e⟩
      · subst e
        exact absurd (of_decide_eq_false h1) (fun k => k rfl)
      rw [List.concat_eq_append] at e
      subst e
      obtain ⟨up, q1, c, q2, o, rfl, hul⟩ := rd_two hk
      have hl := hk.l
      rw [List.length_append, List.length_singleton] at hl
      have hc : c.length ≤ n := hk.b (q1, c) (by simp)
      have hg : HdOk g := hk.h g (by simp)
      have hgl : g.length ≤ 2 := by
        obtain ⟨_, ns, rfl, _, hns⟩ := hg
        rw [List.length_cons, List.length_map]
        omega
      have hm : ((gs ++ [g]).map PyData.tuple).map S.d = (gs.map PyData.tuple).map S.d ++ [S.d (.tuple g)] := by simp
      -- head = self.heads.pop()
      refine b_cons (s_setQ 1 sc_Reader_closed.nd (q_pop (q := qh) (k := M0.length + 1) (xs := (gs.map PyData.tuple).map S.d) (s := .d (.tuple g)) (e_fld (e_var 0 rfl) rd_a hC n1 lh) (by rw [← hm]; exact rd_h) ?_))
      rw [rd_seth]
      -- rows = tuple(self.rows.pop())
      refine b_cons (s_setQ 2 sc_Reader_closed.nd (q_tupleQ rfl T.n_tuple (q_pop (q := qr) (k := M0.length + 2) (xs := Ql.obs (up ++ [(q1, c)])) (s := .ob q2) (e_fld (e_var 0 rfl) rd_a hC n2 lr) (rd_r.trans (by simp [Ql.obs])) ⟨o, by rw [rd_pop]; exact .l (ga1 _ _), ?_⟩)))
      rw [rd_pop]
      refine b_gc (List.sublist_append_left _ _) ?_
      -- self.rows[-1].append(head + (rows,))
      refine b_cons (s_expr (e_append (s := S.d (.tuple (g ++ [.tuple o]))) (q := q1) (k := M0.length + 2 + (up.length + 1)) (xs := c.map S.d) (e_ixM (e_fld (e_var 0 rfl) rd_a hC n2 lr) (e_neg e_int) rd_r (by rw [show Ql.obs (up ++ [(q1, c)]) = up.obs ++ [S.ob q1] by simp [Ql.obs]]; exact atI_last)) (ea_cons (e_catT (e_var 1 rfl) (e_tup (ds := [.tuple o]) (ea_cons (e_var 2 rfl) ea_nil)) (by show g.length + 1 ≤ _; omega)) ea_nil) rd_last (by rw [List.length_map]; omega) ⟨_, _, rd_last⟩) ?_)
      rw [show c.map S.d ++ [S.d (.tuple (g ++ [.tuple o]))] = (c ++ [PyData.tuple (g ++ [PyData.tuple o])]).map S.d by simp, rd_setlast]
      -- return True
      refine b_cons (s_ret e_bl (hO.t gs (up ++ [(q1, c ++ [.tuple (g ++ [.tuple o])])]) ?_ ?_))
      · have := cls_some gs (up.map (·.2)) g c o
        rw [List.map_append, List.map_append, List.map_append, List.append_assoc]
        exact this
      · refine ⟨by rw [List.length_append, List.length_singleton, hul], fun h hh => hk.h h (List.mem_append_left _ hh), by omega, fun q hq => ?_⟩
        rcases List.mem_append.mp hq with z | z
        · have := hk.b q (List.mem_append_left _ (List.mem_append_left _ z))
          omega
        · rw [List.mem_singleton.mp z]
          show (c ++ [_]).length ≤ _
          rw [List.length_append, List.length_singleton]
          omega

def c_Reader_opened (K : PySem.W.Frag) : Con := fun ss M R _ => ∃ (M0 : MM) (a C qh qr : Addr) (n : Nat) (hs : List (List PyData)) (ql : Ql) (wd : Str) (ws : List Str), ss = [.ob a, .d (.list ((wd :: ws).map PyData.str))] ∧ M = rdM M0 a C qh qr hs ql ∧ Cls K C ∧ NoAttr K C "heads" ∧ NoAttr K C "rows" ∧ RdOk n hs ql ∧ n ≤ 50000 ∧
  (∀ w ∈ wd :: ws, w.length ≤ 640 ∧ Asc w) ∧ ws.length ≤ 1000 ∧ RdO R M0 a C qh qr n hs ql (stepT ⟨hs, ql.map (·.2)⟩ (opnW (wd :: ws)))
theorem ok_Reader_opened (T : Tx w K mg) : FnOk P w K mg base (L2.CX P w) 2 T.a_Reader_opened T.fd_Reader_opened ["self", "words"] (spD K (c_Reader_opened K)) := by
  refine Fun.okD T.F_Reader_opened sc_Reader_opened (fun ss M R Rx h => ?_) (fun cdv A outer s H E ss M R Rx h hr tk => ?_)
  · obtain ⟨M0, a, C, qh, qr, n, hs, ql, wd, ws, rfl, _⟩ := h
    rfl
  · obtain ⟨M0, a, C, qh, qr, n, hs, ql, wd, ws, rfl, rfl, hC, n1, n2, hk, hn, hw, hl, hO⟩ := h
    have lh : List.lookup ("heads" : Str) (rdF qh qr) = some (.ob qh) := rfl
    have lr : List.lookup ("rows" : Str) (rdF qh qr) = some (.ob qr) := rfl
    have haw := (hw wd List.mem_cons_self).2
    -- numbers = [whole_in(word) for word in words[1:]]
    refine b_cons (s_compI 2 3 ws PyData.str (fun w => optI (wholeO w)) rfl sc_Reader_opened.nd (i_list (e_is (e_slice (l := some 1) (h := none) (e_var 1 rfl) (o_some e_int) o_none) (congrArg (fun z => S.d (.list z)) (cut_map1 wd ws)))) (blkOk_by rfl) (show 3 < 4 by decide) (Nat.ble_eq_true_of_le (by omega)) (fun w hx M' s' H' C cl fp => e_call (ok_whole_in T) (hr.mono (by decide)) T.g_whole_in T.F_whole_in.kp T.b_whole_in tkF (ea_cons (e_var 3 rfl) ea_nil) ⟨w, rfl, (hw w (List.mem_cons_of_mem _ hx)).1, (hw w (List.mem_cons_of_mem _ hx)).2, rfl, rfl⟩) (fun D => ?_) (hg := fun _ _ _ _ _ => pg_name sc_Reader_opened.nd rfl (Or.inl rfl)))
    refine b_frz (ds := ws.map fun w => optI (wholeO w)) 2 rfl ?_
    have hix : itD (.list ((wd :: ws).map PyData.str)) 0 = some (.str wd) := atI_zero
    have hlen : lenD (.list (ws.map fun w => optI (wholeO w))) = some ws.length := by
      show some (ws.map fun w => optI (wholeO w)).length = _
      rw [List.length_map]
    -- if len(numbers) != int(words[0] == 'again') or None in numbers:
    refine b_cons (s_if (b1 := !decide ((ws.length : Int) = (if decide (wd = "again") then 1 else 0)) || decide (mapO wholeO ws = none)) (EW.t (w_or (t_neI hr (e_len (d := .list (ws.map fun w => optI (wholeO w))) rfl T.n_len (ea_cons (e_var 2 rfl) ea_nil) .d hlen) (e_intB rfl T.n_int (ea_cons (e_eq (d1 := .str wd) (d2 := .str "again") hr (e_ix (d := .list ((wd :: ws).map PyData.str)) (d' := .str wd) (e_var 1 rfl) e_int hix) e_str .d .d (asc_sh haw) (by decide +kernel) (eqv_str _ _)) ea_nil))) (fun hb => (w_or1 (t_inD hr e_non (e_var 2 rfl) .d .d (by decide +kernel) (lay_list (n := 0) (lay_map fun w => lay_optI _)).sh (none_inI ws)))))) (fun h1 => ?_) (fun h1 => b_nil ?_))
    · -- return False
      refine b_cons (s_ret e_bl (hO.f ?_))
      have e : opnW (wd :: ws) = .bad := by
        unfold opnW
        cases hm : mapO wholeO (wd :: ws).tail with
        | none => rfl
        | some ns =>
          have hm : mapO wholeO ws = some ns := hm
          have := mapO_len hm
          rw [hm, decide_eq_false (show ¬ (some ns = none) from fun h => nomatch h), Bool.or_false, Bool.not_eq_true', decide_eq_false_iff_not] at h1
          simp only []
          rw [if_neg]
          intro k
          apply h1
          rw [← this, k]
          show (((if wd = "again" then 1 else 0 : Nat)) : Int) = _
          by_cases z : wd = "again"
          · rw [if_pos z, decide_eq_true z]; rfl
          · rw [if_neg z, decide_eq_false z]; rfl
      rw [e]
      rfl
    · rw [Bool.or_eq_false_iff, Bool.not_eq_false', decide_eq_true_eq, decide_eq_false_iff_not] at h1
      obtain ⟨k1, k2⟩ := h1
      obtain ⟨ns, hm⟩ : ∃ ns, mapO wholeO ws = some ns := by
        cases e : mapO wholeO ws with
        | none => exact absurd e k2
        | some ns => exact ⟨ns, rfl⟩
      have hnl := mapO_len hm
      have e : opnW (wd :: ws) = .opn (.str wd :: ns.map PyData.int) := by
        unfold opnW
        have hm2 : mapO wholeO (wd :: ws).tail = some ns := hm
        rw [hm2]
        simp only []
        rw [if_pos]
        · rfl
        · show ns.length = if wd = "again" then 1 else 0
          by_cases z : wd = "again"
          · rw [if_pos z]; rw [decide_eq_true z, if_pos rfl] at k1; omega
          · rw [if_neg z]; rw [decide_eq_false z, if_neg (by decide)] at k1; omega
      have hn1 : ns.length ≤ 1 := by
        by_cases z : wd = "again"
        · rw [decide_eq_true z, if_pos rfl] at k1; omega
        · rw [decide_eq_false z, if_neg (by decide)] at k1; omega
      rw [e] at hO
      have hmI := map_optI hm
      have hhl := hk.l
      have hql := hk.e
      -- self.heads.append((words[0],) + tuple(numbers))
      refine b_cons (s_expr (e_append (s := S.d (.tuple (.str wd :: ns.map PyData.int))) (q := qh) (k := M0.length + 1) (xs := (hs.map PyData.tuple).map S.d) (e_fld (e_var 0 rfl) rd_a hC n1 lh) (ea_cons (e_is (e_catT (xs := [.str wd]) (ys := ns.map PyData.int) (e_tup (ds := [.str wd]) (ea_cons (e_ix (d := .list ((wd :: ws).map PyData.str)) (d' := .str wd) (e_var 1 rfl) e_int hix) ea_nil)) (e_tupleL rfl T.n_tuple (ea_cons (e_is (e_var 2 rfl) (congrArg (fun z => S.d (.list z)) hmI)) ea_nil) .d) (by rw [List.length_map]; show 1 + _ ≤ _; omega)) rfl) ea_nil) rd_h (by rw [List.length_map, List.length_map]; omega) ⟨_, _, rd_h⟩) ?_)
      rw [show (hs.map PyData.tuple).map S.d ++ [S.d (.tuple (.str wd :: ns.map PyData.int))] = ((hs ++ [.str wd :: ns.map PyData.int]).map PyData.tuple).map S.d by simp, rd_seth]
      -- self.rows.append([])
      refine b_cons (s_exprQ (q_append (q := qr) (e_fld (e_var 0 rfl) rd_a hC n2 lr) ⟨_, _, rd_r⟩ (EN.q (n_lst ea_nil) fun q => ⟨M0.length + 2, ql.obs, ?_, ?_, ?_⟩)))
      · rw [List.getElem?_append_left (List.getElem?_eq_some_iff.mp rd_r).1]
        exact rd_r
      · show (ql.map fun q => S.ob q.1).length < _
        rw [List.length_map]
        omega
      · rw [rd_push]
        -- return True
        refine b_cons (s_ret e_bl (hO.t _ _ ?_ ?_))
        · rw [step_opn, List.map_append]
          rfl
        · refine ⟨by rw [List.length_append, List.length_append, List.length_singleton, List.length_singleton, hql], fun h hh => ?_, by rw [List.length_append, List.length_singleton]; omega, fun q hq => ?_⟩
          · rcases List.mem_append.mp hh with z | z
            · exact hk.h h z
            · rw [List.mem_singleton.mp z]
              exact ⟨wd, ns, rfl, haw, hn1⟩
          · rcases List.mem_append.mp hq with z | z
            · have := hk.b q z
              omega
            · rw [List.mem_singleton.mp z]
              exact Nat.zero_le _

theorem num_anyT (T : Tx w K mg) (z : Str) : ∃ r : Option Value, PySem.W.nsIn K T.C_NUMBERS z = some r ∧ (∀ n, numW z = some n → ∃ tk, r = some (.int (n : Int) tk)) ∧ (numW z = none → r = none) := by
  have go : ∀ {n : Nat} {tk : Tok}, PySem.W.nsIn K T.C_NUMBERS z = some (some (.int (n : Int) tk)) → numW z = some n → ∃ r : Option Value, PySem.W.nsIn K T.C_NUMBERS z = some r ∧ (∀ n, numW z = some n → ∃ tk, r = some (.int (n : Int) tk)) ∧ (numW z = none → r = none) := fun {n tk} h1 h2 => ⟨_, h1, fun m hm => by rw [h2] at hm; cases hm; exact ⟨tk, rfl⟩, fun hm => by rw [h2] at hm; cases hm⟩
  by_cases h1 : z = "go"
  · subst h1; exact go (n := 1) T.i_NUMBERS_go (by decide)
  by_cases h2 : z = "skip"
  · subst h2; exact go (n := 1) T.i_NUMBERS_skip (by decide)
  by_cases h3 : z = "side"
  · subst h3; exact go (n := 2) T.i_NUMBERS_side (by decide)
  by_cases h4 : z = "dot"
  · subst h4; exact go (n := 0) T.i_NUMBERS_dot (by decide)
  by_cases h5 : z = "left"
  · subst h5; exact go (n := 0) T.i_NUMBERS_left (by decide)
  by_cases h6 : z = "right"
  · subst h6; exact go (n := 0) T.i_NUMBERS_right (by decide)
  by_cases h7 : z = "round"
  · subst h7; exact go (n := 0) T.i_NUMBERS_round (by decide)
  by_cases h8 : z = "mirror"
  · subst h8; exact go (n := 0) T.i_NUMBERS_mirror (by decide)
  by_cases h9 : z = "grow"
  · subst h9; exact go (n := 1) T.i_NUMBERS_grow (by decide)
  by_cases h10 : z = "quarter"
  · subst h10; exact go (n := 1) T.i_NUMBERS_quarter (by decide)
  by_cases h11 : z = "half"
  · subst h11; exact go (n := 1) T.i_NUMBERS_half (by decide)
  by_cases h12 : z = "arc"
  · subst h12; exact go (n := 4) T.i_NUMBERS_arc (by decide)
  have hn : numW z = none := by
    unfold numW
    rw [if_neg h1, if_neg h2, if_neg h3, if_neg h4, if_neg h5, if_neg h6, if_neg h7, if_neg h8, if_neg h9, if_neg h10, if_neg h11, if_neg h12]
  exact ⟨none, ns_none T.kd_NUMBERS T.ks_NUMBERS (numW_in hn), (fun n h => by rw [hn] at h; cases h), fun _ => rfl⟩
def c_Reader_read_line (K : PySem.W.Frag) (C : Addr) : Con := fun ss M R _ => ∃ (M0 : MM) (a qh qr : Addr) (n : Nat) (hs : List (List PyData)) (ql : Ql) (z : Str), ss = [.ob a, .d (.str z)] ∧ M = rdM M0 a C qh qr hs ql ∧ RdOk n hs ql ∧ n ≤ 50000 ∧
  z.length ≤ 640 ∧ Asc z ∧ RdO R M0 a C qh qr n hs ql (stepT ⟨hs, ql.map (·.2)⟩ (lnOf z))
theorem ok_Reader_read_line (T : Tx w K mg) : FnOk P w K mg base (L2.CX P w) 3 T.a_Reader_read_line T.fd_Reader_read_line ["self", "text"] (spD K (c_Reader_read_line K T.C_Reader)) := by
  refine Fun.okD T.F_Reader_read_line sc_Reader_read_line (fun ss M R Rx h => ?_) (fun cdv A outer s H E ss M R Rx h hr tk => ?_)
  · obtain ⟨M0, a, qh, qr, n, hs, ql, z, rfl, _⟩ := h
    rfl
  · obtain ⟨M0, a, qh, qr, n, hs, ql, z, rfl, rfl, hk, hn, hz, ha, hO⟩ := h
    have lh : List.lookup ("heads" : Str) (rdF qh qr) = some (.ob qh) := rfl
    have lr : List.lookup ("rows" : Str) (rdF qh qr) = some (.ob qr) := rfl
    obtain ⟨s1, s2, s3⟩ := split_facts z (y := " ") (by decide) (by decide +kernel)
    have s4 := asc_split (y := " ") ha (by decide) (by decide +kernel)
    unfold lnOf at hO
    -- words = text.split(' ')
    refine b_cons (s_set 2 sc_Reader_read_line.nd (e_split (y := " ") (e_var 1 rfl) e_str rfl (by omega)) ?_)
    generalize Txt.split z " " = ws0 at hO s1 s2 s3 s4
    obtain ⟨wd, ws, rfl⟩ : ∃ wd ws, ws0 = wd :: ws := by
      cases ws0 with
      | nil => exact absurd rfl s1
      | cons wd ws => exact ⟨wd, ws, rfl⟩
    rw [List.length_cons] at s3
    have hwl : ∀ w ∈ wd :: ws, w.length ≤ 640 ∧ Asc w := fun w hw => ⟨Nat.le_trans (s2 w hw) hz, s4 w hw⟩
    have hsh : SeqAt.shaped (.list ((wd :: ws).map PyData.str)) = true := (lay_list (n := 0) fun d hd => by obtain ⟨w, hw, rfl⟩ := List.mem_map.mp hd; exact lay_asc (s4 w hw)).sh
    have haw := s4 wd List.mem_cons_self
    have hix : itD (.list ((wd :: ws).map PyData.str)) 0 = some (.str wd) := atI_zero
    -- if words == ['end']:
    refine b_cons (s_if (b1 := decide (wd :: ws = [("end" : Str)])) (t_eq (d1 := .list ((wd :: ws).map PyData.str)) (d2 := .list [.str "end"]) hr (e_var 2 rfl) (e_lst (ds := [_]) (ea_cons e_str ea_nil)) .d .d hsh (by decide +kernel) (eqv_one _ _)) (fun h1 => ?_) (fun h1 => b_nil ?_))
    · -- return self.closed()
      have e := of_decide_eq_true h1
      rw [e, lnWd_end] at hO
      refine b_cons (s_retQ (q_meth0 (ok_Reader_closed T) (hr.mono (by decide)) T.cl_Reader T.me_Reader_closed T.b_Reader_closed tk (EV.q (e_var 0 rfl) ⟨a, M0.length, rdF qh qr, rfl, rd_a, rfl, M0, a, T.C_Reader, qh, qr, n, hs, ql, rfl, rfl, T.cl_Reader, T.na_Reader_heads, T.na_Reader_rows, hk, hn, hO⟩)))
    have e1 : wd :: ws ≠ [("end" : Str)] := of_decide_eq_false h1
    -- if words == ['keep'] or words == ['ever'] or words[0] == 'again':
    refine b_cons (s_if (b1 := decide (wd :: ws = [("keep" : Str)]) || (decide (wd :: ws = [("ever" : Str)]) || decide (wd = "again"))) (EW.t (w_or (t_eq (d1 := .list ((wd :: ws).map PyData.str)) (d2 := .list [.str "keep"]) hr (e_var 2 rfl) (e_lst (ds := [_]) (ea_cons e_str ea_nil)) .d .d hsh (by decide +kernel) (eqv_one _ _)) (fun hb => (w_or (t_eq (d1 := .list ((wd :: ws).map PyData.str)) (d2 := .list [.str "ever"]) hr (e_var 2 rfl) (e_lst (ds := [_]) (ea_cons e_str ea_nil)) .d .d hsh (by decide +kernel) (eqv_one _ _)) (fun hb => (w_or1 (t_eq (d1 := .str wd) (d2 := .str "again") hr (e_ix (d := .list ((wd :: ws).map PyData.str)) (d' := .str wd) (e_var 2 rfl) e_int hix) e_str .d .d (asc_sh haw) (by decide +kernel) (eqv_str _ _)))))))) (fun h2 => ?_) (fun h2 => b_nil ?_))
    · -- return self.opened(words)
      have e2 : ((wd :: ws = [("keep" : Str)] ∨ wd :: ws = [("ever" : Str)]) ∨ (wd :: ws).headD "" = "again") := by
        rw [Bool.or_eq_true, Bool.or_eq_true, decide_eq_true_eq, decide_eq_true_eq, decide_eq_true_eq] at h2
        rcases h2 with k | k | k
        · exact .inl (.inl k)
        · exact .inl (.inr k)
        · exact .inr k
      rw [lnWd_opn e1 e2] at hO
      refine b_cons (s_retQ (q_meth (ok_Reader_opened T) (hr.mono (by decide)) T.cl_Reader T.me_Reader_opened T.b_Reader_opened tk (EV.q (e_var 0 rfl) ⟨a, M0.length, rdF qh qr, rfl, rd_a, rfl, EA.q (ea_cons (e_var 2 rfl) ea_nil) ⟨M0, a, T.C_Reader, qh, qr, n, hs, ql, wd, ws, rfl, rfl, T.cl_Reader, T.na_Reader_heads, T.na_Reader_rows, hk, hn, hwl, by omega, hO⟩⟩)))
    have e2 : ¬ ((wd :: ws = [("keep" : Str)] ∨ wd :: ws = [("ever" : Str)]) ∨ (wd :: ws).headD "" = "again") := by
      rw [Bool.or_eq_false_iff, Bool.or_eq_false_iff, decide_eq_false_iff_not, decide_eq_false_iff_not, decide_eq_false_iff_not] at h2
      rintro ((k | k) | k)
      · exact h2.1 k
      · exact h2.2.1 k
      · exact h2.2.2 k
    rw [lnWd_row e1 e2] at hO
    clear e1 e2 h1 h2
    obtain ⟨r0, hz0, hsome, hnone⟩ := num_anyT T wd
    unfold rowW at hO
    have hhd : (wd :: ws).headD "" = wd := rfl
    rw [hhd] at hO
    have hlen : lenD (.list ((wd :: ws).map PyData.str)) = some (ws.length + 1) := by
      show some ((wd :: ws).map PyData.str).length = _
      rw [List.length_map, List.length_cons]
    cases hnw : numW wd with
    | none =>
      have e0 := hnone hnw
      subst e0
      rw [hnw] at hO
      -- if words[0] not in NUMBERS or ..:
      refine b_cons (s_if (b1 := true || false) (EW.t (w_or (b1 := true) (b2 := false) (t_is (t_notInKD T.kd_NUMBERS hz0 (e_ix (d := .list ((wd :: ws).map PyData.str)) (d' := .str wd) (e_var 2 rfl) e_int hix) (e_globR rfl T.m_NUMBERS rfl)) rfl) (fun h => nomatch h))) (fun _ => ?_) (fun h => nomatch h))
      -- return False
      exact b_cons (s_ret e_bl (hO.f rfl))
    | some m =>
      obtain ⟨tk2, e0⟩ := hsome m hnw
      subst e0
      rw [hnw] at hO
      simp only [] at hO
      refine b_cons (s_if (b1 := false || !decide ((((ws.length + 1 : Nat)) : Int) = 1 + (m : Int))) (EW.t (w_or (b1 := false) (t_is (t_notInKD T.kd_NUMBERS hz0 (e_ix (d := .list ((wd :: ws).map PyData.str)) (d' := .str wd) (e_var 2 rfl) e_int hix) (e_globR rfl T.m_NUMBERS rfl)) rfl) (fun _ => w_or1 (t_neI hr (e_len (d := .list ((wd :: ws).map PyData.str)) rfl T.n_len (ea_cons (e_var 2 rfl) ea_nil) .d hlen) (e_add e_int (e_ixKD T.kd_NUMBERS hz0 (rv_int _ _) (fun _ => .int _) (e_globR rfl T.m_NUMBERS rfl) (e_ix (d := .list ((wd :: ws).map PyData.str)) (d' := .str wd) (e_var 2 rfl) e_int hix))))))) (fun h1 => ?_) (fun h1 => b_nil ?_))
      · rw [if_pos (show (wd :: ws).length ≠ 1 + m by
          rw [Bool.false_or, Bool.not_eq_true', decide_eq_false_iff_not] at h1
          rw [List.length_cons]
          omega)] at hO
        -- return False
        exact b_cons (s_ret e_bl (hO.f rfl))
      rw [Bool.false_or, Bool.not_eq_false', decide_eq_true_eq] at h1
      rw [if_neg (show ¬ (wd :: ws).length ≠ 1 + m by rw [List.length_cons]; omega)] at hO
      have hm4 := numW_le hnw
      -- numbers = [fraction_in(word) for word in words[1:]]
      refine b_cons (s_compI 3 4 ws PyData.str (fun w => optF (fracO w)) rfl sc_Reader_read_line.nd (i_list (e_is (e_slice (l := some 1) (h := none) (e_var 2 rfl) (o_some e_int) o_none) (congrArg (fun z => S.d (.list z)) (cut_map1 wd ws)))) (blkOk_by rfl) (show 4 < 5 by decide) (Nat.ble_eq_true_of_le (by omega)) (fun w hx M' s' H' C cl fp => e_call (ok_fraction_in T) (hr.mono (by decide)) T.g_fraction_in T.F_fraction_in.kp T.b_fraction_in tkF (ea_cons (e_var 4 rfl) ea_nil) ⟨w, rfl, (hwl w (List.mem_cons_of_mem _ hx)).1, (hwl w (List.mem_cons_of_mem _ hx)).2, rfl, rfl⟩) (fun D => ?_) (hg := fun _ _ _ _ _ => pg_name sc_Reader_read_line.nd rfl (Or.inl rfl)))
      refine b_frz (ds := ws.map fun w => optF (fracO w)) 3 rfl ?_
      have htl : (wd :: ws).tail = ws := rfl
      rw [htl] at hO
      -- if None in numbers:
      refine b_cons (s_if (b1 := decide (mapO fracO ws = none)) (t_inD hr e_non (e_var 3 rfl) .d .d (by decide +kernel) (lay_list (n := 1) (lay_map fun w => lay_optF _)).sh (none_inF ws)) (fun h2 => ?_) (fun h2 => b_nil ?_))
      · rw [of_decide_eq_true h2] at hO
        -- return False
        exact b_cons (s_ret e_bl (hO.f rfl))
      obtain ⟨qs, hq⟩ : ∃ qs, mapO fracO ws = some qs := by
        cases e : mapO fracO ws with
        | none => exact absurd e (of_decide_eq_false h2)
        | some qs => exact ⟨qs, rfl⟩
      rw [hq] at hO
      simp only [] at hO
      have hqf := map_optF hq
      have hql := mapO_len hq
      obtain ⟨up, q, c, rfl, hul⟩ := rd_one hk
      have hc : c.length ≤ n := hk.b (q, c) (by simp)
      -- self.rows[-1].append((words[0],) + tuple(numbers))
      refine b_cons (s_expr (e_append (s := S.d (.tuple (.str wd :: qs.map fr))) (q := q) (k := M0.length + 2 + (up.length + 1)) (xs := c.map S.d) (e_ixM (e_fld (e_var 0 rfl) rd_a T.cl_Reader T.na_Reader_rows lr) (e_neg e_int) rd_r (by rw [show Ql.obs (up ++ [(q, c)]) = up.obs ++ [S.ob q] by simp [Ql.obs]]; exact atI_last)) (ea_cons (e_is (e_catT (xs := [.str wd]) (ys := qs.map fr) (e_tup (ds := [.str wd]) (ea_cons (e_ix (d := .list ((wd :: ws).map PyData.str)) (d' := .str wd) (e_var 2 rfl) e_int hix) ea_nil)) (e_tupleL rfl T.n_tuple (ea_cons (e_is (e_var 3 rfl) (congrArg (fun z => S.d (.list z)) hqf)) ea_nil) .d) (by rw [List.length_map]; show 1 + _ ≤ _; omega)) rfl) ea_nil) rd_last (by rw [List.length_map]; omega) ⟨_, _, rd_last⟩) ?_)
      rw [show c.map S.d ++ [S.d (.tuple (.str wd :: qs.map fr))] = (c ++ [PyData.tuple (.str wd :: qs.map fr)]).map S.d by simp, rd_setlast]
      -- return True
      refine b_cons (s_ret e_bl (hO.t hs (up ++ [(q, c ++ [.tuple (.str wd :: qs.map fr)])]) ?_ ?_))
      · rw [List.map_append, List.map_append]
        exact step_row hs (up.map (·.2)) c _
      · have hhl := hk.l
        refine ⟨by rw [List.length_append, List.length_singleton, hul], hk.h, by omega, fun p hp => ?_⟩
        rcases List.mem_append.mp hp with z | z
        · have := hk.b p (List.mem_append_left _ z)
          omega
        · rw [List.mem_singleton.mp z]
          show (c ++ [_]).length ≤ _
          rw [List.length_append, List.length_singleton]
          omega

theorem ok_NoText_init (T : Tx w K mg) : FnOk P w K mg base (L2.CX P w) 3 T.a_NoText_init T.fd_NoText_init ["self", "line"] (spXI K T.C_NoText "line") := by
  refine Fun.okX T.F_NoText_init sc_NoText_init (fun vs H Q E h => ?_) (fun cdv A outer s H vs Q E hr h => ?_)
  · obtain ⟨a, y, rfl, _⟩ := h
    rfl
  · obtain ⟨a, y, rfl, ha, hq⟩ := h
    exact ⟨_, xinit ⟨oexB_ok T.o_NoText, T.xs_NoText, T.s_NoText, T.t_NoText, T.kp_NoText⟩ T.nf_NoText rfl T.g_MillError T.bga_MillError T.t_MillError T.br_MillError T.bi_MillError rfl rfl (.inl rfl) (.inl rfl) (by decide) (by decide) (by decide) (by decide) (by decide), a, y, rfl, ha, hq⟩

def startP (CN CT TM : Addr) (M : MM) (R : S → MM → Prop) (Rx : Value → MM → Prop) (z : Str) : Prop :=
  (z = "" → R (.d (.tuple [])) M) ∧ (z ≠ "" → (∀ i, badT begT (Txt.split z "\n") 0 = .error i → ∀ (M2 : MM) (dx : Addr), Rx (.int (CT : Nat) dx) (M ++ M2 ++ [(dx, .exd [("line", .d (.int (i : Int)))])])) ∧
    (∀ s, badT begT (Txt.split z "\n") 0 = .ok s → s.hs ≠ [] → ∀ (M2 : MM) (dx : Addr), Rx (.int (CT : Nat) dx) (M ++ M2 ++ [(dx, .exd [("line", .d (.int (((Txt.split z "\n").length : Nat) : Int)))])])) ∧
    (∀ s, badT begT (Txt.split z "\n") 0 = .ok s → s.hs = [] → ∃ (rs : List Rw) (L lb N : Nat), s.rs = [rowsD rs] ∧ Prg L 8 rs ∧ Mv L lb N ∧ eoL N rs ∧
      (∀ m : Nat, lookL rs 0 0 false = .ok m → (60 < sizeL rs → ∀ M2 : MM, Rx (.ref TM) (M ++ M2)) ∧ (sizeL rs ≤ 60 → R (.d (.tuple (rowsD rs))) M)) ∧
      (∀ i : Nat, lookL rs 0 0 false = .error i → ∀ (M2 : MM) (dx : Addr), Rx (.int (CN : Nat) dx) (M ++ M2 ++ [(dx, .exd [("row", .d (.int (i : Int)))])]))))
def c_read (CN CT TM : Addr) : Con := fun ss M R Rx => ∃ z : Str, ss = [.d (.str z)] ∧ z.length ≤ 40000 ∧ Asc z ∧ (∀ p ∈ Txt.split z "\n", p.length ≤ 640) ∧ startP CN CT TM M R Rx z
theorem ok_read (T : Tx w K mg) : FnOk P w K mg base (L2.CX P w) 63 T.a_read T.fd_read ["text"] (spD K (c_read T.C_NoRow T.C_NoText T.C_TooMuch)) := by
  refine Fun.okD T.F_read sc_read (fun ss M R Rx h => ?_) (fun cdv A outer s H E ss M R Rx h hr tk => ?_)
  · obtain ⟨z, rfl, _⟩ := h
    rfl
  · obtain ⟨z, rfl, hz, ha, hp, hE, hN⟩ := h
    have hOx : OexC K T.C_NoText := ⟨oexB_ok T.o_NoText, T.xs_NoText, T.s_NoText, T.t_NoText, T.kp_NoText⟩
    obtain ⟨s1, _, s3⟩ := split_facts z (y := "\n") (by decide) (by decide +kernel)
    have s4 := asc_split (y := "\n") ha (by decide) (by decide +kernel)
    -- if text == '':
    refine b_cons (s_if (b1 := decide (z = "")) (t_eq (d1 := .str z) (d2 := .str "") hr (e_var 0 rfl) e_str .d .d (asc_sh ha) (by decide +kernel) (eqv_str _ _)) (fun h1 => ?_) (fun h1 => b_nil ?_))
    · -- return program_of(())
      have hR := hE (of_decide_eq_true h1)
      refine b_cons (s_retQ (q_call (ok_program_of T) (hr.mono (by decide)) T.g_program_of T.F_program_of.kp T.b_program_of tk (ea_cons (e_tup (ds := []) ea_nil) ea_nil) ⟨[], 1, 0, 0, rfl, ⟨trivial, Nat.zero_le _, Nat.zero_le _⟩, ⟨by decide, by decide, by decide, by decide⟩, trivial, fun m hm => ⟨fun h => absurd h (by decide), fun _ => hR⟩, fun i hi => ?_⟩))
      rw [lookL] at hi
      cases hi
    obtain ⟨hBad, hOpen, hDone⟩ := hN (of_decide_eq_false h1)
    -- reader = Reader()
    refine b_cons (s_setQ 1 sc_read.nd (q_make0 T.mk_Reader (ok_Reader_init T) (hr.mono (by decide)) T.g_Reader T.b_Reader_init tk fun a => ⟨a, T.C_Reader, M, rfl, rfl, T.cl_Reader, T.na_Reader_heads, T.na_Reader_rows, fun qh qr q0 => ⟨rfl, ?_⟩⟩))
    -- lines = text.split('\n')
    refine b_cons (s_set 2 sc_read.nd (e_split (y := "\n") (e_var 0 rfl) e_str rfl (by omega)) ?_)
    generalize Txt.split z "\n" = zs at hBad hOpen hDone s1 s3 s4 hp
    -- for number, entry in enumerate(lines):
    refine b_cut (fun γ' M' => ∃ (hs : List (List PyData)) (ql : Ql) (u3 u4 : S), M' = rdM M a T.C_Reader qh qr hs ql ∧ RdOk (1 + zs.length) hs ql ∧ runT begT zs = some ⟨hs, ql.map (·.2)⟩ ∧ γ' = [.d (.str z), .ob a, .d (.list (zs.map PyData.str)), u3, u4]) (s_for (passes_of rfl) rfl (i_enumL rfl T.n_enumerate (ea_cons (e_var 2 rfl) ea_nil)) (fun i γ' M' => ∃ (hs : List (List PyData)) (ql : Ql) (u3 u4 : S), M' = rdM M a T.C_Reader qh qr hs ql ∧ RdOk (1 + i) hs ql ∧ runT begT (zs.take i) = some ⟨hs, ql.map (·.2)⟩ ∧ γ' = [.d (.str z), .ob a, .d (.list (zs.map PyData.str)), u3, u4]) ⟨[], [(q0, [])], _, _, rfl, rdOk_beg q0, rfl, rfl⟩ (fun _ _ _ _ => trivial) (fun i x γ2 M2 hx w => ?_) (fun γ2 M2 w => ?_)) ?_
    · obtain ⟨hs, ql, u3, u4, rfl, hk, hrun, rfl⟩ := w
      obtain ⟨y, hy, rfl⟩ : ∃ y, zs[i]? = some y ∧ x = .d (.tuple [.int (i : Int), .str y]) := by
        obtain ⟨d, hd, rfl⟩ := enumS_at hx
        rw [List.getElem?_map] at hd
        cases e : zs[i]? with
        | none => rw [e] at hd; cases hd
        | some y => rw [e] at hd; cases hd; exact ⟨y, rfl, rfl⟩
      have hym := List.mem_of_getElem? hy
      have hil := (List.getElem?_eq_some_iff.mp hy).1
      refine ⟨_, g_tup (ds := [.int (i : Int), .str y]) rfl (g_cons (g_name 3 sc_read.nd) (g_cons (g_name 4 sc_read.nd) g_nil)), ?_⟩
      -- if not reader.read_line(entry):
      refine b_cons (s_ifNQ (q_meth (ok_Reader_read_line T) (hr.mono (by decide)) T.cl_Reader T.me_Reader_read_line T.b_Reader_read_line tk (EV.q (e_var 1 rfl) ⟨a, M.length, rdF qh qr, rfl, rd_a, rfl, EA.q (ea_cons (e_var 4 rfl) ea_nil) ⟨M, a, qh, qr, 1 + i, hs, ql, y, rfl, rfl, hk, by omega, hp y hym, s4 y hym, fun hno => ?_, fun hs2 ql2 hyes hk2 => ?_⟩⟩)))
      · refine ⟨false, rfl, fun _ => ?_, (fun h => nomatch h)⟩
        -- raise NoText(number)
        refine b_cons (s_raiseX rfl tk hOx T.iC_NoText (beq_iff_eq.mp T.iT_NoText) (ok_NoText_init T) (hr.mono (by decide)) T.g_NoText T.b_NoText_init (e_var 3 rfl) (fun dx => ?_))
        have := hBad i (badT_at hy hrun hno) ((rdM M a T.C_Reader qh qr hs ql).drop M.length) dx
        rw [show rdM M a T.C_Reader qh qr hs ql = M ++ (rdM M a T.C_Reader qh qr hs ql).drop M.length by simp [rdM]]
        exact this
      · refine ⟨true, rfl, (fun h => nomatch h), fun _ => b_nil ?_⟩
        exact b_nil ⟨hs2, ql2, _, _, rfl, by rw [show 1 + (i + 1) = 1 + i + 1 by omega]; exact hk2, runT_take hy hrun hyes, rfl⟩
    · rw [enumS_len, List.length_map, List.take_length] at w
      exact w
    rintro _ _ ⟨hs, ql, u3, u4, rfl, hk, hrun, rfl⟩
    have hbad := badT_ok (i := 0) hrun
    have lh : List.lookup ("heads" : Str) (rdF qh qr) = some (.ob qh) := rfl
    have lr : List.lookup ("rows" : Str) (rdF qh qr) = some (.ob qr) := rfl
    have hlen : lenD (.list (zs.map PyData.str)) = some zs.length := by
      show some (zs.map PyData.str).length = _
      rw [List.length_map]
    -- if reader.heads != []:
    refine b_cons (s_if (b1 := !decide (hs.map PyData.tuple = [])) (t_ne (d1 := .list (hs.map PyData.tuple)) (d2 := .list []) hr (e_fld (e_var 1 rfl) rd_a T.cl_Reader T.na_Reader_heads lh) (e_lst (ds := []) ea_nil) (.l rd_h) .d (lay_list (n := 1) fun d hd => by obtain ⟨h, hh, rfl⟩ := List.mem_map.mp hd; exact lay_hd (hk.h h hh)).sh (by decide +kernel) (eqv_nilL _)) (fun h2 => ?_) (fun h2 => b_nil ?_))
    · -- raise NoText(len(lines))
      have hne : hs ≠ [] := by
        rintro rfl
        cases h2
      refine b_cons (s_raiseX rfl tk hOx T.iC_NoText (beq_iff_eq.mp T.iT_NoText) (ok_NoText_init T) (hr.mono (by decide)) T.g_NoText T.b_NoText_init (e_len (d := .list (zs.map PyData.str)) rfl T.n_len (ea_cons (e_var 2 rfl) ea_nil) .d hlen) (fun dx => ?_))
      have := hOpen _ hbad hne ((rdM M a T.C_Reader qh qr hs ql).drop M.length) dx
      rw [show rdM M a T.C_Reader qh qr hs ql = M ++ (rdM M a T.C_Reader qh qr hs ql).drop M.length by simp [rdM]]
      exact this
    have hnil : hs = [] := by
      rw [Bool.not_eq_false', decide_eq_true_eq] at h2
      exact List.map_eq_nil_iff.mp h2
    subst hnil
    obtain ⟨rs, L, lb, N, hrs, hP, hM, hA, hR, hX⟩ := hDone _ hbad rfl
    obtain ⟨q1, rfl⟩ : ∃ q1, ql = [(q1, rowsD rs)] := by
      have hrs : ql.map (·.2) = [rowsD rs] := hrs
      match ql, hrs with
      | [p], h => exact ⟨p.1, by rw [← (List.cons.inj h).1]⟩
    -- return program_of(tuple(reader.rows[0]))
    refine b_cons (s_retQ (EQ.gc (q_call (ok_program_of T) (hr.mono (by decide)) T.g_program_of T.F_program_of.kp T.b_program_of tk (ea_cons (e_tupleL rfl T.n_tuple (ea_cons (e_ixM (e_fld (e_var 1 rfl) rd_a T.cl_Reader T.na_Reader_rows lr) e_int rd_r (s := .ob q1) atI_zero) ea_nil) (.l (k := M.length + 2 + 1) (xs := (rowsD rs).map S.d) (rd_last (ql := [])))) ea_nil) ⟨rs, L, lb, N, rfl, hP, hM, hA, fun m hm => ⟨fun h3 => ?_, fun h3 => ⟨M, ?_, (hR m hm).2 h3⟩⟩, fun i hi M2 dx => ?_⟩)))
    · have := (hR m hm).1 h3 ((rdM M a T.C_Reader qh qr [] [(q1, rowsD rs)]).drop M.length)
      rw [show rdM M a T.C_Reader qh qr [] [(q1, rowsD rs)] = M ++ (rdM M a T.C_Reader qh qr [] [(q1, rowsD rs)]).drop M.length by simp [rdM]]
      exact this
    · unfold rdM
      rw [List.append_assoc]
      exact List.sublist_append_left _ _
    · have := hX i hi ((rdM M a T.C_Reader qh qr [] [(q1, rowsD rs)]).drop M.length ++ M2) dx
      rw [show rdM M a T.C_Reader qh qr [] [(q1, rowsD rs)] = M ++ (rdM M a T.C_Reader qh qr [] [(q1, rowsD rs)]).drop M.length by simp [rdM]]
      rw [List.append_assoc M]
      exact this

def c_law_lines (dp : Nat) : Con := fun ss M R _ => ∃ (rs : List Rw) (o : Bool), ss = [.d (.tuple (rowsD rs ++ oddT o))] ∧ s23L rs ∧ Prg 1 dp rs ∧ R (.d (.list ((lnsL rs ++ oddL o).map PyData.str))) M
theorem at_law_lines (T : Tx w K mg) (dp : Nat) : FnOk P w K mg base (L2.CX P w) (2 * dp + 1) T.a_law_lines T.fd_law_lines ["_law_rows_here"] (spD K (c_law_lines dp)) := by
  induction dp using Nat.strongRecOn with
  | ind dp ih =>
  refine Fun.okD T.F_law_lines sc_law_lines (fun ss M R Rx h => ?_) (fun cdv A outer s H E ss M R Rx h hr tk => ?_)
  · obtain ⟨rs, o, rfl, _⟩ := h
    rfl
  · obtain ⟨rs, o, rfl, hs, hP, hR⟩ := h
    obtain ⟨hml, _⟩ := lnsL_ok rs hP.g
    have hz := hP.z
    -- lines_here = []
    refine b_cons (s_setQ 1 sc_law_lines.nd (EN.q (n_lst ea_nil) fun q => ?_))
    -- for row_here in rows_here:
    refine b_cons (s_for (passes_of rfl) rfl (i_tup (e_var 0 rfl)) (fun i γ' M' => ∃ zs : List Str, (zs = if i ≤ rs.length then lnsL (rs.take i) else lnsL rs ++ oddL o) ∧ M' = M ++ [(q, MO.lst ((zs.map PyData.str).map S.d))] ∧ ∃ u2, γ' = [.d (.tuple (rowsD rs ++ oddT o)), .ob q, u2, .no]) ⟨[], by rw [if_pos (Nat.zero_le _), List.take_zero, lnsL], rfl, _, rfl⟩ (fun _ _ _ _ => trivial) (fun i x γ2 M2 hx w => ?_) (fun γ2 M2 w => ?_))
    · obtain ⟨zs, hzs, rfl, u2, rfl⟩ := w
      refine ⟨_, g_name 2 sc_law_lines.nd, ?_⟩
      have k1 : (M ++ [(q, MO.lst ((zs.map PyData.str).map S.d))])[M.length]? = some (q, MO.lst ((zs.map PyData.str).map S.d)) := ga1 _ _
      have k2 : ∀ ys : List Str, (M ++ [(q, MO.lst ((zs.map PyData.str).map S.d))]).set M.length (q, MO.lst ((zs.map PyData.str).map S.d ++ (ys.map PyData.str).map S.d)) = M ++ [(q, MO.lst (((zs ++ ys).map PyData.str).map S.d))] := fun ys => by simp
      rcases odd_at hx with ⟨r, hri, rfl⟩ | ⟨rfl, rfl, rfl⟩
      · have hm := List.mem_of_getElem? hri
        have hil := (List.getElem?_eq_some_iff.mp hri).1
        have hl := lnsL_take hri
        have hs1 := s23_mem hs hm
        have hg := good_mem hP.g hm
        rw [if_pos (by omega)] at hzs
        have hle : zs.length + r.lns.length ≤ 2000 := by
          have e : (lnsL rs).length = (lnsL (rs.take (i + 1))).length + (lnsL (rs.drop (i + 1))).length := by rw [← List.length_append, ← lnsL_app, List.take_append_drop]
          rw [hl, List.length_append] at e
          rw [hzs]
          omega
        -- if row_here[0] in ['keep', 'again']:
        refine b_cons (s_if (b1 := !r.plain) (t_inD hr (e_ix (d := r.D) (d' := .str r.word) (e_var 2 rfl) e_int (it_word r)) (e_lst (ds := [_, _]) (ea_cons e_str (ea_cons e_str ea_nil))) .d .d (sh_word r) (by decide +kernel) (ka_s23 hs1)) (fun h1 => ?_) (fun h1 => ?_))
        · have hp : r.plain = false := by simpa using h1
          obtain ⟨d, rfl, hP2⟩ := prg_inner hP hm hp
          obtain ⟨ds, hds, hcut⟩ := blk_cut1 hp
          obtain ⟨hw5, hw29⟩ := head_len hg
          obtain ⟨hnum, hn4⟩ := headN_ok hg
          rw [lns_bk hp, List.length_cons, List.length_append, List.length_singleton] at hle
          have hds2 : PyData.str r.word :: (headN r).map (·.1) = ((PyData.str r.word, r.word) :: headN r).map (·.1) := rfl
          have hdat : (((PyData.str r.word, r.word) :: headN r).map fun x => PyData.str x.2) = (headW r).map PyData.str := by
            rw [head_is r, List.map_cons, List.map_cons, List.map_map]
            rfl
          have hsum : ((headW r).map (·.length)).sum + (headW r).length * (" " : Str).length ≤ 16777216 := by
            have h7 := sum_len hw29
            have h9 : (headW r).length * 29 ≤ 5 * 29 := Nat.mul_le_mul_right _ hw5
            have h8 : (" " : Str).length = 1 := by decide
            rw [h8]
            omega
          have hel : ∀ x ∈ (PyData.str r.word, r.word) :: headN r, x = (PyData.str r.word, r.word) ∨ ∃ n : Nat, n ≤ 12 ∧ x = (PyData.int (n : Int), intT n) := fun x hx => by
            rcases List.mem_cons.mp hx with rfl | hx
            · exact .inl rfl
            · cases r with
              | again n rs => rw [Rw.good] at hg; exact .inr ⟨n, hg.1, List.mem_singleton.mp hx⟩
              | keep rs => cases hx
              | ever rs => cases hx
              | _ => cases hp
          have ecat : ([.str (Str.join " " (headW r))] : List PyData) ++ (lnsL r.inner).map PyData.str = (Str.join " " (headW r) :: lnsL r.inner).map PyData.str := rfl
          have hin0 : S.d (.tuple (rowsD r.inner)) = S.d (.tuple (rowsD r.inner ++ oddT false)) := by rw [show oddT false = [] from rfl, List.append_nil]
          have hout0 : S.d (.list ((lnsL r.inner ++ oddL false).map PyData.str)) = S.d (.list ((lnsL r.inner).map PyData.str)) := by rw [show oddL false = [] from rfl, List.append_nil]
          have hlns : r.lns = (Str.join " " (headW r) :: lnsL r.inner) ++ [("end" : Str)] := by rw [lns_bk hp]; rfl
          -- lines_here.extend([' '.join([str(part) for part in row_here[:-1]])] + lines(row_here[-1]) + ['end'])
          refine b_cons (s_exprQ (EQ.gc (q_extend (q := q) (e_var 1 rfl) ⟨M.length, _, k1⟩ (q_cat (e_is (e_cat (xs := [.str (Str.join " " (headW r))]) (zs := (lnsL r.inner).map PyData.str) (e_lst (ds := [_]) (ea_cons (e_join (ys := headW r) e_str (e_is (e_frz (ds := ((PyData.str r.word, r.word) :: headN r).map fun x => PyData.str x.2) (n_compI 3 ((PyData.str r.word, r.word) :: headN r) (fun x => x.1) (fun x => PyData.str x.2) rfl sc_law_lines.nd (i_tup (e_is (e_sliceA (ds := ds) (l := none) (h := some (-1)) (e_is (e_var 2 rfl) (congrArg S.d hds)) o_none (o_some (e_neg e_int))) (congrArg (fun z => S.d (.tuple z)) (hcut.trans hds2)))) (blkOk_by rfl) (by exact (show 3 < 4 by decide)) (Nat.ble_eq_true_of_le (by rw [List.length_cons]; omega)) (fun x hx M' s' H' C cl fp => ?el) (hg := fun _ _ _ _ _ => pg_name sc_law_lines.nd rfl (Or.inl rfl)))) (congrArg (fun z => S.d (.list z)) hdat)) vl_strs hsum) ea_nil)) (e_is (e_call (ih d (Nat.lt_succ_self d)) (hr.mono (by omega)) T.g_law_lines T.F_law_lines.kp T.b_law_lines tk (ea_cons (e_is (e_ix (d := r.D) (e_var 2 rfl) (e_neg e_int) (blk_last hp)) hin0) ea_nil) ⟨r.inner, false, rfl, s23_inner hs1, hP2, rfl, rfl⟩) hout0) (by rw [List.length_map]; show 1 + _ ≤ _; omega)) (congrArg (fun z => S.d (.list z)) ecat)) (EV.q (e_lst (ds := [.str "end"]) (ea_cons e_str ea_nil)) ⟨((Str.join " " (headW r) :: lnsL r.inner).map PyData.str).map S.d, [S.d (.str "end")], .d, .d (xs := [.str "end"]), ?ln, fun p => ⟨p, M.length, M.length + 1, (zs.map PyData.str).map S.d, ((Str.join " " (headW r) :: lnsL r.inner).map PyData.str).map S.d ++ [S.d (.str "end")], rfl, ?g1, ?g2, ?g3, M ++ [(q, MO.lst (((zs ++ r.lns).map PyData.str).map S.d))], ?sub, ?nx⟩⟩)))))
          case el =>
            rcases hel x hx with rfl | ⟨n, hn, rfl⟩
            · exact e_strS rfl T.n_str (ea_cons (e_var 3 rfl) ea_nil)
            · exact e_strI rfl T.n_str (ea_cons (e_var 3 rfl) ea_nil) (log_lt (by decide) (by rw [Int.natAbs_natCast]; exact Nat.lt_of_le_of_lt hn (by decide)))
          case ln => rw [List.length_map, List.length_map, List.length_cons]; show _ + 1 ≤ _; omega
          case g1 => rw [List.getElem?_append_left (by simp)]; exact k1
          case g2 => simp
          case g3 => simp only [List.length_append, List.length_map, List.length_cons, List.length_nil]; omega
          case sub =>
            rw [hlns]
            simp
          case nx =>
            refine b_nil (b_nil ⟨zs ++ r.lns, ?_, rfl, _, rfl⟩)
            rw [if_pos (by omega), hl, hzs]
        · have hp : r.plain = true := by simpa using h1
          obtain ⟨e1, e2⟩ := s23_plain hs1 hp
          rw [e1] at hle
          -- lines_here.append(row_here[0])
          refine b_cons (s_expr (e_append (s := S.d (.str r.word)) (k := M.length) (e_var 1 rfl) (ea_cons (e_ix (d := r.D) (d' := .str r.word) (e_var 2 rfl) e_int (it_word r)) ea_nil) k1 (by rw [List.length_map, List.length_map]; omega) ⟨_, _, k1⟩) ?_)
          have := k2 [r.word]
          rw [show (([r.word] : List Str).map PyData.str).map S.d = [S.d (.str r.word)] from rfl] at this
          rw [this]
          refine b_nil (b_nil ⟨zs ++ [r.word], ?_, rfl, _, rfl⟩)
          rw [if_pos (by omega), hl, e1, hzs]
      · rw [if_pos (Nat.le_refl _), List.take_length] at hzs
        -- if row_here[0] in ['keep', 'again']:
        refine b_cons (s_if (b1 := false) (t_inD (d := .str "forth") hr (e_ix (d := forthD) (d' := .str "forth") (e_var 2 rfl) e_int rfl) (e_lst (ds := [_, _]) (ea_cons e_str (ea_cons e_str ea_nil))) .d .d (by decide +kernel) (by decide +kernel) (by decide +kernel)) (fun h => nomatch h) (fun _ => ?_))
        -- lines_here.append(row_here[0])
        refine b_cons (s_expr (e_append (s := S.d (.str "forth")) (k := M.length) (e_var 1 rfl) (ea_cons (e_ix (d := forthD) (d' := .str "forth") (e_var 2 rfl) e_int rfl) ea_nil) k1 (by rw [List.length_map, List.length_map, hzs]; omega) ⟨_, _, k1⟩) ?_)
        have := k2 [("forth" : Str)]
        rw [show (([("forth" : Str)] : List Str).map PyData.str).map S.d = [S.d (.str "forth")] from rfl] at this
        rw [this]
        refine b_nil (b_nil ⟨zs ++ [("forth" : Str)], ?_, rfl, _, rfl⟩)
        rw [if_neg (by omega), hzs]
        rfl
    · obtain ⟨zs, hzs, rfl, u2, rfl⟩ := w
      have hzs2 : zs = lnsL rs ++ oddL o := by
        rw [hzs, List.length_map, List.length_append, rowsD_len]
        cases o with
        | false =>
          rw [show (oddT false).length = 0 from rfl, Nat.add_zero, if_pos (Nat.le_refl _), List.take_length]
          exact (List.append_nil _).symm
        | true =>
          rw [show (oddT true).length = 1 from rfl, if_neg (by omega)]
      subst hzs2
      -- return lines_here
      refine b_cons (s_retQ (EQ.frzAt (EV.q (e_var 1 rfl) ⟨q, (lnsL rs ++ oddL o).map PyData.str, M.length, rfl, ga1 _ _, ?_⟩)))
      rw [List.eraseIdx_append_of_length_le (Nat.le_refl _), Nat.sub_self, List.eraseIdx_cons_zero, List.append_nil]
      exact hR
theorem ok_law_lines (T : Tx w K mg) : FnOk P w K mg base (L2.CX P w) 25 T.a_law_lines T.fd_law_lines ["_law_rows_here"] (spD K (c_law_lines 12)) := at_law_lines T 12

def c_law_told : Con := fun ss M R _ => ∃ (rs : List Rw) (o by_ : Bool), ss = [.d (.tuple (rowsD rs ++ oddT o)), .d (.bool by_)] ∧ Q23 rs ∧ R (.d (told23 rs o by_)) M
theorem ok_law_told (T : Tx w K mg) : FnOk P w K mg base (L2.CX P w) 64 T.a_law_told T.fd_law_told ["_law_rows_here", "_law_by_text"] (spD K c_law_told) := by
  refine Fun.okD T.F_law_told sc_law_told (fun ss M R Rx h => ?_) (fun cdv A outer s H E ss M R Rx h hr tk => ?_)
  · obtain ⟨rs, o, by_, rfl, _⟩ := h
    rfl
  · obtain ⟨rs, o, by_, rfl, hQ, hR⟩ := h
    have C1 : ExcC K T.C_NoRow := ⟨T.hg_NoRow, T.hk_NoRow, T.s_NoRow, T.d_NoRow, T.ha_NoRow, T.e_hn, T.e_ht, T.hm_NoRow⟩
    have C2 : ExcC K T.C_NoText := ⟨T.hg_NoText, T.hk_NoText, T.s_NoText, T.d_NoText, T.ha_NoText, T.e_hn, T.e_ht, T.hm_NoText⟩
    have C3 : ExcC K T.C_TooMuch := ⟨T.hg_TooMuch, T.hk_TooMuch, T.s_TooMuch, T.d_TooMuch, T.ha_TooMuch, T.e_hn, T.e_ht, T.hm_TooMuch⟩
    have kn : ∀ {C1 C2 : Addr}, (Value.ref C1 == Value.ref C2) = false → PySem.W.hasDictIn K C2 = true → PySem.W.typeIn K (.ref C2) = some (.type "type") → PySem.W.subIn K (.ref C1) (.ref C2) = some false → PySem.W.kitOne K (.ref C1) (.ref C2) = some false := fun h1 h2 h3 h4 => kit_own (.inl h1) h2 h3 h4
    have hlook := hQ.look
    have h65 := room65 hr
    have hvl : ((lines23 rs o).map fun y => S.d (PyData.str y)) = ((lines23 rs o).map PyData.str).map S.d := by rw [List.map_map]; rfl
    have hcat : rowsD rs ++ oddT false = rowsD rs := List.append_nil _
    obtain ⟨hl1, hl2, hl3⟩ := lines23_ok hQ o
    have hl4 : Str.join "\n" (lines23 rs o) ≠ "" := join23_ne hQ.ne
    have hnl : ("\n" : Str).length = 1 := by decide
    have hjl : (Str.join "\n" (lines23 rs o)).length ≤ 40000 := by
      have h3 := join_len (y := "\n") (n := 150) fun w hw => (hl1 w hw).1.l
      have h4 : (lines23 rs o).length * (150 + ("\n" : Str).length) ≤ 201 * (150 + ("\n" : Str).length) := Nat.mul_le_mul_right _ hl2
      rw [hnl] at h3 h4
      omega
    have hsp : Txt.split (Str.join "\n" (lines23 rs o)) "\n" = lines23 rs o := join_split hl3 fun z hz => (hl1 z hz).1
    have hsum : ((lines23 rs o).map (·.length)).sum + (lines23 rs o).length * ("\n" : Str).length ≤ 16777216 := by
      have h7 := sum_len (n := 150) fun w hw => (hl1 w hw).1.l
      have h9 : (lines23 rs o).length * 150 ≤ 201 * 150 := Nat.mul_le_mul_right _ hl2
      rw [hnl]
      omega
    unfold told23 at hR
    -- try:
    refine b_cons (s_tryAs (i := 2) rfl rfl sc_law_told.nd rfl rfl ⟨rfl, by decide, .inl T.g_MillError⟩ tk fun W pn xe tk2 po => ?_)
    -- if by_text:
    refine b_cons (s_if (b1 := by_) (t_val (e_var 1 rfl)) (fun hby => ?_) (fun hby => ?_))
    · subst hby
      -- found = read('\n'.join(lines(rows_here)))
      refine b_cons (s_setQ 3 sc_law_told.nd (q_call (ok_read T) (hr.mono (by decide)) T.g_read T.F_read.kp T.b_read tk2 (ea_cons (e_join (ys := lines23 rs o) e_str (e_call (ok_law_lines T) (hr.mono (by decide)) T.g_law_lines T.F_law_lines.kp T.b_law_lines tk2 (ea_cons (e_var 0 rfl) ea_nil) ⟨rs, o, rfl, hQ.s, ⟨hQ.prg.g, Nat.le_trans hQ.prg.d (by decide), hQ.prg.z⟩, rfl, rfl⟩) (by rw [hvl]; exact .d) hsum) ea_nil) ⟨Str.join "\n" (lines23 rs o), rfl, hjl, join_asc fun z hz => (hl1 z hz).2, fun p hp => ?_, fun he => ?_, fun hne => ⟨fun i hi M2 dx => ?_, fun s hs hn => ?_, fun s hs hn => ?_⟩⟩))
      · rw [hsp] at hp
        exact Nat.le_trans (hl1 p hp).1.l (by decide)
      · exact absurd he hl4
      · rw [hsp] at hi
        cases o with
        | false =>
          rw [show lines23 rs false = lnsL rs from List.append_nil _, badT_ok (i := 0) (run_text rs)] at hi
          cases hi
        | true =>
          rw [show lines23 rs true = lnsL rs ++ [("forth" : Str)] from rfl, bad_forth] at hi
          cases hi
          rw [if_pos rfl, if_pos rfl] at hR
          refine ⟨true, PySem.W.exm_ref T.s_MillError T.d_MillError T.t_MillError T.sub_NoText_MillError, fun _ e oe pn hz hf => ?_, fun h => Bool.noConfusion h⟩
          have hkk := ga1 (M ++ M2) ((dx, .exd [("line", .d (.int ((linesL rs : Nat) : Int)))]) : Addr × MO)
          -- sorts = [isinstance(e, NoRow), isinstance(e, NoText), isinstance(e, TooMuch)]
          refine b_cons (s_set 4 sc_law_told.nd (e_lst (ds := [_, _, _]) (ea_cons (e_isED C2 T.ci_NoText hz hf rfl T.n_isinstance (ea_cons (e_var 2 rfl) (ea_cons (e_globR rfl T.g_NoRow rfl) ea_nil)) hkk (.own _) (kit_own (.inl T.ne_NoText_NoRow) T.d_NoRow T.t_NoRow T.sub_NoText_NoRow)) (ea_cons (e_isED C2 T.ci_NoText hz hf rfl T.n_isinstance (ea_cons (e_var 2 rfl) (ea_cons (e_globR rfl T.g_NoText rfl) ea_nil)) hkk (.own _) (if_pos (by simp))) (ea_cons (e_isED C2 T.ci_NoText hz hf rfl T.n_isinstance (ea_cons (e_var 2 rfl) (ea_cons (e_globR rfl T.g_TooMuch rfl) ea_nil)) hkk (.own _) (kit_own (.inl T.ne_NoText_TooMuch) T.d_TooMuch T.t_TooMuch T.sub_NoText_TooMuch)) ea_nil)))) ?_)
          -- if isinstance(e, (NoKin, NoNumber, NoPiece)) or not isinstance(e, ValueError) or sorts.count(True) != 1:
          refine b_cons (s_if (b1 := false || (false || false)) (EW.t (w_or (t_val (e_isETD C2 T.ci_NoText hz hf rfl T.n_isinstance (e_var 2 rfl) (ea_cons (e_globR rfl T.g_NoKin rfl) (ea_cons (e_globR rfl T.g_NoNumber rfl) (ea_cons (e_globR rfl T.g_NoPiece rfl) ea_nil))) hkk (.cons (.own _) (.cons (.own _) (.cons (.own _) .nil))) (kitAny_cons (kn T.ne_NoText_NoKin T.d_NoKin T.t_NoKin T.sub_NoText_NoKin) (fun _ => (kitAny_cons (kn T.ne_NoText_NoNumber T.d_NoNumber T.t_NoNumber T.sub_NoText_NoNumber) (fun _ => (kitAny_cons (kn T.ne_NoText_NoPiece T.d_NoPiece T.t_NoPiece T.sub_NoText_NoPiece) (fun _ => kitAny_nil) nofun)) nofun)) nofun))) (fun _ => w_or (t_not (b1 := true) (t_val (e_isED C2 T.ci_NoText hz hf rfl T.n_isinstance (ea_cons (e_var 2 rfl) (ea_cons (e_ty rfl T.n_ValueError (by decide +kernel)) ea_nil)) hkk (.ty _) (kit_blt (by decide +kernel) T.v_NoText)))) (fun _ => w_or1 (t_neU (z := true) (d1 := .int 1) (d2 := .int 1) hr.units (e_countD h65 (e_var 4 rfl) (ea_cons e_bl ea_nil) (by decide +kernel) (by decide +kernel) (by decide)) e_int .d .d rfl rfl rfl))))) (fun h => nomatch h) (fun _ => b_nil ?_))
          -- if sorts[0]:
          refine b_cons (s_if (b1 := false) (t_val (e_ix (d := .list [.bool false, .bool true, .bool false]) (d' := .bool false) (e_var 4 rfl) e_int rfl)) (fun h => nomatch h) (fun _ => b_nil ?_))
          -- if sorts[1]:
          refine b_cons (s_if (b1 := true) (t_val (e_ix (d := .list [.bool false, .bool true, .bool false]) (d' := .bool true) (e_var 4 rfl) e_int rfl)) (fun _ => ?_) (fun h => nomatch h))
          -- return ('line', e.line)
          refine b_cons (s_ret (EV.gc (e_tup (ds := [.str "line", .int ((linesL rs : Nat) : Int)]) (ea_cons e_str (ea_cons (e_xf (C := T.C_NoText) (dd := dx) (kk := (M ++ M2).length) (fs := [("line", .d (.int ((linesL rs : Nat) : Int)))]) ⟨T.hg_NoText, T.hk_NoText, T.s_NoText, T.d_NoText⟩ T.nf_NoText hz hf (e_var 2 rfl) hkk rfl) ea_nil))) ((List.sublist_append_left M M2).trans (List.sublist_append_left _ _))) ?_)
          exact hR
      · rw [hsp] at hs
        cases o with
        | false =>
          rw [show lines23 rs false = lnsL rs from List.append_nil _, badT_ok (i := 0) (run_text rs)] at hs
          cases hs
          exact absurd rfl hn
        | true =>
          rw [show lines23 rs true = lnsL rs ++ [("forth" : Str)] from rfl, bad_forth] at hs
          cases hs
      · rw [hsp] at hs
        cases o with
        | false =>
          rw [show lines23 rs false = lnsL rs from List.append_nil _, badT_ok (i := 0) (run_text rs)] at hs
          cases hs
          rw [if_neg (by decide)] at hR
          refine ⟨rs, 1, 0, 0, rfl, hQ.prg, Q23.mv, hQ.eo, fun m hm => ⟨fun h6 M2 => ?_, fun h6 => ?_⟩, fun i hi => ?_⟩
          · rw [if_pos h6] at hR
            refine ⟨true, PySem.W.exm_ref T.s_MillError T.d_MillError T.t_MillError T.sub_TooMuch_MillError, fun _ e oe pn hz hf => ?_, fun h => Bool.noConfusion h⟩
            -- sorts = [isinstance(e, NoRow), isinstance(e, NoText), isinstance(e, TooMuch)]
            refine b_cons (s_set 4 sc_law_told.nd (e_lst (ds := [_, _, _]) (ea_cons (e_isE C3 hz hf rfl T.n_isinstance (ea_cons (e_var 2 rfl) (ea_cons (e_globR rfl T.g_NoRow rfl) ea_nil)) (.own _) (kit_own (.inl T.ne_TooMuch_NoRow) T.d_NoRow T.t_NoRow T.sub_TooMuch_NoRow)) (ea_cons (e_isE C3 hz hf rfl T.n_isinstance (ea_cons (e_var 2 rfl) (ea_cons (e_globR rfl T.g_NoText rfl) ea_nil)) (.own _) (kit_own (.inl T.ne_TooMuch_NoText) T.d_NoText T.t_NoText T.sub_TooMuch_NoText)) (ea_cons (e_isE C3 hz hf rfl T.n_isinstance (ea_cons (e_var 2 rfl) (ea_cons (e_globR rfl T.g_TooMuch rfl) ea_nil)) (.own _) (if_pos (by simp))) ea_nil)))) ?_)
            -- if isinstance(e, (NoKin, NoNumber, NoPiece)) or not isinstance(e, ValueError) or sorts.count(True) != 1:
            refine b_cons (s_if (b1 := false || (false || false)) (EW.t (w_or (t_val (e_isET C3 hz hf rfl T.n_isinstance (e_var 2 rfl) (ea_cons (e_globR rfl T.g_NoKin rfl) (ea_cons (e_globR rfl T.g_NoNumber rfl) (ea_cons (e_globR rfl T.g_NoPiece rfl) ea_nil))) (.cons (.own _) (.cons (.own _) (.cons (.own _) .nil))) (kitAny_cons (kn T.ne_TooMuch_NoKin T.d_NoKin T.t_NoKin T.sub_TooMuch_NoKin) (fun _ => (kitAny_cons (kn T.ne_TooMuch_NoNumber T.d_NoNumber T.t_NoNumber T.sub_TooMuch_NoNumber) (fun _ => (kitAny_cons (kn T.ne_TooMuch_NoPiece T.d_NoPiece T.t_NoPiece T.sub_TooMuch_NoPiece) (fun _ => kitAny_nil) nofun)) nofun)) nofun))) (fun _ => w_or (t_not (b1 := true) (t_val (e_isE C3 hz hf rfl T.n_isinstance (ea_cons (e_var 2 rfl) (ea_cons (e_ty rfl T.n_ValueError (by decide +kernel)) ea_nil)) (.ty _) (kit_blt (by decide +kernel) T.v_TooMuch)))) (fun _ => w_or1 (t_neU (z := true) (d1 := .int 1) (d2 := .int 1) hr.units (e_countD h65 (e_var 4 rfl) (ea_cons e_bl ea_nil) (by decide +kernel) (by decide +kernel) (by decide)) e_int .d .d rfl rfl rfl))))) (fun h => nomatch h) (fun _ => b_nil ?_))
            -- if sorts[0]:
            refine b_cons (s_if (b1 := false) (t_val (e_ix (d := .list [.bool false, .bool false, .bool true]) (d' := .bool false) (e_var 4 rfl) e_int rfl)) (fun h => nomatch h) (fun _ => b_nil ?_))
            -- if sorts[1]:
            refine b_cons (s_if (b1 := false) (t_val (e_ix (d := .list [.bool false, .bool false, .bool true]) (d' := .bool false) (e_var 4 rfl) e_int rfl)) (fun h => nomatch h) (fun _ => b_nil ?_))
            -- return 'much'
            refine b_cons (s_ret (EV.gc e_str (List.sublist_append_left M M2)) ?_)
            exact hR
          · rw [if_neg (by omega)] at hR
            refine b_nil (b_nil ?_)
            -- return [found]
            exact b_cons (s_ret (e_lst (ds := [_]) (ea_cons (e_var 3 rfl) ea_nil)) hR)
          · rw [hlook] at hi
            cases hi
        | true =>
          rw [show lines23 rs true = lnsL rs ++ [("forth" : Str)] from rfl, bad_forth] at hs
          cases hs
    · subst hby
      cases o with
      | false =>
        rw [if_neg (by decide)] at hR
        -- found = program_of(rows_here)
        refine b_cons (s_setQ 3 sc_law_told.nd (q_call (ok_program_of T) (hr.mono (by decide)) T.g_program_of T.F_program_of.kp T.b_program_of tk2 (ea_cons (e_var 0 rfl) ea_nil) ⟨rs, 1, 0, 0, by rw [hcat], hQ.prg, Q23.mv, hQ.eo, fun m hm => ⟨fun h6 => ?_, fun h6 => ?_⟩, fun i hi => ?_⟩))
        · rw [if_pos h6] at hR
          obtain ⟨M2, hM2⟩ : ∃ M2 : MM, M2 = [] := ⟨_, rfl⟩
          rw [show M = M ++ M2 by rw [hM2, List.append_nil]]
          refine ⟨true, PySem.W.exm_ref T.s_MillError T.d_MillError T.t_MillError T.sub_TooMuch_MillError, fun _ e oe pn hz hf => ?_, fun h => Bool.noConfusion h⟩
          -- sorts = [isinstance(e, NoRow), isinstance(e, NoText), isinstance(e, TooMuch)]
          refine b_cons (s_set 4 sc_law_told.nd (e_lst (ds := [_, _, _]) (ea_cons (e_isE C3 hz hf rfl T.n_isinstance (ea_cons (e_var 2 rfl) (ea_cons (e_globR rfl T.g_NoRow rfl) ea_nil)) (.own _) (kit_own (.inl T.ne_TooMuch_NoRow) T.d_NoRow T.t_NoRow T.sub_TooMuch_NoRow)) (ea_cons (e_isE C3 hz hf rfl T.n_isinstance (ea_cons (e_var 2 rfl) (ea_cons (e_globR rfl T.g_NoText rfl) ea_nil)) (.own _) (kit_own (.inl T.ne_TooMuch_NoText) T.d_NoText T.t_NoText T.sub_TooMuch_NoText)) (ea_cons (e_isE C3 hz hf rfl T.n_isinstance (ea_cons (e_var 2 rfl) (ea_cons (e_globR rfl T.g_TooMuch rfl) ea_nil)) (.own _) (if_pos (by simp))) ea_nil)))) ?_)
          -- if isinstance(e, (NoKin, NoNumber, NoPiece)) or not isinstance(e, ValueError) or sorts.count(True) != 1:
          refine b_cons (s_if (b1 := false || (false || false)) (EW.t (w_or (t_val (e_isET C3 hz hf rfl T.n_isinstance (e_var 2 rfl) (ea_cons (e_globR rfl T.g_NoKin rfl) (ea_cons (e_globR rfl T.g_NoNumber rfl) (ea_cons (e_globR rfl T.g_NoPiece rfl) ea_nil))) (.cons (.own _) (.cons (.own _) (.cons (.own _) .nil))) (kitAny_cons (kn T.ne_TooMuch_NoKin T.d_NoKin T.t_NoKin T.sub_TooMuch_NoKin) (fun _ => (kitAny_cons (kn T.ne_TooMuch_NoNumber T.d_NoNumber T.t_NoNumber T.sub_TooMuch_NoNumber) (fun _ => (kitAny_cons (kn T.ne_TooMuch_NoPiece T.d_NoPiece T.t_NoPiece T.sub_TooMuch_NoPiece) (fun _ => kitAny_nil) nofun)) nofun)) nofun))) (fun _ => w_or (t_not (b1 := true) (t_val (e_isE C3 hz hf rfl T.n_isinstance (ea_cons (e_var 2 rfl) (ea_cons (e_ty rfl T.n_ValueError (by decide +kernel)) ea_nil)) (.ty _) (kit_blt (by decide +kernel) T.v_TooMuch)))) (fun _ => w_or1 (t_neU (z := true) (d1 := .int 1) (d2 := .int 1) hr.units (e_countD h65 (e_var 4 rfl) (ea_cons e_bl ea_nil) (by decide +kernel) (by decide +kernel) (by decide)) e_int .d .d rfl rfl rfl))))) (fun h => nomatch h) (fun _ => b_nil ?_))
          -- if sorts[0]:
          refine b_cons (s_if (b1 := false) (t_val (e_ix (d := .list [.bool false, .bool false, .bool true]) (d' := .bool false) (e_var 4 rfl) e_int rfl)) (fun h => nomatch h) (fun _ => b_nil ?_))
          -- if sorts[1]:
          refine b_cons (s_if (b1 := false) (t_val (e_ix (d := .list [.bool false, .bool false, .bool true]) (d' := .bool false) (e_var 4 rfl) e_int rfl)) (fun h => nomatch h) (fun _ => b_nil ?_))
          -- return 'much'
          refine b_cons (s_ret (EV.gc e_str (List.sublist_append_left M M2)) ?_)
          exact hR
        · rw [if_neg (by omega)] at hR
          refine b_nil (b_nil ?_)
          -- return [found]
          exact b_cons (s_ret (e_lst (ds := [_]) (ea_cons (e_var 3 rfl) ea_nil)) hR)
        · rw [hlook] at hi
          cases hi
      | true =>
        rw [if_pos rfl, if_neg (by decide)] at hR
        -- found = program_of(rows_here)
        refine b_cons (s_setQ 3 sc_law_told.nd (q_call (ok_program_forth T) (hr.mono (by decide)) T.g_program_of T.F_program_of.kp T.b_program_of tk2 (ea_cons (e_var 0 rfl) ea_nil) ⟨rs, 1, 0, 0, linesL rs, rfl, hQ.prg, Q23.mv, hQ.eo, hlook, fun M2 dx => ?_⟩))
        refine ⟨true, PySem.W.exm_ref T.s_MillError T.d_MillError T.t_MillError T.sub_NoRow_MillError, fun _ e oe pn hz hf => ?_, fun h => Bool.noConfusion h⟩
        have hkk := ga1 (M ++ M2) ((dx, .exd [("row", .d (.int ((linesL rs : Nat) : Int)))]) : Addr × MO)
        -- sorts = [isinstance(e, NoRow), isinstance(e, NoText), isinstance(e, TooMuch)]
        refine b_cons (s_set 4 sc_law_told.nd (e_lst (ds := [_, _, _]) (ea_cons (e_isED C1 T.ci_NoRow hz hf rfl T.n_isinstance (ea_cons (e_var 2 rfl) (ea_cons (e_globR rfl T.g_NoRow rfl) ea_nil)) hkk (.own _) (if_pos (by simp))) (ea_cons (e_isED C1 T.ci_NoRow hz hf rfl T.n_isinstance (ea_cons (e_var 2 rfl) (ea_cons (e_globR rfl T.g_NoText rfl) ea_nil)) hkk (.own _) (kit_own (.inl T.ne_NoRow_NoText) T.d_NoText T.t_NoText T.sub_NoRow_NoText)) (ea_cons (e_isED C1 T.ci_NoRow hz hf rfl T.n_isinstance (ea_cons (e_var 2 rfl) (ea_cons (e_globR rfl T.g_TooMuch rfl) ea_nil)) hkk (.own _) (kit_own (.inl T.ne_NoRow_TooMuch) T.d_TooMuch T.t_TooMuch T.sub_NoRow_TooMuch)) ea_nil)))) ?_)
        -- if isinstance(e, (NoKin, NoNumber, NoPiece)) or not isinstance(e, ValueError) or sorts.count(True) != 1:
        refine b_cons (s_if (b1 := false || (false || false)) (EW.t (w_or (t_val (e_isETD C1 T.ci_NoRow hz hf rfl T.n_isinstance (e_var 2 rfl) (ea_cons (e_globR rfl T.g_NoKin rfl) (ea_cons (e_globR rfl T.g_NoNumber rfl) (ea_cons (e_globR rfl T.g_NoPiece rfl) ea_nil))) hkk (.cons (.own _) (.cons (.own _) (.cons (.own _) .nil))) (kitAny_cons (kn T.ne_NoRow_NoKin T.d_NoKin T.t_NoKin T.sub_NoRow_NoKin) (fun _ => (kitAny_cons (kn T.ne_NoRow_NoNumber T.d_NoNumber T.t_NoNumber T.sub_NoRow_NoNumber) (fun _ => (kitAny_cons (kn T.ne_NoRow_NoPiece T.d_NoPiece T.t_NoPiece T.sub_NoRow_NoPiece) (fun _ => kitAny_nil) nofun)) nofun)) nofun))) (fun _ => w_or (t_not (b1 := true) (t_val (e_isED C1 T.ci_NoRow hz hf rfl T.n_isinstance (ea_cons (e_var 2 rfl) (ea_cons (e_ty rfl T.n_ValueError (by decide +kernel)) ea_nil)) hkk (.ty _) (kit_blt (by decide +kernel) T.v_NoRow)))) (fun _ => w_or1 (t_neU (z := true) (d1 := .int 1) (d2 := .int 1) hr.units (e_countD h65 (e_var 4 rfl) (ea_cons e_bl ea_nil) (by decide +kernel) (by decide +kernel) (by decide)) e_int .d .d rfl rfl rfl))))) (fun h => nomatch h) (fun _ => b_nil ?_))
        -- if sorts[0]:
        refine b_cons (s_if (b1 := true) (t_val (e_ix (d := .list [.bool true, .bool false, .bool false]) (d' := .bool true) (e_var 4 rfl) e_int rfl)) (fun _ => ?_) (fun h => nomatch h))
        -- return ('row', e.row)
        refine b_cons (s_ret (EV.gc (e_tup (ds := [.str "row", .int ((linesL rs : Nat) : Int)]) (ea_cons e_str (ea_cons (e_xf (C := T.C_NoRow) (dd := dx) (kk := (M ++ M2).length) (fs := [("row", .d (.int ((linesL rs : Nat) : Int)))]) ⟨T.hg_NoRow, T.hk_NoRow, T.s_NoRow, T.d_NoRow⟩ T.nf_NoRow hz hf (e_var 2 rfl) hkk rfl) ea_nil))) ((List.sublist_append_left M M2).trans (List.sublist_append_left _ _))) ?_)
        exact hR

def c_law_numbers (dp : Nat) : Con := fun ss M R _ => ∃ rs : List Rw, ss = [.d (.tuple (rowsD rs))] ∧ s23L rs ∧ deepL rs ≤ dp ∧ R (.d (.int ((linesL rs : Nat) : Int))) M
theorem at_law_numbers (T : Tx w K mg) (dp : Nat) : FnOk P w K mg base (L2.CX P w) (2 * dp + 1) T.a_law_numbers T.fd_law_numbers ["_law_rows_here"] (spD K (c_law_numbers dp)) := by
  induction dp using Nat.strongRecOn with
  | ind dp ih =>
  refine Fun.okD T.F_law_numbers sc_law_numbers (fun ss M R Rx h => ?_) (fun cdv A outer s H E ss M R Rx h hr tk => ?_)
  · obtain ⟨rs, rfl, _⟩ := h
    rfl
  · obtain ⟨rs, rfl, hs, hd, hR⟩ := h
    -- many = 0
    refine b_cons (s_set 1 sc_law_numbers.nd e_int ?_)
    -- for row_here in rows_here:
    refine b_cons (s_for (passes_of rfl) rfl (i_tup (e_var 0 rfl)) (fun i γ' M' => M' = M ∧ ∃ u1, γ' = [.d (.tuple (rowsD rs)), .d (.int ((linesL (rs.take i) : Nat) : Int)), u1]) ⟨rfl, _, rfl⟩ (fun _ _ _ _ => trivial) (fun i x γ2 M2 hx w => ?_) (fun γ2 M2 w => ?_))
    · obtain ⟨rfl, u1, rfl⟩ := w
      obtain ⟨r, hri, rfl⟩ := rows_at hx
      have hm := List.mem_of_getElem? hri
      have hl := linesL_take hri
      have hs1 := s23_mem hs hm
      refine ⟨_, g_name 2 sc_law_numbers.nd, ?_⟩
      -- many = many + 1
      refine b_cons (s_set 1 sc_law_numbers.nd (e_add (e_var 1 rfl) e_int) ?_)
      -- if row_here[0] in ['keep', 'again']:
      refine b_cons (s_if (b1 := !r.plain) (t_inD hr (e_ix (d := r.D) (d' := .str r.word) (e_var 2 rfl) e_int (it_word r)) (e_lst (ds := [_, _]) (ea_cons e_str (ea_cons e_str ea_nil))) .d .d (sh_word r) (by decide +kernel) (ka_s23 hs1)) (fun h1 => ?_) (fun h1 => b_nil ?_))
      · have hb : r.plain = false := by simpa using h1
        obtain ⟨d, rfl, hd2⟩ := deep_inner hd hm hb
        -- many = many + 1 + numbers(row_here[-1])
        refine b_cons (s_set 1 sc_law_numbers.nd (e_add (e_add (e_var 1 rfl) e_int) (e_call (ih d (Nat.lt_succ_self d)) (hr.mono (by omega)) T.g_law_numbers T.F_law_numbers.kp T.b_law_numbers tk (ea_cons (e_ix (d := r.D) (e_var 2 rfl) (e_neg e_int) (blk_last hb)) ea_nil) ⟨r.inner, rfl, s23_inner hs1, hd2, rfl, rfl⟩)) ?_)
        refine b_nil ?_
        refine b_nil ⟨rfl, .d r.D, ?_⟩
        have e : ((linesL (rs.take i) : Nat) : Int) + 1 + 1 + ((linesL r.inner : Nat) : Int) = ((linesL (rs.take (i + 1)) : Nat) : Int) := by
          have := blk_lines hb
          omega
        rw [← e]
        rfl
      · have hb : r.plain = true := by simpa using h1
        refine b_nil ⟨rfl, .d r.D, ?_⟩
        have e : ((linesL (rs.take i) : Nat) : Int) + 1 = ((linesL (rs.take (i + 1)) : Nat) : Int) := by
          have := plain_lines hb
          omega
        rw [← e]
        rfl
    · obtain ⟨rfl, u1, rfl⟩ := w
      rw [take_rows]
      -- return many
      refine b_cons (s_ret (e_var 1 rfl) ?_)
      exact hR
theorem ok_law_numbers (T : Tx w K mg) : FnOk P w K mg base (L2.CX P w) 25 T.a_law_numbers T.fd_law_numbers ["_law_rows_here"] (spD K (c_law_numbers 12)) := at_law_numbers T 12

theorem ok_law (T : Tx w K mg) : FnOk P w K mg base (L2.CX P w) 65 T.a_law T.fd_law ["_law_script"] (spD K lawC) := by
  refine Fun.okD T.F_law sc_law (fun ss M R Rx h => ?_) (fun cdv A outer s H E ss M R Rx h hr tk => ?_)
  · obtain ⟨ns, rfl, _⟩ := h
    rfl
  · obtain ⟨ns, rfl, hl, hb, hR⟩ := h
    refine b_gc (List.nil_sublist _) ?_
    have hcl : (cutL ns none (some 12)).length ≤ 12 := by
      unfold cutL
      rw [List.length_take]
      have : HT.sIx ns.length ns.length (some 12) = min 12 ns.length := HT.sIx_nat _ _ 12
      rw [this]
      show min (min 12 ns.length - 0) _ ≤ 12
      omega
    have eL : cutL (ns.map PyData.int) none (some 12) ++ [PyData.int 0] = (cutL ns none (some 12) ++ [0]).map PyData.int := by rw [cutL_map, List.map_append]; rfl
    -- for cell in script[:12] + [0]:
    refine b_cons (s_for (passes_of rfl) rfl (i_list (e_is (e_cat (e_slice (l := none) (h := some 12) (e_var 0 rfl) o_none (o_some e_int)) (e_lst (ds := [_]) (ea_cons e_int ea_nil)) (by rw [cutL_map, List.length_map]; show _ + 1 ≤ _; omega)) (congrArg (fun z => S.d (.list z)) eL))) (fun i γ' M' => M' = [] ∧ ∃ u1 u2 u3 u4 u5 u6, γ' = [.d (.list (ns.map PyData.int)), u1, .no, .no, .no, u2, u3, u4, u5, u6, .no]) ⟨rfl, _, _, _, _, _, _, rfl⟩ (fun _ _ _ _ => trivial) (fun i x γ2 M2 hx w => ?_) (fun γ2 M2 w => ?_))
    · obtain ⟨rfl, u1, u2, u3, u4, u5, u6, rfl⟩ := w
      obtain ⟨c, hc, rfl⟩ := map_at hx
      refine ⟨_, g_name 1 sc_law.nd, ?_⟩
      -- row_here = row(cell, 8)
      refine b_cons (s_setQ 5 sc_law.nd (q_call (ok_law_row T) (hr.mono (by decide)) T.g_law_row T.F_law_row.kp T.b_law_row tk (ea_cons (e_var 1 rfl) (ea_cons e_int ea_nil)) ⟨c, 8, rfl, by decide, fun ws hrl hrm => ?_⟩))
      have y0 := Int.emod_nonneg (ws.getD 6 0) (b := 31) (by decide)
      have y1 := Int.emod_lt_of_pos (ws.getD 6 0) (b := 31) (by decide)
      obtain ⟨n, hn, hn40, hn70⟩ : ∃ n : Nat, (40 : Int) + ws.getD 6 0 % 31 = (n : Int) ∧ 40 ≤ n ∧ n ≤ 70 := ⟨(40 + ws.getD 6 0 % 31).toNat, by omega, by omega, by omega⟩
      -- many = 40 + row_here[6] % 31
      refine b_cons (s_set 6 sc_law.nd (e_is (e_add e_int (e_mod (e_ix (e_var 5 rfl) e_int (itI (i := 6) (by omega))) e_int (by decide))) (congrArg (fun z => S.d (.int z)) hn)) ?_)
      -- rows_here = rows(many, row_here)
      refine b_cons (s_setQ 7 sc_law.nd (q_call (ok_law_rows T) (hr.mono (by decide)) T.g_law_rows T.F_law_rows.kp T.b_law_rows tk (ea_cons (e_var 6 rfl) (ea_cons (e_var 5 rfl) ea_nil)) ⟨n, ws, rfl, by omega, by omega, fun rs0 hs0 hz0 hd0 => ?_⟩))
      -- if deep(rows_here) > 4:
      refine b_cut (fun γ' M' => M' = [] ∧ ∃ (rs : List Rw), Q23 rs ∧ sizeL rs = n ∧ γ' = [.d (.list (ns.map PyData.int)), .d (.int c), .no, .no, .no, .d (.list (ws.map PyData.int)), .d (.int (n : Int)), .d (.tuple (rowsD rs)), u5, u6, .no]) (s_if (b1 := decide ((4 : Int) < ((deepL rs0 : Nat) : Int))) (t_gt (e_call (ok_law_deep T) (hr.mono (by decide)) T.g_law_deep T.F_law_deep.kp T.b_law_deep tk (ea_cons (e_var 7 rfl) ea_nil) ⟨rs0, rfl, hs0, Nat.le_trans hd0 (by decide), by omega, rfl, rfl⟩) e_int) (fun h1 => ?_) (fun h1 => ?_)) ?_
      · have hlefts : ((List.range n).map fun _ => Rw.left.D) = rowsD (List.replicate n .left) := repsN_D _ n
        obtain ⟨o1, o2⟩ := repsN_nums (r := .left) rfl rfl n
        -- rows_here = tuple([('left',) for k in range(many)])
        refine b_cons (s_set 7 sc_law.nd (e_is (e_tupleL (ds := (List.range n).map fun _ => Rw.left.D) rfl T.n_tuple (ea_cons (e_frz (ds := (List.range n).map fun _ => Rw.left.D) (n_compI 10 (List.range n) (fun j => PyData.int (0 + (j : Int))) (fun _ => Rw.left.D) rfl sc_law.nd (by rw [List.map_map]; exact i_range1 (hi := (n : Int)) rfl T.n_range (ea_cons (e_var 6 rfl) ea_nil) (by omega)) (blkOk_by rfl) (by exact (show 10 < 11 by decide)) (Nat.ble_eq_true_of_le (by rw [List.length_range]; omega)) (fun x hx M' s' H' C cl fp => e_is (e_tup (ds := [_]) (ea_cons e_str ea_nil)) (show _ = S.d Rw.left.D from rfl)) (hg := fun _ _ _ _ _ => pg_name sc_law.nd rfl (Or.inl rfl)))) ea_nil) .d) (congrArg (fun z => S.d (.tuple z)) hlefts)) ?_)
        exact b_nil ⟨rfl, _, Q23.of (s23_rep .left trivial n) o1 (by omega) (by omega) (by omega), o1, rfl⟩
      · have := of_decide_eq_false h1
        exact b_nil ⟨rfl, _, Q23.of hs0 hz0 (by omega) (by omega) (by omega), hz0, rfl⟩
      rintro _ _ ⟨rfl, rs, hQ, hz, rfl⟩
      -- due = [[rows_here], 'much'][int(many > 60)]
      refine b_cons (s_set 8 sc_law.nd (e_ix (d' := told23 rs false false) (e_lst (ds := [_, _]) (ea_cons (e_lst (ds := [_]) (ea_cons (e_var 7 rfl) ea_nil)) (ea_cons e_str ea_nil))) (e_intB rfl T.n_int (ea_cons (e_gt (e_var 6 rfl) e_int) ea_nil)) (told23_at rs hz)) ?_)
      have e8 : told23 rs false false = told23 rs false true := rfl
      -- dues = [due, due]
      refine b_cons (s_set 9 sc_law.nd (e_lst (ds := [told23 rs false false, told23 rs false true]) (ea_cons (e_var 8 rfl) (ea_cons (e_is (e_var 8 rfl) (congrArg S.d e8)) ea_nil))) ?_)
      -- if row_here[7] % 3 == 0:
      refine b_cut (fun γ' M' => M' = [] ∧ ∃ o : Bool, γ' = [.d (.list (ns.map PyData.int)), .d (.int c), .no, .no, .no, .d (.list (ws.map PyData.int)), .d (.int (n : Int)), .d (.tuple (rowsD rs ++ oddT o)), .d (told23 rs false false), .d (.list [told23 rs o false, told23 rs o true]), .no]) (s_if (b1 := decide (ws.getD 7 0 % 3 = 0)) (t_eqI hr (e_mod (e_ix (e_var 5 rfl) e_int (itI (i := 7) (by omega))) e_int (by decide)) e_int) (fun h1 => ?_) (fun h1 => ?_)) ?_
      · have q1 : PyData.tuple [.str "row", .int ((linesL rs : Nat) : Int)] = told23 rs true false := (told23_odd rs false).symm
        have q2 : PyData.tuple [.str "line", .int ((linesL rs : Nat) : Int)] = told23 rs true true := (told23_odd rs true).symm
        -- dues = [('row', numbers(rows_here)), ('line', numbers(rows_here))]
        refine b_cons (s_set 9 sc_law.nd (e_lst (ds := [told23 rs true false, told23 rs true true]) (ea_cons (e_is (e_tup (ds := [_, _]) (ea_cons e_str (ea_cons (e_call (ok_law_numbers T) (hr.mono (by decide)) T.g_law_numbers T.F_law_numbers.kp T.b_law_numbers tk (ea_cons (e_var 7 rfl) ea_nil) ⟨rs, rfl, hQ.s, Nat.le_trans hQ.d (by decide), rfl, rfl⟩) ea_nil))) (congrArg S.d q1)) (ea_cons (e_is (e_tup (ds := [_, _]) (ea_cons e_str (ea_cons (e_call (ok_law_numbers T) (hr.mono (by decide)) T.g_law_numbers T.F_law_numbers.kp T.b_law_numbers tk (ea_cons (e_var 7 rfl) ea_nil) ⟨rs, rfl, hQ.s, Nat.le_trans hQ.d (by decide), rfl, rfl⟩) ea_nil))) (congrArg S.d q2)) ea_nil))) ?_)
        have hlen : (rowsD rs).length ≤ 100 := by rw [rowsD_len]; exact Nat.le_trans (len_size rs) hQ.z
        -- rows_here = rows_here + (('forth',),)
        refine b_cons (s_set 7 sc_law.nd (e_catT (xs := rowsD rs) (ys := oddT true) (e_var 7 rfl) (e_tup (ds := [forthD]) (ea_cons (e_tup (ds := [_]) (ea_cons e_str ea_nil)) ea_nil)) (by show _ + 1 ≤ _; omega)) ?_)
        exact b_nil ⟨rfl, true, rfl⟩
      · exact b_nil ⟨rfl, false, by rw [show oddT false = [] from rfl, List.append_nil]; rfl⟩
      rintro _ _ ⟨rfl, o, rfl⟩
      have y1 := told23_lay hQ o false
      have y2 := told23_lay hQ o true
      -- if told(rows_here, False) != dues[0] or told(rows_here, True) != dues[1]:
      refine b_cons (s_if (b1 := false) (EW.t (w_or (b1 := false) (b2 := false) (t_is (t_ne (z := true) (d1 := told23 rs o false) (d2 := told23 rs o false) hr (e_call (ok_law_told T) (hr.mono (by decide)) T.g_law_told T.F_law_told.kp T.b_law_told tk (ea_cons (e_var 7 rfl) (ea_cons e_bl ea_nil)) ⟨rs, o, false, rfl, hQ, rfl, rfl⟩) (e_ix (d := .list [told23 rs o false, told23 rs o true]) (d' := told23 rs o false) (e_var 9 rfl) e_int rfl) .d .d y1.sh y1.sh y1.rfl) rfl) (fun _ => (w_or1 (t_is (t_ne (z := true) (d1 := told23 rs o true) (d2 := told23 rs o true) hr (e_call (ok_law_told T) (hr.mono (by decide)) T.g_law_told T.F_law_told.kp T.b_law_told tk (ea_cons (e_var 7 rfl) (ea_cons e_bl ea_nil)) ⟨rs, o, true, rfl, hQ, rfl, rfl⟩) (e_ix (d := .list [told23 rs o false, told23 rs o true]) (d' := told23 rs o true) (e_var 9 rfl) e_int rfl) .d .d y2.sh y2.sh y2.rfl) rfl))))) (fun h1 => nomatch h1) (fun _ => b_nil ?_))
      exact b_nil ⟨rfl, _, _, _, _, _, _, rfl⟩
    · obtain ⟨rfl, u1, u2, u3, u4, u5, u6, rfl⟩ := w
      have hdots : ((List.range 60).map fun _ => Rw.dot.D) = rowsD (List.replicate 60 .dot) := repsN_D _ 60
      obtain ⟨o1, o2⟩ := repsN_nums (r := .dot) rfl rfl 60
      obtain ⟨p1, p2⟩ := repsN_nums (r := .dot) rfl rfl 59
      have s60 := s23_rep .dot trivial 60
      have s59 := s23_rep .dot trivial 59
      have e59 : rowsD (List.replicate 60 Rw.dot) = Rw.dot.D :: rowsD (List.replicate 59 Rw.dot) := by rw [List.replicate_succ, rowsD]
      have hl60 : (rowsD (List.replicate 60 Rw.dot)).length = 60 := by rw [rowsD_len, List.length_replicate]
      -- flat = tuple([('dot',) for k in range(60)])
      refine b_cons (s_set 2 sc_law.nd (e_is (e_tupleL (ds := (List.range 60).map fun _ => Rw.dot.D) rfl T.n_tuple (ea_cons (e_frz (ds := (List.range 60).map fun _ => Rw.dot.D) (n_compI 10 (List.range 60) (fun j => PyData.int (0 + (j : Int))) (fun _ => Rw.dot.D) rfl sc_law.nd (by rw [List.map_map]; exact i_range1 (hi := ((60 : Nat) : Int)) rfl T.n_range (ea_cons e_int ea_nil) (by decide)) (blkOk_by rfl) (by exact (show 10 < 11 by decide)) (Nat.ble_eq_true_of_le (by rw [List.length_range]; decide)) (fun x hx M' s' H' C cl fp => e_is (e_tup (ds := [_]) (ea_cons e_str ea_nil)) (show _ = S.d Rw.dot.D from rfl)) (hg := fun _ _ _ _ _ => pg_name sc_law.nd rfl (Or.inl rfl)))) ea_nil) .d) (congrArg (fun z => S.d (.tuple z)) hdots)) ?_)
      generalize List.replicate 60 Rw.dot = f60 at o1 o2 s60 e59 hl60
      generalize List.replicate 59 Rw.dot = f59 at p1 p2 s59 e59
      -- block = (('again', 5, flat[1:]),)
      refine b_cons (s_set 3 sc_law.nd (e_is (e_tup (ds := [_]) (ea_cons (e_tup (ds := [_, _, _]) (ea_cons e_str (ea_cons e_int (ea_cons (e_is (e_sliceA (ds := Rw.dot.D :: rowsD f59) (l := some 1) (h := none) (e_is (e_var 2 rfl) (congrArg (fun z => S.d (.tuple z)) e59)) (o_some e_int) o_none) (congrArg (fun z => S.d (.tuple z)) (cut_tail _ _))) ea_nil)))) ea_nil)) (show _ = S.d (.tuple (rowsD [Rw.again 5 f59])) from rfl)) ?_)
      have q1 : Q23 f60 := Q23.of s60 o1 (by decide) (by decide) (by omega)
      have z2 : sizeL (f60 ++ [.dot]) = 61 := by rw [sizeL_app, o1]; rfl
      have q2 : Q23 (f60 ++ [.dot]) := Q23.of (s23_app s60 ⟨trivial, trivial⟩) z2 (by decide) (by decide) (by rw [deepL_app, o2]; decide)
      have s3 : s23L [Rw.again 5 f59] := by rw [s23L, Rw.s23]; exact ⟨⟨by decide, s59⟩, trivial⟩
      have z3 : sizeL [Rw.again 5 f59] = 60 := by rw [sizeL, Rw.size, p1]; rfl
      have d3 : deepL [Rw.again 5 f59] = 1 := by rw [deepL, Rw.deep, p2]; rfl
      have q3 : Q23 [Rw.again 5 f59] := Q23.of s3 z3 (by decide) (by decide) (by omega)
      have z4 : sizeL ([Rw.again 5 f59] ++ [.dot]) = 61 := by rw [sizeL_app, z3]; rfl
      have q4 : Q23 ([Rw.again 5 f59] ++ [.dot]) := Q23.of (s23_app s3 ⟨trivial, trivial⟩) z4 (by decide) (by decide) (by rw [deepL_app, d3]; decide)
      have app0 : ∀ xs : List PyData, xs = xs ++ oddT false := fun xs => (List.append_nil xs).symm
      have app1 : ∀ rs : List Rw, rowsD rs ++ [Rw.dot.D] = rowsD (rs ++ [.dot]) ++ oddT false := fun rs => by rw [← app0]; exact rowsD_app rs [.dot]
      -- for by_text in [False, True]:
      refine b_cons (s_for (passes_of rfl) rfl (i_list (e_lst (ds := [.bool false, .bool true]) (ea_cons e_bl (ea_cons e_bl ea_nil)))) (fun i γ' M' => M' = [] ∧ ∃ ub, γ' = [.d (.list (ns.map PyData.int)), u1, .d (.tuple (rowsD f60)), .d (.tuple (rowsD [Rw.again 5 f59])), ub, u2, u3, u4, u5, u6, .no]) ⟨rfl, _, rfl⟩ (fun _ _ _ _ => trivial) (fun i x γ2 M2 hx w => ?_) (fun γ2 M2 w => ?_))
      · obtain ⟨rfl, ub, rfl⟩ := w
        obtain ⟨b, rfl⟩ : ∃ b : Bool, x = .d (.bool b) := by
          rcases List.mem_cons.mp (List.mem_of_getElem? hx) with h | h
          · exact ⟨_, h⟩
          · exact ⟨_, List.mem_singleton.mp h⟩
        refine ⟨_, g_name 4 sc_law.nd, ?_⟩
        have t1 := told23_le (Nat.le_of_eq o1) b
        have t2 := told23_gt (by rw [z2]; decide : 60 < sizeL (f60 ++ [.dot])) b
        have t3 := told23_le (Nat.le_of_eq z3) b
        have t4 := told23_gt (by rw [z4]; decide : 60 < sizeL ([Rw.again 5 f59] ++ [.dot])) b
        have y1 := t1 ▸ told23_lay q1 false b
        have y2 := t2 ▸ told23_lay q2 false b
        have y3 := t3 ▸ told23_lay q3 false b
        have y4 := t4 ▸ told23_lay q4 false b
        -- if told(flat, by_text) != [flat] or told(flat + (('dot',),), by_text) != 'much':
        refine b_cons (s_if (b1 := false) (EW.t (w_or (b1 := false) (b2 := false) (t_is (t_ne (z := true) (d1 := .list [.tuple (rowsD f60)]) (d2 := .list [.tuple (rowsD f60)]) hr (e_call (ok_law_told T) (hr.mono (by decide)) T.g_law_told T.F_law_told.kp T.b_law_told tk (ea_cons (e_is (e_var 2 rfl) (congrArg (fun z => S.d (.tuple z)) (app0 _))) (ea_cons (e_var 4 rfl) ea_nil)) ⟨f60, false, b, rfl, q1, by rw [t1], rfl⟩) (e_lst (ds := [_]) (ea_cons (e_var 2 rfl) ea_nil)) .d .d y1.sh y1.sh y1.rfl) rfl) (fun _ => (w_or1 (t_is (t_ne (z := true) (d1 := .str "much") (d2 := .str "much") hr (e_call (ok_law_told T) (hr.mono (by decide)) T.g_law_told T.F_law_told.kp T.b_law_told tk (ea_cons (e_is (e_catT (xs := rowsD f60) (ys := [Rw.dot.D]) (e_var 2 rfl) (e_tup (ds := [Rw.dot.D]) (ea_cons (e_is (e_tup (ds := [_]) (ea_cons e_str ea_nil)) (show _ = S.d Rw.dot.D from rfl)) ea_nil)) (by rw [hl60]; decide)) (congrArg (fun z => S.d (.tuple z)) (app1 _))) (ea_cons (e_var 4 rfl) ea_nil)) ⟨f60 ++ [.dot], false, b, rfl, q2, by rw [t2], rfl⟩) e_str .d .d y2.sh y2.sh y2.rfl) rfl))))) (fun h1 => nomatch h1) (fun _ => b_nil ?_))
        -- if told(block, by_text) != [block] or told(block + (('dot',),), by_text) != 'much':
        refine b_cons (s_if (b1 := false) (EW.t (w_or (b1 := false) (b2 := false) (t_is (t_ne (z := true) (d1 := .list [.tuple (rowsD [Rw.again 5 f59])]) (d2 := .list [.tuple (rowsD [Rw.again 5 f59])]) hr (e_call (ok_law_told T) (hr.mono (by decide)) T.g_law_told T.F_law_told.kp T.b_law_told tk (ea_cons (e_is (e_var 3 rfl) (congrArg (fun z => S.d (.tuple z)) (app0 _))) (ea_cons (e_var 4 rfl) ea_nil)) ⟨[Rw.again 5 f59], false, b, rfl, q3, by rw [t3], rfl⟩) (e_lst (ds := [_]) (ea_cons (e_var 3 rfl) ea_nil)) .d .d y3.sh y3.sh y3.rfl) rfl) (fun _ => (w_or1 (t_is (t_ne (z := true) (d1 := .str "much") (d2 := .str "much") hr (e_call (ok_law_told T) (hr.mono (by decide)) T.g_law_told T.F_law_told.kp T.b_law_told tk (ea_cons (e_is (e_catT (xs := rowsD [Rw.again 5 f59]) (ys := [Rw.dot.D]) (e_var 3 rfl) (e_tup (ds := [Rw.dot.D]) (ea_cons (e_is (e_tup (ds := [_]) (ea_cons e_str ea_nil)) (show _ = S.d Rw.dot.D from rfl)) ea_nil)) (Nat.le_of_ble_eq_true rfl)) (congrArg (fun z => S.d (.tuple z)) (app1 _))) (ea_cons (e_var 4 rfl) ea_nil)) ⟨[Rw.again 5 f59] ++ [.dot], false, b, rfl, q4, by rw [t4], rfl⟩) e_str .d .d y4.sh y4.sh y4.rfl) rfl))))) (fun h1 => nomatch h1) (fun _ => b_nil ?_))
        exact b_nil ⟨rfl, _, rfl⟩
      · obtain ⟨rfl, ub, rfl⟩ := w
        -- return True
        refine b_cons (s_ret e_bl ?_)
        exact hR _

end
theorem all_mk {l : PySem.W.OpenLaw} {w : World} {K : PySem.W.Frag} {h : Heap} {mg : Str → Option Value} {fa f1 f2 f3 f4 f5 f6 f7 f8 f9 f10 f11 f12 f13 f14 f15 f16 f17 f18 f19 f20 f21 f22 f23 f24 f25 f26 f27 f28 f29 f30 f31 f32 f33 f34 f35 f36 f37 f38 f39 f40 f41 f42 f43 f44 f45 f46 f47 f48 C_MillError C_NoKin C_NoNumber C_NoPiece C_NoRow C_NoText C_TooMuch C_Looker C_Reader : Addr} (X : K.In h) (G : h.Ns mainGlobals mg) (hfa : mg "law" = some (.ref fa))
    {od1 an1 od2 an2 od3 an3 od4 an4 od5 an5 od6 an6 od7 an7 od8 an8 od9 an9 od10 an10 od11 an11 od12 an12 od13 an13 od14 an14 od15 an15 od16 an16 od17 an17 od18 an18 od19 an19 od20 an20 od21 an21 od22 an22 od23 an23 od24 an24 od25 an25 od26 an26 od27 an27 od28 an28 od29 an29 od30 an30 od31 an31 od32 an32 od33 an33 od34 an34 od35 an35 od36 an36 od37 an37 od38 an38 od39 an39 od40 an40 od41 an41 od42 an42 od43 an43 od44 an44 od45 an45 od46 an46 od47 an47 od48 an48 : Option Addr} {sl1 sl2 sl3 sl4 sl5 sl6 sl7 sl8 sl9 sl10 sl11 sl12 sl13 sl14 sl15 sl16 sl17 sl18 sl19 sl20 sl21 sl22 sl23 sl24 sl25 sl26 sl27 sl28 sl29 sl30 sl31 sl32 sl33 sl34 sl35 sl36 sl37 sl38 sl39 sl40 sl41 sl42 sl43 sl44 sl45 sl46 sl47 sl48 : Array (Option Value)} {oc1 kV1 dc1 pm1 cd1 ct1 oc2 kV2 dc2 pm2 cd2 ct2 oc3 kV3 dc3 pm3 cd3 ct3 oc4 kV4 dc4 pm4 cd4 ct4 oc5 kV5 dc5 pm5 cd5 ct5 oc6 kV6 dc6 pm6 cd6 ct6 oc7 kV7 dc7 pm7 cd7 ct7 oc8 kV8 dc8 pm8 cd8 ct8 oc9 kV9 dc9 pm9 cd9 ct9 oc10 kV10 dc10 pm10 cd10 ct10 oc11 kV11 dc11 pm11 cd11 ct11 oc12 kV12 dc12 pm12 cd12 ct12 oc13 kV13 dc13 pm13 cd13 ct13 oc14 kV14 dc14 pm14 cd14 ct14 oc15 kV15 dc15 pm15 cd15 ct15 oc16 kV16 dc16 pm16 cd16 ct16 oc17 kV17 dc17 pm17 cd17 ct17 oc18 kV18 dc18 pm18 cd18 ct18 oc19 kV19 dc19 pm19 cd19 ct19 oc20 kV20 dc20 pm20 cd20 ct20 oc21 kV21 dc21 pm21 cd21 ct21 oc22 kV22 dc22 pm22 cd22 ct22 oc23 kV23 dc23 pm23 cd23 ct23 oc24 kV24 dc24 pm24 cd24 ct24 oc25 kV25 dc25 pm25 cd25 ct25 oc26 kV26 dc26 pm26 cd26 ct26 oc27 kV27 dc27 pm27 cd27 ct27 oc28 kV28 dc28 pm28 cd28 ct28 oc29 kV29 dc29 pm29 cd29 ct29 oc30 kV30 dc30 pm30 cd30 ct30 oc31 kV31 dc31 pm31 cd31 ct31 oc32 kV32 dc32 pm32 cd32 ct32 oc33 kV33 dc33 pm33 cd33 ct33 oc34 kV34 dc34 pm34 cd34 ct34 oc35 kV35 dc35 pm35 cd35 ct35 oc36 kV36 dc36 pm36 cd36 ct36 oc37 kV37 dc37 pm37 cd37 ct37 oc38 kV38 dc38 pm38 cd38 ct38 oc39 kV39 dc39 pm39 cd39 ct39 oc40 kV40 dc40 pm40 cd40 ct40 oc41 kV41 dc41 pm41 cd41 ct41 oc42 kV42 dc42 pm42 cd42 ct42 oc43 kV43 dc43 pm43 cd43 ct43 oc44 kV44 dc44 pm44 cd44 ct44 oc45 kV45 dc45 pm45 cd45 ct45 oc46 kV46 dc46 pm46 cd46 ct46 oc47 kV47 dc47 pm47 cd47 ct47 oc48 kV48 dc48 pm48 cd48 ct48 : Value}
    {tk_DEEPEST tk_FIGURES tk_MOST_DONE tk_MOST_GROWN tk_MOST_ROUNDS tk_MOST_ROWS tk_MOST_SIZE_0 tk_MOST_SIZE_1 tk_NOUGHT_0_0 tk_NOUGHT_0_1 tk_NOUGHT_1_0 tk_NOUGHT_1_1 : Tok} {ad_MOST_SIZE ad_NOUGHT_0 ad_NOUGHT_1 ad_NOUGHT : Addr} {od_MOST_SIZE od_NOUGHT_0 od_NOUGHT_1 od_NOUGHT : Option Addr} {nn_MOST_SIZE nn_NOUGHT_0 nn_NOUGHT_1 nn_NOUGHT : Nat} {sl_MOST_SIZE sl_NOUGHT_0 sl_NOUGHT_1 sl_NOUGHT : Array (Option Value)}
    {df25 : Addr} {dfo25 : Option Addr} {dft25 : Tok} {dfn25 : Nat} {dfs25 : Array (Option Value)}
    {ad_NUMBERS : Addr} {es_NUMBERS : Array DictEntry} {nn_NUMBERS : Nat} {tk_NUMBERS_go tk_NUMBERS_skip tk_NUMBERS_side tk_NUMBERS_dot tk_NUMBERS_left tk_NUMBERS_right tk_NUMBERS_round tk_NUMBERS_mirror tk_NUMBERS_grow tk_NUMBERS_quarter tk_NUMBERS_half tk_NUMBERS_arc : Tok} {ad_TURNS : Addr} {es_TURNS : Array DictEntry} {nn_TURNS : Nat} {tk_TURNS_left tk_TURNS_round tk_TURNS_right : Tok}
    (a1 : PySem.W.nsIn K mainGlobals "_law_row" = some (some (.ref f1)))
    (l1 : K.lookup f1 = some ⟨oc1, od1, .func (PySem.W.fnOf "_law_row" "_law_row" (defArgs s_law_row) (defBody s_law_row) (defScope s_law_row) .none kV1 dc1 pm1 an1 cd1 ct1), sl1⟩)
    (c1 : PySem.W.codeIn K cd1 "_law_row" = true)
    (k1 : PySem.W.keepIn K (.ref f1) = true)
    (a2 : PySem.W.nsIn K mainGlobals "_law_rows" = some (some (.ref f2)))
    (l2 : K.lookup f2 = some ⟨oc2, od2, .func (PySem.W.fnOf "_law_rows" "_law_rows" (defArgs s_law_rows) (defBody s_law_rows) (defScope s_law_rows) .none kV2 dc2 pm2 an2 cd2 ct2), sl2⟩)
    (c2 : PySem.W.codeIn K cd2 "_law_rows" = true)
    (k2 : PySem.W.keepIn K (.ref f2) = true)
    (a3 : PySem.W.nsIn K mainGlobals "_law_deep" = some (some (.ref f3)))
    (l3 : K.lookup f3 = some ⟨oc3, od3, .func (PySem.W.fnOf "_law_deep" "_law_deep" (defArgs s_law_deep) (defBody s_law_deep) (defScope s_law_deep) .none kV3 dc3 pm3 an3 cd3 ct3), sl3⟩)
    (c3 : PySem.W.codeIn K cd3 "_law_deep" = true)
    (k3 : PySem.W.keepIn K (.ref f3) = true)
    (a4 : PySem.W.nsIn K mainGlobals "rows_in" = some (some (.ref f4)))
    (l4 : K.lookup f4 = some ⟨oc4, od4, .func (PySem.W.fnOf "rows_in" "rows_in" (defArgs s_rows_in) (defBody s_rows_in) (defScope s_rows_in) .none kV4 dc4 pm4 an4 cd4 ct4), sl4⟩)
    (c4 : PySem.W.codeIn K cd4 "rows_in" = true)
    (k4 : PySem.W.keepIn K (.ref f4) = true)
    (a5 : PySem.W.findIn K (.ref C_Looker) "__init__" = some (some (.ref f5)))
    (i5 : PySem.W.isFn K (.ref f5) = true)
    (l5 : K.lookup f5 = some ⟨oc5, od5, .func (PySem.W.fnOf "__init__" "Looker.__init__" (defArgs s_Looker_init) (defBody s_Looker_init) (defScope s_Looker_init) .none kV5 dc5 pm5 an5 cd5 ct5), sl5⟩)
    (c5 : PySem.W.codeIn K cd5 "Looker.__init__" = true)
    (k5 : PySem.W.keepIn K (.ref f5) = true)
    (a6 : PySem.W.nsIn K mainGlobals "word_of" = some (some (.ref f6)))
    (l6 : K.lookup f6 = some ⟨oc6, od6, .func (PySem.W.fnOf "word_of" "word_of" (defArgs s_word_of) (defBody s_word_of) (defScope s_word_of) .none kV6 dc6 pm6 an6 cd6 ct6), sl6⟩)
    (c6 : PySem.W.codeIn K cd6 "word_of" = true)
    (k6 : PySem.W.keepIn K (.ref f6) = true)
    (a7 : PySem.W.nsIn K mainGlobals "divisor" = some (some (.ref f7)))
    (l7 : K.lookup f7 = some ⟨oc7, od7, .func (PySem.W.fnOf "divisor" "divisor" (defArgs s_divisor) (defBody s_divisor) (defScope s_divisor) .none kV7 dc7 pm7 an7 cd7 ct7), sl7⟩)
    (c7 : PySem.W.codeIn K cd7 "divisor" = true)
    (k7 : PySem.W.keepIn K (.ref f7) = true)
    (a8 : PySem.W.nsIn K mainGlobals "ratio" = some (some (.ref f8)))
    (l8 : K.lookup f8 = some ⟨oc8, od8, .func (PySem.W.fnOf "ratio" "ratio" (defArgs s_ratio) (defBody s_ratio) (defScope s_ratio) .none kV8 dc8 pm8 an8 cd8 ct8), sl8⟩)
    (c8 : PySem.W.codeIn K cd8 "ratio" = true)
    (k8 : PySem.W.keepIn K (.ref f8) = true)
    (a9 : PySem.W.nsIn K mainGlobals "minus" = some (some (.ref f9)))
    (l9 : K.lookup f9 = some ⟨oc9, od9, .func (PySem.W.fnOf "minus" "minus" (defArgs s_minus) (defBody s_minus) (defScope s_minus) .none kV9 dc9 pm9 an9 cd9 ct9), sl9⟩)
    (c9 : PySem.W.codeIn K cd9 "minus" = true)
    (k9 : PySem.W.keepIn K (.ref f9) = true)
    (a10 : PySem.W.nsIn K mainGlobals "off" = some (some (.ref f10)))
    (l10 : K.lookup f10 = some ⟨oc10, od10, .func (PySem.W.fnOf "off" "off" (defArgs s_off) (defBody s_off) (defScope s_off) .none kV10 dc10 pm10 an10 cd10 ct10), sl10⟩)
    (c10 : PySem.W.codeIn K cd10 "off" = true)
    (k10 : PySem.W.keepIn K (.ref f10) = true)
    (a11 : PySem.W.nsIn K mainGlobals "plus" = some (some (.ref f11)))
    (l11 : K.lookup f11 = some ⟨oc11, od11, .func (PySem.W.fnOf "plus" "plus" (defArgs s_plus) (defBody s_plus) (defScope s_plus) .none kV11 dc11 pm11 an11 cd11 ct11), sl11⟩)
    (c11 : PySem.W.codeIn K cd11 "plus" = true)
    (k11 : PySem.W.keepIn K (.ref f11) = true)
    (a12 : PySem.W.nsIn K mainGlobals "times" = some (some (.ref f12)))
    (l12 : K.lookup f12 = some ⟨oc12, od12, .func (PySem.W.fnOf "times" "times" (defArgs s_times) (defBody s_times) (defScope s_times) .none kV12 dc12 pm12 an12 cd12 ct12), sl12⟩)
    (c12 : PySem.W.codeIn K cd12 "times" = true)
    (k12 : PySem.W.keepIn K (.ref f12) = true)
    (a13 : PySem.W.nsIn K mainGlobals "along" = some (some (.ref f13)))
    (l13 : K.lookup f13 = some ⟨oc13, od13, .func (PySem.W.fnOf "along" "along" (defArgs s_along) (defBody s_along) (defScope s_along) .none kV13 dc13 pm13 an13 cd13 ct13), sl13⟩)
    (c13 : PySem.W.codeIn K cd13 "along" = true)
    (k13 : PySem.W.keepIn K (.ref f13) = true)
    (a14 : PySem.W.nsIn K mainGlobals "far" = some (some (.ref f14)))
    (l14 : K.lookup f14 = some ⟨oc14, od14, .func (PySem.W.fnOf "far" "far" (defArgs s_far) (defBody s_far) (defScope s_far) .none kV14 dc14 pm14 an14 cd14 ct14), sl14⟩)
    (c14 : PySem.W.codeIn K cd14 "far" = true)
    (k14 : PySem.W.keepIn K (.ref f14) = true)
    (a15 : PySem.W.nsIn K mainGlobals "is_round" = some (some (.ref f15)))
    (l15 : K.lookup f15 = some ⟨oc15, od15, .func (PySem.W.fnOf "is_round" "is_round" (defArgs s_is_round) (defBody s_is_round) (defScope s_is_round) .none kV15 dc15 pm15 an15 cd15 ct15), sl15⟩)
    (c15 : PySem.W.codeIn K cd15 "is_round" = true)
    (k15 : PySem.W.keepIn K (.ref f15) = true)
    (a16 : PySem.W.nsIn K mainGlobals "is_whole" = some (some (.ref f16)))
    (l16 : K.lookup f16 = some ⟨oc16, od16, .func (PySem.W.fnOf "is_whole" "is_whole" (defArgs s_is_whole) (defBody s_is_whole) (defScope s_is_whole) .none kV16 dc16 pm16 an16 cd16 ct16), sl16⟩)
    (c16 : PySem.W.codeIn K cd16 "is_whole" = true)
    (k16 : PySem.W.keepIn K (.ref f16) = true)
    (a17 : PySem.W.nsIn K mainGlobals "is_fraction" = some (some (.ref f17)))
    (l17 : K.lookup f17 = some ⟨oc17, od17, .func (PySem.W.fnOf "is_fraction" "is_fraction" (defArgs s_is_fraction) (defBody s_is_fraction) (defScope s_is_fraction) .none kV17 dc17 pm17 an17 cd17 ct17), sl17⟩)
    (c17 : PySem.W.codeIn K cd17 "is_fraction" = true)
    (k17 : PySem.W.keepIn K (.ref f17) = true)
    (a18 : PySem.W.nsIn K mainGlobals "is_plain_row" = some (some (.ref f18)))
    (l18 : K.lookup f18 = some ⟨oc18, od18, .func (PySem.W.fnOf "is_plain_row" "is_plain_row" (defArgs s_is_plain_row) (defBody s_is_plain_row) (defScope s_is_plain_row) .none kV18 dc18 pm18 an18 cd18 ct18), sl18⟩)
    (c18 : PySem.W.codeIn K cd18 "is_plain_row" = true)
    (k18 : PySem.W.keepIn K (.ref f18) = true)
    (a19 : PySem.W.nsIn K mainGlobals "is_block" = some (some (.ref f19)))
    (l19 : K.lookup f19 = some ⟨oc19, od19, .func (PySem.W.fnOf "is_block" "is_block" (defArgs s_is_block) (defBody s_is_block) (defScope s_is_block) .none kV19 dc19 pm19 an19 cd19 ct19), sl19⟩)
    (c19 : PySem.W.codeIn K cd19 "is_block" = true)
    (k19 : PySem.W.keepIn K (.ref f19) = true)
    (a20 : PySem.W.nsIn K mainGlobals "size_by" = some (some (.ref f20)))
    (l20 : K.lookup f20 = some ⟨oc20, od20, .func (PySem.W.fnOf "size_by" "size_by" (defArgs s_size_by) (defBody s_size_by) (defScope s_size_by) .none kV20 dc20 pm20 an20 cd20 ct20), sl20⟩)
    (c20 : PySem.W.codeIn K cd20 "size_by" = true)
    (k20 : PySem.W.keepIn K (.ref f20) = true)
    (a21 : PySem.W.nsIn K mainGlobals "done_by" = some (some (.ref f21)))
    (l21 : K.lookup f21 = some ⟨oc21, od21, .func (PySem.W.fnOf "done_by" "done_by" (defArgs s_done_by) (defBody s_done_by) (defScope s_done_by) .none kV21 dc21 pm21 an21 cd21 ct21), sl21⟩)
    (c21 : PySem.W.codeIn K cd21 "done_by" = true)
    (k21 : PySem.W.keepIn K (.ref f21) = true)
    (a22 : PySem.W.nsIn K mainGlobals "below" = some (some (.ref f22)))
    (l22 : K.lookup f22 = some ⟨oc22, od22, .func (PySem.W.fnOf "below" "below" (defArgs s_below) (defBody s_below) (defScope s_below) .none kV22 dc22 pm22 an22 cd22 ct22), sl22⟩)
    (c22 : PySem.W.codeIn K cd22 "below" = true)
    (k22 : PySem.W.keepIn K (.ref f22) = true)
    (a23 : PySem.W.nsIn K mainGlobals "before" = some (some (.ref f23)))
    (l23 : K.lookup f23 = some ⟨oc23, od23, .func (PySem.W.fnOf "before" "before" (defArgs s_before) (defBody s_before) (defScope s_before) .none kV23 dc23 pm23 an23 cd23 ct23), sl23⟩)
    (c23 : PySem.W.codeIn K cd23 "before" = true)
    (k23 : PySem.W.keepIn K (.ref f23) = true)
    (a24 : PySem.W.nsIn K mainGlobals "stretch" = some (some (.ref f24)))
    (l24 : K.lookup f24 = some ⟨oc24, od24, .func (PySem.W.fnOf "stretch" "stretch" (defArgs s_stretch) (defBody s_stretch) (defScope s_stretch) .none kV24 dc24 pm24 an24 cd24 ct24), sl24⟩)
    (c24 : PySem.W.codeIn K cd24 "stretch" = true)
    (k24 : PySem.W.keepIn K (.ref f24) = true)
    (a25 : PySem.W.nsIn K mainGlobals "stood" = some (some (.ref f25)))
    (l25 : K.lookup f25 = some ⟨oc25, od25, .func (PySem.W.fnOf "stood" "stood" (defArgs s_stood) (defBody s_stood) (defScope s_stood) (.ref df25) kV25 dc25 pm25 an25 cd25 ct25), sl25⟩)
    (df_l25 : K.lookup df25 = some ⟨.type "tuple", dfo25, .seq #[.int 0 dft25] dfn25, dfs25⟩)
    (c25 : PySem.W.codeIn K cd25 "stood" = true)
    (k25 : PySem.W.keepIn K (.ref f25) = true)
    (a26 : PySem.W.nsIn K mainGlobals "straight" = some (some (.ref f26)))
    (l26 : K.lookup f26 = some ⟨oc26, od26, .func (PySem.W.fnOf "straight" "straight" (defArgs s_straight) (defBody s_straight) (defScope s_straight) .none kV26 dc26 pm26 an26 cd26 ct26), sl26⟩)
    (c26 : PySem.W.codeIn K cd26 "straight" = true)
    (k26 : PySem.W.keepIn K (.ref f26) = true)
    (a27 : PySem.W.nsIn K mainGlobals "arc" = some (some (.ref f27)))
    (l27 : K.lookup f27 = some ⟨oc27, od27, .func (PySem.W.fnOf "arc" "arc" (defArgs s_arc) (defBody s_arc) (defScope s_arc) .none kV27 dc27 pm27 an27 cd27 ct27), sl27⟩)
    (c27 : PySem.W.codeIn K cd27 "arc" = true)
    (k27 : PySem.W.keepIn K (.ref f27) = true)
    (a28 : PySem.W.nsIn K mainGlobals "bowed" = some (some (.ref f28)))
    (l28 : K.lookup f28 = some ⟨oc28, od28, .func (PySem.W.fnOf "bowed" "bowed" (defArgs s_bowed) (defBody s_bowed) (defScope s_bowed) .none kV28 dc28 pm28 an28 cd28 ct28), sl28⟩)
    (c28 : PySem.W.codeIn K cd28 "bowed" = true)
    (k28 : PySem.W.keepIn K (.ref f28) = true)
    (a29 : PySem.W.nsIn K mainGlobals "first" = some (some (.ref f29)))
    (l29 : K.lookup f29 = some ⟨oc29, od29, .func (PySem.W.fnOf "first" "first" (defArgs s_first) (defBody s_first) (defScope s_first) .none kV29 dc29 pm29 an29 cd29 ct29), sl29⟩)
    (c29 : PySem.W.codeIn K cd29 "first" = true)
    (k29 : PySem.W.keepIn K (.ref f29) = true)
    (a30 : PySem.W.nsIn K mainGlobals "shaped" = some (some (.ref f30)))
    (l30 : K.lookup f30 = some ⟨oc30, od30, .func (PySem.W.fnOf "shaped" "shaped" (defArgs s_shaped) (defBody s_shaped) (defScope s_shaped) .none kV30 dc30 pm30 an30 cd30 ct30), sl30⟩)
    (c30 : PySem.W.codeIn K cd30 "shaped" = true)
    (k30 : PySem.W.keepIn K (.ref f30) = true)
    (a31 : PySem.W.nsIn K mainGlobals "draws" = some (some (.ref f31)))
    (l31 : K.lookup f31 = some ⟨oc31, od31, .func (PySem.W.fnOf "draws" "draws" (defArgs s_draws) (defBody s_draws) (defScope s_draws) .none kV31 dc31 pm31 an31 cd31 ct31), sl31⟩)
    (c31 : PySem.W.codeIn K cd31 "draws" = true)
    (k31 : PySem.W.keepIn K (.ref f31) = true)
    (a32 : PySem.W.nsIn K mainGlobals "goes_on" = some (some (.ref f32)))
    (l32 : K.lookup f32 = some ⟨oc32, od32, .func (PySem.W.fnOf "goes_on" "goes_on" (defArgs s_goes_on) (defBody s_goes_on) (defScope s_goes_on) .none kV32 dc32 pm32 an32 cd32 ct32), sl32⟩)
    (c32 : PySem.W.codeIn K cd32 "goes_on" = true)
    (k32 : PySem.W.keepIn K (.ref f32) = true)
    (a33 : PySem.W.findIn K (.ref C_Reader) "__init__" = some (some (.ref f33)))
    (i33 : PySem.W.isFn K (.ref f33) = true)
    (l33 : K.lookup f33 = some ⟨oc33, od33, .func (PySem.W.fnOf "__init__" "Reader.__init__" (defArgs s_Reader_init) (defBody s_Reader_init) (defScope s_Reader_init) .none kV33 dc33 pm33 an33 cd33 ct33), sl33⟩)
    (c33 : PySem.W.codeIn K cd33 "Reader.__init__" = true)
    (k33 : PySem.W.keepIn K (.ref f33) = true)
    (a34 : PySem.W.findIn K (.ref C_NoRow) "__init__" = some (some (.ref f34)))
    (i34 : PySem.W.isFn K (.ref f34) = true)
    (l34 : K.lookup f34 = some ⟨oc34, od34, .func (PySem.W.fnOf "__init__" "NoRow.__init__" (defArgs s_NoRow_init) (defBody s_NoRow_init) (defScope s_NoRow_init) .none kV34 dc34 pm34 an34 cd34 ct34), sl34⟩)
    (c34 : PySem.W.codeIn K cd34 "NoRow.__init__" = true)
    (k34 : PySem.W.keepIn K (.ref f34) = true)
    (a35 : PySem.W.findIn K (.ref C_Looker) "look_into" = some (some (.ref f35)))
    (i35 : PySem.W.isFn K (.ref f35) = true)
    (l35 : K.lookup f35 = some ⟨oc35, od35, .func (PySem.W.fnOf "look_into" "Looker.look_into" (defArgs s_Looker_look_into) (defBody s_Looker_look_into) (defScope s_Looker_look_into) .none kV35 dc35 pm35 an35 cd35 ct35), sl35⟩)
    (c35 : PySem.W.codeIn K cd35 "Looker.look_into" = true)
    (k35 : PySem.W.keepIn K (.ref f35) = true)
    (a36 : PySem.W.findIn K (.ref C_Looker) "look_at" = some (some (.ref f36)))
    (i36 : PySem.W.isFn K (.ref f36) = true)
    (l36 : K.lookup f36 = some ⟨oc36, od36, .func (PySem.W.fnOf "look_at" "Looker.look_at" (defArgs s_Looker_look_at) (defBody s_Looker_look_at) (defScope s_Looker_look_at) .none kV36 dc36 pm36 an36 cd36 ct36), sl36⟩)
    (c36 : PySem.W.codeIn K cd36 "Looker.look_at" = true)
    (k36 : PySem.W.keepIn K (.ref f36) = true)
    (a37 : PySem.W.nsIn K mainGlobals "program_of" = some (some (.ref f37)))
    (l37 : K.lookup f37 = some ⟨oc37, od37, .func (PySem.W.fnOf "program_of" "program_of" (defArgs s_program_of) (defBody s_program_of) (defScope s_program_of) .none kV37 dc37 pm37 an37 cd37 ct37), sl37⟩)
    (c37 : PySem.W.codeIn K cd37 "program_of" = true)
    (k37 : PySem.W.keepIn K (.ref f37) = true)
    (a38 : PySem.W.nsIn K mainGlobals "whole_in" = some (some (.ref f38)))
    (l38 : K.lookup f38 = some ⟨oc38, od38, .func (PySem.W.fnOf "whole_in" "whole_in" (defArgs s_whole_in) (defBody s_whole_in) (defScope s_whole_in) .none kV38 dc38 pm38 an38 cd38 ct38), sl38⟩)
    (c38 : PySem.W.codeIn K cd38 "whole_in" = true)
    (k38 : PySem.W.keepIn K (.ref f38) = true)
    (a39 : PySem.W.nsIn K mainGlobals "fraction_in" = some (some (.ref f39)))
    (l39 : K.lookup f39 = some ⟨oc39, od39, .func (PySem.W.fnOf "fraction_in" "fraction_in" (defArgs s_fraction_in) (defBody s_fraction_in) (defScope s_fraction_in) .none kV39 dc39 pm39 an39 cd39 ct39), sl39⟩)
    (c39 : PySem.W.codeIn K cd39 "fraction_in" = true)
    (k39 : PySem.W.keepIn K (.ref f39) = true)
    (a40 : PySem.W.findIn K (.ref C_Reader) "closed" = some (some (.ref f40)))
    (i40 : PySem.W.isFn K (.ref f40) = true)
    (l40 : K.lookup f40 = some ⟨oc40, od40, .func (PySem.W.fnOf "closed" "Reader.closed" (defArgs s_Reader_closed) (defBody s_Reader_closed) (defScope s_Reader_closed) .none kV40 dc40 pm40 an40 cd40 ct40), sl40⟩)
    (c40 : PySem.W.codeIn K cd40 "Reader.closed" = true)
    (k40 : PySem.W.keepIn K (.ref f40) = true)
    (a41 : PySem.W.findIn K (.ref C_Reader) "opened" = some (some (.ref f41)))
    (i41 : PySem.W.isFn K (.ref f41) = true)
    (l41 : K.lookup f41 = some ⟨oc41, od41, .func (PySem.W.fnOf "opened" "Reader.opened" (defArgs s_Reader_opened) (defBody s_Reader_opened) (defScope s_Reader_opened) .none kV41 dc41 pm41 an41 cd41 ct41), sl41⟩)
    (c41 : PySem.W.codeIn K cd41 "Reader.opened" = true)
    (k41 : PySem.W.keepIn K (.ref f41) = true)
    (a42 : PySem.W.findIn K (.ref C_Reader) "read_line" = some (some (.ref f42)))
    (i42 : PySem.W.isFn K (.ref f42) = true)
    (l42 : K.lookup f42 = some ⟨oc42, od42, .func (PySem.W.fnOf "read_line" "Reader.read_line" (defArgs s_Reader_read_line) (defBody s_Reader_read_line) (defScope s_Reader_read_line) .none kV42 dc42 pm42 an42 cd42 ct42), sl42⟩)
    (c42 : PySem.W.codeIn K cd42 "Reader.read_line" = true)
    (k42 : PySem.W.keepIn K (.ref f42) = true)
    (a43 : PySem.W.findIn K (.ref C_NoText) "__init__" = some (some (.ref f43)))
    (i43 : PySem.W.isFn K (.ref f43) = true)
    (l43 : K.lookup f43 = some ⟨oc43, od43, .func (PySem.W.fnOf "__init__" "NoText.__init__" (defArgs s_NoText_init) (defBody s_NoText_init) (defScope s_NoText_init) .none kV43 dc43 pm43 an43 cd43 ct43), sl43⟩)
    (c43 : PySem.W.codeIn K cd43 "NoText.__init__" = true)
    (k43 : PySem.W.keepIn K (.ref f43) = true)
    (a44 : PySem.W.nsIn K mainGlobals "read" = some (some (.ref f44)))
    (l44 : K.lookup f44 = some ⟨oc44, od44, .func (PySem.W.fnOf "read" "read" (defArgs s_read) (defBody s_read) (defScope s_read) .none kV44 dc44 pm44 an44 cd44 ct44), sl44⟩)
    (c44 : PySem.W.codeIn K cd44 "read" = true)
    (k44 : PySem.W.keepIn K (.ref f44) = true)
    (a45 : PySem.W.nsIn K mainGlobals "_law_lines" = some (some (.ref f45)))
    (l45 : K.lookup f45 = some ⟨oc45, od45, .func (PySem.W.fnOf "_law_lines" "_law_lines" (defArgs s_law_lines) (defBody s_law_lines) (defScope s_law_lines) .none kV45 dc45 pm45 an45 cd45 ct45), sl45⟩)
    (c45 : PySem.W.codeIn K cd45 "_law_lines" = true)
    (k45 : PySem.W.keepIn K (.ref f45) = true)
    (a46 : PySem.W.nsIn K mainGlobals "_law_told" = some (some (.ref f46)))
    (l46 : K.lookup f46 = some ⟨oc46, od46, .func (PySem.W.fnOf "_law_told" "_law_told" (defArgs s_law_told) (defBody s_law_told) (defScope s_law_told) .none kV46 dc46 pm46 an46 cd46 ct46), sl46⟩)
    (c46 : PySem.W.codeIn K cd46 "_law_told" = true)
    (k46 : PySem.W.keepIn K (.ref f46) = true)
    (a47 : PySem.W.nsIn K mainGlobals "_law_numbers" = some (some (.ref f47)))
    (l47 : K.lookup f47 = some ⟨oc47, od47, .func (PySem.W.fnOf "_law_numbers" "_law_numbers" (defArgs s_law_numbers) (defBody s_law_numbers) (defScope s_law_numbers) .none kV47 dc47 pm47 an47 cd47 ct47), sl47⟩)
    (c47 : PySem.W.codeIn K cd47 "_law_numbers" = true)
    (k47 : PySem.W.keepIn K (.ref f47) = true)
    (a48 : PySem.W.nsIn K mainGlobals "law" = some (some (.ref f48)))
    (l48 : K.lookup f48 = some ⟨oc48, od48, .func (PySem.W.fnOf "law" "law" (defArgs s_law) (defBody s_law) (defScope s_law) .none kV48 dc48 pm48 an48 cd48 ct48), sl48⟩)
    (c48 : PySem.W.codeIn K cd48 "law" = true)
    (k48 : PySem.W.keepIn K (.ref f48) = true)
    (n_ValueError : PySem.W.nsIn K mainGlobals "ValueError" = some none)
    (n_abs : PySem.W.nsIn K mainGlobals "abs" = some none)
    (n_all : PySem.W.nsIn K mainGlobals "all" = some none)
    (n_bool : PySem.W.nsIn K mainGlobals "bool" = some none)
    (n_enumerate : PySem.W.nsIn K mainGlobals "enumerate" = some none)
    (n_int : PySem.W.nsIn K mainGlobals "int" = some none)
    (n_isinstance : PySem.W.nsIn K mainGlobals "isinstance" = some none)
    (n_len : PySem.W.nsIn K mainGlobals "len" = some none)
    (n_max : PySem.W.nsIn K mainGlobals "max" = some none)
    (n_min : PySem.W.nsIn K mainGlobals "min" = some none)
    (n_range : PySem.W.nsIn K mainGlobals "range" = some none)
    (n_str : PySem.W.nsIn K mainGlobals "str" = some none)
    (n_tuple : PySem.W.nsIn K mainGlobals "tuple" = some none)
    (m_DEEPEST : PySem.W.nsIn K mainGlobals "DEEPEST" = some (some (.int (4 : Int) tk_DEEPEST)))
    (m_FIGURES : PySem.W.nsIn K mainGlobals "FIGURES" = some (some (.str "0123456789" tk_FIGURES)))
    (m_MOST_DONE : PySem.W.nsIn K mainGlobals "MOST_DONE" = some (some (.int (300 : Int) tk_MOST_DONE)))
    (m_MOST_GROWN : PySem.W.nsIn K mainGlobals "MOST_GROWN" = some (some (.int (12 : Int) tk_MOST_GROWN)))
    (m_MOST_ROUNDS : PySem.W.nsIn K mainGlobals "MOST_ROUNDS" = some (some (.int (12 : Int) tk_MOST_ROUNDS)))
    (m_MOST_ROWS : PySem.W.nsIn K mainGlobals "MOST_ROWS" = some (some (.int (60 : Int) tk_MOST_ROWS)))
    (m_MOST_SIZE : PySem.W.nsIn K mainGlobals "MOST_SIZE" = some (some (.ref ad_MOST_SIZE)))
    (q_MOST_SIZE : K.lookup ad_MOST_SIZE = some ⟨.type "tuple", od_MOST_SIZE, .seq #[.int (3 : Int) tk_MOST_SIZE_0, .int (4 : Int) tk_MOST_SIZE_1] nn_MOST_SIZE, sl_MOST_SIZE⟩)
    (m_NOUGHT : PySem.W.nsIn K mainGlobals "NOUGHT" = some (some (.ref ad_NOUGHT)))
    (q_NOUGHT : K.lookup ad_NOUGHT = some ⟨.type "tuple", od_NOUGHT, .seq #[.ref ad_NOUGHT_0, .ref ad_NOUGHT_1] nn_NOUGHT, sl_NOUGHT⟩)
    (q_NOUGHT_1 : K.lookup ad_NOUGHT_1 = some ⟨.type "tuple", od_NOUGHT_1, .seq #[.int (0 : Int) tk_NOUGHT_1_0, .int (1 : Int) tk_NOUGHT_1_1] nn_NOUGHT_1, sl_NOUGHT_1⟩)
    (q_NOUGHT_0 : K.lookup ad_NOUGHT_0 = some ⟨.type "tuple", od_NOUGHT_0, .seq #[.int (0 : Int) tk_NOUGHT_0_0, .int (1 : Int) tk_NOUGHT_0_1] nn_NOUGHT_0, sl_NOUGHT_0⟩)
    (m_NUMBERS : PySem.W.nsIn K mainGlobals "NUMBERS" = some (some (.ref ad_NUMBERS)))
    (q_NUMBERS : K.lookup ad_NUMBERS = some ⟨.type "dict", none, .dict es_NUMBERS nn_NUMBERS, #[]⟩)
    (lit_NUMBERS : PySem.W.KeysLit w.params es_NUMBERS.toList)
    (low_NUMBERS : (ad_NUMBERS == sysModules) = false)
    (i_NUMBERS_go : PySem.W.nsIn K ad_NUMBERS "go" = some (some (.int 1 tk_NUMBERS_go)))
    (i_NUMBERS_skip : PySem.W.nsIn K ad_NUMBERS "skip" = some (some (.int 1 tk_NUMBERS_skip)))
    (i_NUMBERS_side : PySem.W.nsIn K ad_NUMBERS "side" = some (some (.int 2 tk_NUMBERS_side)))
    (i_NUMBERS_dot : PySem.W.nsIn K ad_NUMBERS "dot" = some (some (.int 0 tk_NUMBERS_dot)))
    (i_NUMBERS_left : PySem.W.nsIn K ad_NUMBERS "left" = some (some (.int 0 tk_NUMBERS_left)))
    (i_NUMBERS_right : PySem.W.nsIn K ad_NUMBERS "right" = some (some (.int 0 tk_NUMBERS_right)))
    (i_NUMBERS_round : PySem.W.nsIn K ad_NUMBERS "round" = some (some (.int 0 tk_NUMBERS_round)))
    (i_NUMBERS_mirror : PySem.W.nsIn K ad_NUMBERS "mirror" = some (some (.int 0 tk_NUMBERS_mirror)))
    (i_NUMBERS_grow : PySem.W.nsIn K ad_NUMBERS "grow" = some (some (.int 1 tk_NUMBERS_grow)))
    (i_NUMBERS_quarter : PySem.W.nsIn K ad_NUMBERS "quarter" = some (some (.int 1 tk_NUMBERS_quarter)))
    (i_NUMBERS_half : PySem.W.nsIn K ad_NUMBERS "half" = some (some (.int 1 tk_NUMBERS_half)))
    (i_NUMBERS_arc : PySem.W.nsIn K ad_NUMBERS "arc" = some (some (.int 4 tk_NUMBERS_arc)))
    (j_NUMBERS_again : PySem.W.nsIn K ad_NUMBERS "again" = some none)
    (j_NUMBERS_keep : PySem.W.nsIn K ad_NUMBERS "keep" = some none)
    (j_NUMBERS_ever : PySem.W.nsIn K ad_NUMBERS "ever" = some none)
    (ks_NUMBERS : keysS es_NUMBERS.toList = (["go", "skip", "side", "dot", "left", "right", "round", "mirror", "grow", "quarter", "half", "arc"] : List Str))
    (m_TURNS : PySem.W.nsIn K mainGlobals "TURNS" = some (some (.ref ad_TURNS)))
    (q_TURNS : K.lookup ad_TURNS = some ⟨.type "dict", none, .dict es_TURNS nn_TURNS, #[]⟩)
    (lit_TURNS : PySem.W.KeysLit w.params es_TURNS.toList)
    (low_TURNS : (ad_TURNS == sysModules) = false)
    (i_TURNS_left : PySem.W.nsIn K ad_TURNS "left" = some (some (.int 1 tk_TURNS_left)))
    (i_TURNS_round : PySem.W.nsIn K ad_TURNS "round" = some (some (.int 2 tk_TURNS_round)))
    (i_TURNS_right : PySem.W.nsIn K ad_TURNS "right" = some (some (.int 3 tk_TURNS_right)))
    (ks_TURNS : keysS es_TURNS.toList = (["left", "round", "right"] : List Str))
    (g_Looker : PySem.W.nsIn K mainGlobals "Looker" = some (some (.ref C_Looker)))
    (kp_Looker : PySem.W.keepIn K (.ref C_Looker) = true)
    (pg_Looker : PySem.W.plainGet K C_Looker Str.empty = true)
    (hd_Looker : PySem.W.hasDictIn K C_Looker = true)
    (po_Looker : PySem.W.plainOver K C_Looker = true)
    (sa_Looker : PySem.W.findIn K (.ref C_Looker) "__setattr__" = some (some (.builtin "object.__setattr__")))
    (na_Looker_number : PySem.W.findIn K (.ref C_Looker) "number" = some none)
    (g_Reader : PySem.W.nsIn K mainGlobals "Reader" = some (some (.ref C_Reader)))
    (kp_Reader : PySem.W.keepIn K (.ref C_Reader) = true)
    (pg_Reader : PySem.W.plainGet K C_Reader Str.empty = true)
    (hd_Reader : PySem.W.hasDictIn K C_Reader = true)
    (po_Reader : PySem.W.plainOver K C_Reader = true)
    (sa_Reader : PySem.W.findIn K (.ref C_Reader) "__setattr__" = some (some (.builtin "object.__setattr__")))
    (na_Reader_heads : PySem.W.findIn K (.ref C_Reader) "heads" = some none)
    (na_Reader_rows : PySem.W.findIn K (.ref C_Reader) "rows" = some none)
    (mk_Looker : PySem.W.makesIn K C_Looker = true)
    (mk_Reader : PySem.W.makesIn K C_Reader = true)
    (g_MillError : PySem.W.nsIn K mainGlobals "MillError" = some (some (.ref C_MillError)))
    (kp_MillError : PySem.W.keepIn K (.ref C_MillError) = true)
    (g_NoKin : PySem.W.nsIn K mainGlobals "NoKin" = some (some (.ref C_NoKin)))
    (kp_NoKin : PySem.W.keepIn K (.ref C_NoKin) = true)
    (g_NoNumber : PySem.W.nsIn K mainGlobals "NoNumber" = some (some (.ref C_NoNumber)))
    (kp_NoNumber : PySem.W.keepIn K (.ref C_NoNumber) = true)
    (g_NoPiece : PySem.W.nsIn K mainGlobals "NoPiece" = some (some (.ref C_NoPiece)))
    (kp_NoPiece : PySem.W.keepIn K (.ref C_NoPiece) = true)
    (g_NoRow : PySem.W.nsIn K mainGlobals "NoRow" = some (some (.ref C_NoRow)))
    (kp_NoRow : PySem.W.keepIn K (.ref C_NoRow) = true)
    (g_NoText : PySem.W.nsIn K mainGlobals "NoText" = some (some (.ref C_NoText)))
    (kp_NoText : PySem.W.keepIn K (.ref C_NoText) = true)
    (g_TooMuch : PySem.W.nsIn K mainGlobals "TooMuch" = some (some (.ref C_TooMuch)))
    (kp_TooMuch : PySem.W.keepIn K (.ref C_TooMuch) = true)
    (s_MillError : PySem.W.subIn K (.ref C_MillError) (.type "BaseException") = some true)
    (t_MillError : PySem.W.typeIn K (.ref C_MillError) = some (.type "type"))
    (d_MillError : PySem.W.hasDictIn K C_MillError = true)
    (s_NoKin : PySem.W.subIn K (.ref C_NoKin) (.type "BaseException") = some true)
    (t_NoKin : PySem.W.typeIn K (.ref C_NoKin) = some (.type "type"))
    (d_NoKin : PySem.W.hasDictIn K C_NoKin = true)
    (s_NoNumber : PySem.W.subIn K (.ref C_NoNumber) (.type "BaseException") = some true)
    (t_NoNumber : PySem.W.typeIn K (.ref C_NoNumber) = some (.type "type"))
    (d_NoNumber : PySem.W.hasDictIn K C_NoNumber = true)
    (s_NoPiece : PySem.W.subIn K (.ref C_NoPiece) (.type "BaseException") = some true)
    (t_NoPiece : PySem.W.typeIn K (.ref C_NoPiece) = some (.type "type"))
    (d_NoPiece : PySem.W.hasDictIn K C_NoPiece = true)
    (s_NoRow : PySem.W.subIn K (.ref C_NoRow) (.type "BaseException") = some true)
    (t_NoRow : PySem.W.typeIn K (.ref C_NoRow) = some (.type "type"))
    (d_NoRow : PySem.W.hasDictIn K C_NoRow = true)
    (s_NoText : PySem.W.subIn K (.ref C_NoText) (.type "BaseException") = some true)
    (t_NoText : PySem.W.typeIn K (.ref C_NoText) = some (.type "type"))
    (d_NoText : PySem.W.hasDictIn K C_NoText = true)
    (s_TooMuch : PySem.W.subIn K (.ref C_TooMuch) (.type "BaseException") = some true)
    (t_TooMuch : PySem.W.typeIn K (.ref C_TooMuch) = some (.type "type"))
    (d_TooMuch : PySem.W.hasDictIn K C_TooMuch = true)
    (x_NoNumber : PySem.W.excIn K C_NoNumber [.type "ValueError", .type "Exception", .type "BaseException", .type "object"] "ValueError.__new__" = true)
    (v_NoNumber : PySem.W.subIn K (.ref C_NoNumber) (.type "ValueError") = some true)
    (hg_NoNumber : PySem.W.findIn K (.ref C_NoNumber) "__getattribute__" = some (some (.builtin "BaseException.__getattribute__")))
    (hk_NoNumber : PySem.W.findIn K (.ref C_NoNumber) "__getattr__" = some none)
    (ha_NoNumber : PySem.W.findIn K (.ref C_NoNumber) "__class__" = some (some (.builtin "object.__class__")))
    (hm_NoNumber : PySem.W.mroIn K C_NoNumber (.type "object") = some true)
    (sub_NoNumber_MillError : PySem.W.subIn K (.ref C_NoNumber) (.ref C_MillError) = some true)
    (sub_NoNumber_NoKin : PySem.W.subIn K (.ref C_NoNumber) (.ref C_NoKin) = some false)
    (ne_NoNumber_NoKin : (Value.ref C_NoNumber == Value.ref C_NoKin) = false)
    (sub_NoNumber_NoPiece : PySem.W.subIn K (.ref C_NoNumber) (.ref C_NoPiece) = some false)
    (ne_NoNumber_NoPiece : (Value.ref C_NoNumber == Value.ref C_NoPiece) = false)
    (sub_NoNumber_NoRow : PySem.W.subIn K (.ref C_NoNumber) (.ref C_NoRow) = some false)
    (ne_NoNumber_NoRow : (Value.ref C_NoNumber == Value.ref C_NoRow) = false)
    (sub_NoNumber_NoText : PySem.W.subIn K (.ref C_NoNumber) (.ref C_NoText) = some false)
    (ne_NoNumber_NoText : (Value.ref C_NoNumber == Value.ref C_NoText) = false)
    (sub_NoNumber_TooMuch : PySem.W.subIn K (.ref C_NoNumber) (.ref C_TooMuch) = some false)
    (ne_NoNumber_TooMuch : (Value.ref C_NoNumber == Value.ref C_TooMuch) = false)
    (x_NoPiece : PySem.W.excIn K C_NoPiece [.type "ValueError", .type "Exception", .type "BaseException", .type "object"] "ValueError.__new__" = true)
    (v_NoPiece : PySem.W.subIn K (.ref C_NoPiece) (.type "ValueError") = some true)
    (hg_NoPiece : PySem.W.findIn K (.ref C_NoPiece) "__getattribute__" = some (some (.builtin "BaseException.__getattribute__")))
    (hk_NoPiece : PySem.W.findIn K (.ref C_NoPiece) "__getattr__" = some none)
    (ha_NoPiece : PySem.W.findIn K (.ref C_NoPiece) "__class__" = some (some (.builtin "object.__class__")))
    (hm_NoPiece : PySem.W.mroIn K C_NoPiece (.type "object") = some true)
    (sub_NoPiece_MillError : PySem.W.subIn K (.ref C_NoPiece) (.ref C_MillError) = some true)
    (sub_NoPiece_NoKin : PySem.W.subIn K (.ref C_NoPiece) (.ref C_NoKin) = some false)
    (ne_NoPiece_NoKin : (Value.ref C_NoPiece == Value.ref C_NoKin) = false)
    (sub_NoPiece_NoNumber : PySem.W.subIn K (.ref C_NoPiece) (.ref C_NoNumber) = some false)
    (ne_NoPiece_NoNumber : (Value.ref C_NoPiece == Value.ref C_NoNumber) = false)
    (sub_NoPiece_NoRow : PySem.W.subIn K (.ref C_NoPiece) (.ref C_NoRow) = some false)
    (ne_NoPiece_NoRow : (Value.ref C_NoPiece == Value.ref C_NoRow) = false)
    (sub_NoPiece_NoText : PySem.W.subIn K (.ref C_NoPiece) (.ref C_NoText) = some false)
    (ne_NoPiece_NoText : (Value.ref C_NoPiece == Value.ref C_NoText) = false)
    (sub_NoPiece_TooMuch : PySem.W.subIn K (.ref C_NoPiece) (.ref C_TooMuch) = some false)
    (ne_NoPiece_TooMuch : (Value.ref C_NoPiece == Value.ref C_TooMuch) = false)
    (o_NoRow : oexB K C_NoRow = true)
    (xs_NoRow : PySem.W.findIn K (.ref C_NoRow) "__setattr__" = some (some (.builtin "object.__setattr__")))
    (sub_NoRow_NoRow : PySem.W.subIn K (.ref C_NoRow) (.ref C_NoRow) = some true)
    (ci_NoRow : (PySem.W.clsIn K C_NoRow).isSome = true)
    (nf_NoRow : PySem.W.findIn K (.ref C_NoRow) "row" = some none)
    (bga_MillError : PySem.W.specialIn K (.ref C_MillError) "__getattribute__" = some (some (.builtin "type.__getattribute__")))
    (br_MillError : PySem.W.readsIn K C_MillError (.type "type") = true)
    (bi_MillError : PySem.W.findCls K (.ref C_MillError) (.type "type") "__init__" = some (.val (.builtin "ValueError.__init__")))
    (v_NoRow : PySem.W.subIn K (.ref C_NoRow) (.type "ValueError") = some true)
    (hg_NoRow : PySem.W.findIn K (.ref C_NoRow) "__getattribute__" = some (some (.builtin "BaseException.__getattribute__")))
    (hk_NoRow : PySem.W.findIn K (.ref C_NoRow) "__getattr__" = some none)
    (ha_NoRow : PySem.W.findIn K (.ref C_NoRow) "__class__" = some (some (.builtin "object.__class__")))
    (hm_NoRow : PySem.W.mroIn K C_NoRow (.type "object") = some true)
    (sub_NoRow_MillError : PySem.W.subIn K (.ref C_NoRow) (.ref C_MillError) = some true)
    (sub_NoRow_NoKin : PySem.W.subIn K (.ref C_NoRow) (.ref C_NoKin) = some false)
    (ne_NoRow_NoKin : (Value.ref C_NoRow == Value.ref C_NoKin) = false)
    (sub_NoRow_NoNumber : PySem.W.subIn K (.ref C_NoRow) (.ref C_NoNumber) = some false)
    (ne_NoRow_NoNumber : (Value.ref C_NoRow == Value.ref C_NoNumber) = false)
    (sub_NoRow_NoPiece : PySem.W.subIn K (.ref C_NoRow) (.ref C_NoPiece) = some false)
    (ne_NoRow_NoPiece : (Value.ref C_NoRow == Value.ref C_NoPiece) = false)
    (sub_NoRow_NoText : PySem.W.subIn K (.ref C_NoRow) (.ref C_NoText) = some false)
    (ne_NoRow_NoText : (Value.ref C_NoRow == Value.ref C_NoText) = false)
    (sub_NoRow_TooMuch : PySem.W.subIn K (.ref C_NoRow) (.ref C_TooMuch) = some false)
    (ne_NoRow_TooMuch : (Value.ref C_NoRow == Value.ref C_TooMuch) = false)
    (o_NoText : oexB K C_NoText = true)
    (xs_NoText : PySem.W.findIn K (.ref C_NoText) "__setattr__" = some (some (.builtin "object.__setattr__")))
    (sub_NoText_NoText : PySem.W.subIn K (.ref C_NoText) (.ref C_NoText) = some true)
    (ci_NoText : (PySem.W.clsIn K C_NoText).isSome = true)
    (nf_NoText : PySem.W.findIn K (.ref C_NoText) "line" = some none)
    (v_NoText : PySem.W.subIn K (.ref C_NoText) (.type "ValueError") = some true)
    (hg_NoText : PySem.W.findIn K (.ref C_NoText) "__getattribute__" = some (some (.builtin "BaseException.__getattribute__")))
    (hk_NoText : PySem.W.findIn K (.ref C_NoText) "__getattr__" = some none)
    (ha_NoText : PySem.W.findIn K (.ref C_NoText) "__class__" = some (some (.builtin "object.__class__")))
    (hm_NoText : PySem.W.mroIn K C_NoText (.type "object") = some true)
    (sub_NoText_MillError : PySem.W.subIn K (.ref C_NoText) (.ref C_MillError) = some true)
    (sub_NoText_NoKin : PySem.W.subIn K (.ref C_NoText) (.ref C_NoKin) = some false)
    (ne_NoText_NoKin : (Value.ref C_NoText == Value.ref C_NoKin) = false)
    (sub_NoText_NoNumber : PySem.W.subIn K (.ref C_NoText) (.ref C_NoNumber) = some false)
    (ne_NoText_NoNumber : (Value.ref C_NoText == Value.ref C_NoNumber) = false)
    (sub_NoText_NoPiece : PySem.W.subIn K (.ref C_NoText) (.ref C_NoPiece) = some false)
    (ne_NoText_NoPiece : (Value.ref C_NoText == Value.ref C_NoPiece) = false)
    (sub_NoText_NoRow : PySem.W.subIn K (.ref C_NoText) (.ref C_NoRow) = some false)
    (ne_NoText_NoRow : (Value.ref C_NoText == Value.ref C_NoRow) = false)
    (sub_NoText_TooMuch : PySem.W.subIn K (.ref C_NoText) (.ref C_TooMuch) = some false)
    (ne_NoText_TooMuch : (Value.ref C_NoText == Value.ref C_TooMuch) = false)
    (x_TooMuch : PySem.W.excIn K C_TooMuch [.type "ValueError", .type "Exception", .type "BaseException", .type "object"] "ValueError.__new__" = true)
    (v_TooMuch : PySem.W.subIn K (.ref C_TooMuch) (.type "ValueError") = some true)
    (hg_TooMuch : PySem.W.findIn K (.ref C_TooMuch) "__getattribute__" = some (some (.builtin "BaseException.__getattribute__")))
    (hk_TooMuch : PySem.W.findIn K (.ref C_TooMuch) "__getattr__" = some none)
    (ha_TooMuch : PySem.W.findIn K (.ref C_TooMuch) "__class__" = some (some (.builtin "object.__class__")))
    (hm_TooMuch : PySem.W.mroIn K C_TooMuch (.type "object") = some true)
    (sub_TooMuch_MillError : PySem.W.subIn K (.ref C_TooMuch) (.ref C_MillError) = some true)
    (sub_TooMuch_NoKin : PySem.W.subIn K (.ref C_TooMuch) (.ref C_NoKin) = some false)
    (ne_TooMuch_NoKin : (Value.ref C_TooMuch == Value.ref C_NoKin) = false)
    (sub_TooMuch_NoNumber : PySem.W.subIn K (.ref C_TooMuch) (.ref C_NoNumber) = some false)
    (ne_TooMuch_NoNumber : (Value.ref C_TooMuch == Value.ref C_NoNumber) = false)
    (sub_TooMuch_NoPiece : PySem.W.subIn K (.ref C_TooMuch) (.ref C_NoPiece) = some false)
    (ne_TooMuch_NoPiece : (Value.ref C_TooMuch == Value.ref C_NoPiece) = false)
    (sub_TooMuch_NoRow : PySem.W.subIn K (.ref C_TooMuch) (.ref C_NoRow) = some false)
    (ne_TooMuch_NoRow : (Value.ref C_TooMuch == Value.ref C_NoRow) = false)
    (sub_TooMuch_NoText : PySem.W.subIn K (.ref C_TooMuch) (.ref C_NoText) = some false)
    (ne_TooMuch_NoText : (Value.ref C_TooMuch == Value.ref C_NoText) = false)
    (e_hn : PySem.W.specialIn K (.builtin "object.__class__") "__get__" = some (some (.builtin "getset_descriptor.__get__")))
    (e_ht : PySem.W.takesIn K (.builtin "object.__class__") = some true)
    : ∃ fd : FuncData, (∀ (s : Shared) (v : Value), BindsTo s fd ⟨[v], []⟩ [("_law_script", v)]) ∧ ∀ base : Heap, K.In base → base.Ns mainGlobals mg → FnOk l.prog w K mg base (L2.CX l.prog w) 65 fa fd ["_law_script"] (spD K lawC) := by
  have e := hfa.symm.trans (PySem.W.mg_of X G a48)
  cases e
  have F1 := fun_mk (st := s_law_row) l1 c1 k1
  have b1 := F1.binds (ps := ["_law_cell", "_law_many"]) fun _ _ _ _ _ _ us hl => match us, hl with | [_, _], _ => rfl
  have F2 := fun_mk (st := s_law_rows) l2 c2 k2
  have b2 := F2.binds (ps := ["_law_many", "_law_row_here"]) fun _ _ _ _ _ _ us hl => match us, hl with | [_, _], _ => rfl
  have F3 := fun_mk (st := s_law_deep) l3 c3 k3
  have b3 := F3.binds (ps := ["_law_rows_here"]) fun _ _ _ _ _ _ us hl => match us, hl with | [_], _ => rfl
  have F4 := fun_mk (st := s_rows_in) l4 c4 k4
  have b4 := F4.binds (ps := ["rows"]) fun _ _ _ _ _ _ us hl => match us, hl with | [_], _ => rfl
  have F5 := fun_mk (st := s_Looker_init) l5 c5 k5
  have b5 := F5.binds (ps := ["self"]) fun _ _ _ _ _ _ us hl => match us, hl with | [_], _ => rfl
  have F6 := fun_mk (st := s_word_of) l6 c6 k6
  have b6 := F6.binds (ps := ["row"]) fun _ _ _ _ _ _ us hl => match us, hl with | [_], _ => rfl
  have F7 := fun_mk (st := s_divisor) l7 c7 k7
  have b7 := F7.binds (ps := ["one", "other"]) fun _ _ _ _ _ _ us hl => match us, hl with | [_, _], _ => rfl
  have F8 := fun_mk (st := s_ratio) l8 c8 k8
  have b8 := F8.binds (ps := ["top", "bottom"]) fun _ _ _ _ _ _ us hl => match us, hl with | [_, _], _ => rfl
  have F9 := fun_mk (st := s_minus) l9 c9 k9
  have b9 := F9.binds (ps := ["one", "other"]) fun _ _ _ _ _ _ us hl => match us, hl with | [_, _], _ => rfl
  have F10 := fun_mk (st := s_off) l10 c10 k10
  have b10 := F10.binds (ps := ["p", "q"]) fun _ _ _ _ _ _ us hl => match us, hl with | [_, _], _ => rfl
  have F11 := fun_mk (st := s_plus) l11 c11 k11
  have b11 := F11.binds (ps := ["one", "other"]) fun _ _ _ _ _ _ us hl => match us, hl with | [_, _], _ => rfl
  have F12 := fun_mk (st := s_times) l12 c12 k12
  have b12 := F12.binds (ps := ["one", "other"]) fun _ _ _ _ _ _ us hl => match us, hl with | [_, _], _ => rfl
  have F13 := fun_mk (st := s_along) l13 c13 k13
  have b13 := F13.binds (ps := ["p", "q"]) fun _ _ _ _ _ _ us hl => match us, hl with | [_, _], _ => rfl
  have F14 := fun_mk (st := s_far) l14 c14 k14
  have b14 := F14.binds (ps := ["p", "q"]) fun _ _ _ _ _ _ us hl => match us, hl with | [_, _], _ => rfl
  have F15 := fun_mk (st := s_is_round) l15 c15 k15
  have b15 := F15.binds (ps := ["row"]) fun _ _ _ _ _ _ us hl => match us, hl with | [_], _ => rfl
  have F16 := fun_mk (st := s_is_whole) l16 c16 k16
  have b16 := F16.binds (ps := ["thing"]) fun _ _ _ _ _ _ us hl => match us, hl with | [_], _ => rfl
  have F17 := fun_mk (st := s_is_fraction) l17 c17 k17
  have b17 := F17.binds (ps := ["thing"]) fun _ _ _ _ _ _ us hl => match us, hl with | [_], _ => rfl
  have F18 := fun_mk (st := s_is_plain_row) l18 c18 k18
  have b18 := F18.binds (ps := ["row"]) fun _ _ _ _ _ _ us hl => match us, hl with | [_], _ => rfl
  have F19 := fun_mk (st := s_is_block) l19 c19 k19
  have b19 := F19.binds (ps := ["row"]) fun _ _ _ _ _ _ us hl => match us, hl with | [_], _ => rfl
  have F20 := fun_mk (st := s_size_by) l20 c20 k20
  have b20 := F20.binds (ps := ["rows"]) fun _ _ _ _ _ _ us hl => match us, hl with | [_], _ => rfl
  have F21 := fun_mk (st := s_done_by) l21 c21 k21
  have b21 := F21.binds (ps := ["rows"]) fun _ _ _ _ _ _ us hl => match us, hl with | [_], _ => rfl
  have F22 := fun_mk (st := s_below) l22 c22 k22
  have b22 := F22.binds (ps := ["one", "other"]) fun _ _ _ _ _ _ us hl => match us, hl with | [_, _], _ => rfl
  have F23 := fun_mk (st := s_before) l23 c23 k23
  have b23 := F23.binds (ps := ["p", "q"]) fun _ _ _ _ _ _ us hl => match us, hl with | [_, _], _ => rfl
  have F24 := fun_mk (st := s_stretch) l24 c24 k24
  have b24 := F24.binds (ps := ["p", "q"]) fun _ _ _ _ _ _ us hl => match us, hl with | [_, _], _ => rfl
  have F25 : FunD K "stood" "stood" (defArgs s_stood) (defBody s_stood) (defScope s_stood) [.int 0] [] f25 _ := ⟨⟨_, _, _, _, _, _, _, _, _, _, rfl, l25, c25, dfl_int df_l25, .inl rfl⟩, k25⟩
  obtain ⟨dz25, vz25, b25⟩ := FunD.binds1 (ps := ["place", "turns"]) F25 2 1 (fun z => nomatch z) rfl (fun _ _ _ _ _ _ _ us its hu hi => match us, its, hu, hi with | [_, _], [_], _, _ => ⟨_, rfl, rfl⟩)
  cases vz25
  obtain ⟨ds25, dv25, bd25⟩ := FunD.binds1 (ps := ["place", "turns"]) F25 1 0 (fun z => nomatch z) rfl (fun _ _ _ _ _ _ _ us its hu hi => match us, its, hu, hi with | [_], [_], _, _ => ⟨_, rfl, rfl⟩)
  have F26 := fun_mk (st := s_straight) l26 c26 k26
  have b26 := F26.binds (ps := ["p"]) fun _ _ _ _ _ _ us hl => match us, hl with | [_], _ => rfl
  have F27 := fun_mk (st := s_arc) l27 c27 k27
  have b27 := F27.binds (ps := ["c", "p", "q"]) fun _ _ _ _ _ _ us hl => match us, hl with | [_, _, _], _ => rfl
  have F28 := fun_mk (st := s_bowed) l28 c28 k28
  have b28 := F28.binds (ps := ["number", "p", "turns"]) fun _ _ _ _ _ _ us hl => match us, hl with | [_, _, _], _ => rfl
  have F29 := fun_mk (st := s_first) l29 c29 k29
  have b29 := F29.binds (ps := []) fun _ _ _ _ _ _ us hl => match us, hl with | [], _ => rfl
  have F30 := fun_mk (st := s_shaped) l30 c30 k30
  have b30 := F30.binds (ps := ["row"]) fun _ _ _ _ _ _ us hl => match us, hl with | [_], _ => rfl
  have F31 := fun_mk (st := s_draws) l31 c31 k31
  have b31 := F31.binds (ps := ["rows"]) fun _ _ _ _ _ _ us hl => match us, hl with | [_], _ => rfl
  have F32 := fun_mk (st := s_goes_on) l32 c32 k32
  have b32 := F32.binds (ps := ["rows"]) fun _ _ _ _ _ _ us hl => match us, hl with | [_], _ => rfl
  have F33 := fun_mk (st := s_Reader_init) l33 c33 k33
  have b33 := F33.binds (ps := ["self"]) fun _ _ _ _ _ _ us hl => match us, hl with | [_], _ => rfl
  have F34 := fun_mk (st := s_NoRow_init) l34 c34 k34
  have b34 := F34.binds (ps := ["self", "row"]) fun _ _ _ _ _ _ us hl => match us, hl with | [_, _], _ => rfl
  have F35 := fun_mk (st := s_Looker_look_into) l35 c35 k35
  have b35 := F35.binds (ps := ["self", "row", "here", "deep", "within"]) fun _ _ _ _ _ _ us hl => match us, hl with | [_, _, _, _, _], _ => rfl
  have F36 := fun_mk (st := s_Looker_look_at) l36 c36 k36
  have b36 := F36.binds (ps := ["self", "rows", "deep", "within"]) fun _ _ _ _ _ _ us hl => match us, hl with | [_, _, _, _], _ => rfl
  have F37 := fun_mk (st := s_program_of) l37 c37 k37
  have b37 := F37.binds (ps := ["rows"]) fun _ _ _ _ _ _ us hl => match us, hl with | [_], _ => rfl
  have F38 := fun_mk (st := s_whole_in) l38 c38 k38
  have b38 := F38.binds (ps := ["word"]) fun _ _ _ _ _ _ us hl => match us, hl with | [_], _ => rfl
  have F39 := fun_mk (st := s_fraction_in) l39 c39 k39
  have b39 := F39.binds (ps := ["word"]) fun _ _ _ _ _ _ us hl => match us, hl with | [_], _ => rfl
  have F40 := fun_mk (st := s_Reader_closed) l40 c40 k40
  have b40 := F40.binds (ps := ["self"]) fun _ _ _ _ _ _ us hl => match us, hl with | [_], _ => rfl
  have F41 := fun_mk (st := s_Reader_opened) l41 c41 k41
  have b41 := F41.binds (ps := ["self", "words"]) fun _ _ _ _ _ _ us hl => match us, hl with | [_, _], _ => rfl
  have F42 := fun_mk (st := s_Reader_read_line) l42 c42 k42
  have b42 := F42.binds (ps := ["self", "text"]) fun _ _ _ _ _ _ us hl => match us, hl with | [_, _], _ => rfl
  have F43 := fun_mk (st := s_NoText_init) l43 c43 k43
  have b43 := F43.binds (ps := ["self", "line"]) fun _ _ _ _ _ _ us hl => match us, hl with | [_, _], _ => rfl
  have F44 := fun_mk (st := s_read) l44 c44 k44
  have b44 := F44.binds (ps := ["text"]) fun _ _ _ _ _ _ us hl => match us, hl with | [_], _ => rfl
  have F45 := fun_mk (st := s_law_lines) l45 c45 k45
  have b45 := F45.binds (ps := ["_law_rows_here"]) fun _ _ _ _ _ _ us hl => match us, hl with | [_], _ => rfl
  have F46 := fun_mk (st := s_law_told) l46 c46 k46
  have b46 := F46.binds (ps := ["_law_rows_here", "_law_by_text"]) fun _ _ _ _ _ _ us hl => match us, hl with | [_, _], _ => rfl
  have F47 := fun_mk (st := s_law_numbers) l47 c47 k47
  have b47 := F47.binds (ps := ["_law_rows_here"]) fun _ _ _ _ _ _ us hl => match us, hl with | [_], _ => rfl
  have F48 := fun_mk (st := s_law) l48 c48 k48
  have b48 := F48.binds (ps := ["_law_script"]) fun _ _ _ _ _ _ us hl => match us, hl with | [_], _ => rfl
  let T : Tx w K mg := { a_law_row := _, fd_law_row := _, F_law_row := F1, g_law_row := PySem.W.mg_of X G a1, b_law_row := b1, a_law_rows := _, fd_law_rows := _, F_law_rows := F2, g_law_rows := PySem.W.mg_of X G a2, b_law_rows := b2, a_law_deep := _, fd_law_deep := _, F_law_deep := F3, g_law_deep := PySem.W.mg_of X G a3, b_law_deep := b3, a_rows_in := _, fd_rows_in := _, F_rows_in := F4, g_rows_in := PySem.W.mg_of X G a4, b_rows_in := b4, a_Looker_init := _, fd_Looker_init := _, F_Looker_init := F5, b_Looker_init := b5, a_word_of := _, fd_word_of := _, F_word_of := F6, g_word_of := PySem.W.mg_of X G a6, b_word_of := b6, a_divisor := _, fd_divisor := _, F_divisor := F7, g_divisor := PySem.W.mg_of X G a7, b_divisor := b7, a_ratio := _, fd_ratio := _, F_ratio := F8, g_ratio := PySem.W.mg_of X G a8, b_ratio := b8, a_minus := _, fd_minus := _, F_minus := F9, g_minus := PySem.W.mg_of X G a9, b_minus := b9, a_off := _, fd_off := _, F_off := F10, g_off := PySem.W.mg_of X G a10, b_off := b10, a_plus := _, fd_plus := _, F_plus := F11, g_plus := PySem.W.mg_of X G a11, b_plus := b11, a_times := _, fd_times := _, F_times := F12, g_times := PySem.W.mg_of X G a12, b_times := b12, a_along := _, fd_along := _, F_along := F13, g_along := PySem.W.mg_of X G a13, b_along := b13, a_far := _, fd_far := _, F_far := F14, g_far := PySem.W.mg_of X G a14, b_far := b14, a_is_round := _, fd_is_round := _, F_is_round := F15, g_is_round := PySem.W.mg_of X G a15, b_is_round := b15, a_is_whole := _, fd_is_whole := _, F_is_whole := F16, g_is_whole := PySem.W.mg_of X G a16, b_is_whole := b16, a_is_fraction := _, fd_is_fraction := _, F_is_fraction := F17, g_is_fraction := PySem.W.mg_of X G a17, b_is_fraction := b17, a_is_plain_row := _, fd_is_plain_row := _, F_is_plain_row := F18, g_is_plain_row := PySem.W.mg_of X G a18, b_is_plain_row := b18, a_is_block := _, fd_is_block := _, F_is_block := F19, g_is_block := PySem.W.mg_of X G a19, b_is_block := b19, a_size_by := _, fd_size_by := _, F_size_by := F20, g_size_by := PySem.W.mg_of X G a20, b_size_by := b20, a_done_by := _, fd_done_by := _, F_done_by := F21, g_done_by := PySem.W.mg_of X G a21, b_done_by := b21, a_below := _, fd_below := _, F_below := F22, g_below := PySem.W.mg_of X G a22, b_below := b22, a_before := _, fd_before := _, F_before := F23, g_before := PySem.W.mg_of X G a23, b_before := b23, a_stretch := _, fd_stretch := _, F_stretch := F24, g_stretch := PySem.W.mg_of X G a24, b_stretch := b24, ds_stood := ds25, dv_stood := dv25, bd_stood := bd25, a_stood := _, fd_stood := _, F_stood := F25, g_stood := PySem.W.mg_of X G a25, b_stood := b25, a_straight := _, fd_straight := _, F_straight := F26, g_straight := PySem.W.mg_of X G a26, b_straight := b26, a_arc := _, fd_arc := _, F_arc := F27, g_arc := PySem.W.mg_of X G a27, b_arc := b27, a_bowed := _, fd_bowed := _, F_bowed := F28, g_bowed := PySem.W.mg_of X G a28, b_bowed := b28, a_first := _, fd_first := _, F_first := F29, g_first := PySem.W.mg_of X G a29, b_first := b29, a_shaped := _, fd_shaped := _, F_shaped := F30, g_shaped := PySem.W.mg_of X G a30, b_shaped := b30, a_draws := _, fd_draws := _, F_draws := F31, g_draws := PySem.W.mg_of X G a31, b_draws := b31, a_goes_on := _, fd_goes_on := _, F_goes_on := F32, g_goes_on := PySem.W.mg_of X G a32, b_goes_on := b32, a_Reader_init := _, fd_Reader_init := _, F_Reader_init := F33, b_Reader_init := b33, a_NoRow_init := _, fd_NoRow_init := _, F_NoRow_init := F34, b_NoRow_init := b34, a_Looker_look_into := _, fd_Looker_look_into := _, F_Looker_look_into := F35, b_Looker_look_into := b35, a_Looker_look_at := _, fd_Looker_look_at := _, F_Looker_look_at := F36, b_Looker_look_at := b36, a_program_of := _, fd_program_of := _, F_program_of := F37, g_program_of := PySem.W.mg_of X G a37, b_program_of := b37, a_whole_in := _, fd_whole_in := _, F_whole_in := F38, g_whole_in := PySem.W.mg_of X G a38, b_whole_in := b38, a_fraction_in := _, fd_fraction_in := _, F_fraction_in := F39, g_fraction_in := PySem.W.mg_of X G a39, b_fraction_in := b39, a_Reader_closed := _, fd_Reader_closed := _, F_Reader_closed := F40, b_Reader_closed := b40, a_Reader_opened := _, fd_Reader_opened := _, F_Reader_opened := F41, b_Reader_opened := b41, a_Reader_read_line := _, fd_Reader_read_line := _, F_Reader_read_line := F42, b_Reader_read_line := b42, a_NoText_init := _, fd_NoText_init := _, F_NoText_init := F43, b_NoText_init := b43, a_read := _, fd_read := _, F_read := F44, g_read := PySem.W.mg_of X G a44, b_read := b44, a_law_lines := _, fd_law_lines := _, F_law_lines := F45, g_law_lines := PySem.W.mg_of X G a45, b_law_lines := b45, a_law_told := _, fd_law_told := _, F_law_told := F46, g_law_told := PySem.W.mg_of X G a46, b_law_told := b46, a_law_numbers := _, fd_law_numbers := _, F_law_numbers := F47, g_law_numbers := PySem.W.mg_of X G a47, b_law_numbers := b47, a_law := _, fd_law := _, F_law := F48, g_law := PySem.W.mg_of X G a48, b_law := b48, n_ValueError := PySem.W.mg_none_of X G n_ValueError, n_abs := PySem.W.mg_none_of X G n_abs, n_all := PySem.W.mg_none_of X G n_all, n_bool := PySem.W.mg_none_of X G n_bool, n_enumerate := PySem.W.mg_none_of X G n_enumerate, n_int := PySem.W.mg_none_of X G n_int, n_isinstance := PySem.W.mg_none_of X G n_isinstance, n_len := PySem.W.mg_none_of X G n_len, n_max := PySem.W.mg_none_of X G n_max, n_min := PySem.W.mg_none_of X G n_min, n_range := PySem.W.mg_none_of X G n_range, n_str := PySem.W.mg_none_of X G n_str, n_tuple := PySem.W.mg_none_of X G n_tuple, u_DEEPEST := _, v_DEEPEST := .int (4 : Int), m_DEEPEST := PySem.W.mg_of X G m_DEEPEST, r_DEEPEST := (rv_int _ _), d_DEEPEST := fun F => .int _, u_FIGURES := _, v_FIGURES := .str "0123456789", m_FIGURES := PySem.W.mg_of X G m_FIGURES, r_FIGURES := (rv_str _ _), d_FIGURES := fun F => .str _, u_MOST_DONE := _, v_MOST_DONE := .int (300 : Int), m_MOST_DONE := PySem.W.mg_of X G m_MOST_DONE, r_MOST_DONE := (rv_int _ _), d_MOST_DONE := fun F => .int _, u_MOST_GROWN := _, v_MOST_GROWN := .int (12 : Int), m_MOST_GROWN := PySem.W.mg_of X G m_MOST_GROWN, r_MOST_GROWN := (rv_int _ _), d_MOST_GROWN := fun F => .int _, u_MOST_ROUNDS := _, v_MOST_ROUNDS := .int (12 : Int), m_MOST_ROUNDS := PySem.W.mg_of X G m_MOST_ROUNDS, r_MOST_ROUNDS := (rv_int _ _), d_MOST_ROUNDS := fun F => .int _, u_MOST_ROWS := _, v_MOST_ROWS := .int (60 : Int), m_MOST_ROWS := PySem.W.mg_of X G m_MOST_ROWS, r_MOST_ROWS := (rv_int _ _), d_MOST_ROWS := fun F => .int _, u_MOST_SIZE := _, v_MOST_SIZE := .ref ad_MOST_SIZE, m_MOST_SIZE := PySem.W.mg_of X G m_MOST_SIZE, r_MOST_SIZE := (rv_ref _), d_MOST_SIZE := fun F => kt_tup q_MOST_SIZE rfl rfl rfl (kv_cons (rv_int _ _) (kv_cons (rv_int _ _) kv_nil)) (kt_cons (.int _) (kt_cons (.int _) kt_nil)), u_NOUGHT := _, v_NOUGHT := .ref ad_NOUGHT, m_NOUGHT := PySem.W.mg_of X G m_NOUGHT, r_NOUGHT := (rv_ref _), d_NOUGHT := fun F => kt_tup q_NOUGHT rfl rfl rfl (kv_cons (rv_ref _) (kv_cons (rv_ref _) kv_nil)) (kt_cons (kt_tup q_NOUGHT_0 rfl rfl rfl (kv_cons (rv_int _ _) (kv_cons (rv_int _ _) kv_nil)) (kt_cons (.int _) (kt_cons (.int _) kt_nil))) (kt_cons (kt_tup q_NOUGHT_1 rfl rfl rfl (kv_cons (rv_int _ _) (kv_cons (rv_int _ _) kv_nil)) (kt_cons (.int _) (kt_cons (.int _) kt_nil))) kt_nil)), C_NUMBERS := _, m_NUMBERS := PySem.W.mg_of X G m_NUMBERS, es_NUMBERS := _, nn_NUMBERS := _, kd_NUMBERS := ⟨q_NUMBERS, lit_NUMBERS, low_NUMBERS⟩, tk_NUMBERS_go := _, i_NUMBERS_go := i_NUMBERS_go, tk_NUMBERS_skip := _, i_NUMBERS_skip := i_NUMBERS_skip, tk_NUMBERS_side := _, i_NUMBERS_side := i_NUMBERS_side, tk_NUMBERS_dot := _, i_NUMBERS_dot := i_NUMBERS_dot, tk_NUMBERS_left := _, i_NUMBERS_left := i_NUMBERS_left, tk_NUMBERS_right := _, i_NUMBERS_right := i_NUMBERS_right, tk_NUMBERS_round := _, i_NUMBERS_round := i_NUMBERS_round, tk_NUMBERS_mirror := _, i_NUMBERS_mirror := i_NUMBERS_mirror, tk_NUMBERS_grow := _, i_NUMBERS_grow := i_NUMBERS_grow, tk_NUMBERS_quarter := _, i_NUMBERS_quarter := i_NUMBERS_quarter, tk_NUMBERS_half := _, i_NUMBERS_half := i_NUMBERS_half, tk_NUMBERS_arc := _, i_NUMBERS_arc := i_NUMBERS_arc, j_NUMBERS_again := j_NUMBERS_again, j_NUMBERS_keep := j_NUMBERS_keep, j_NUMBERS_ever := j_NUMBERS_ever, ks_NUMBERS := ks_NUMBERS, C_TURNS := _, m_TURNS := PySem.W.mg_of X G m_TURNS, es_TURNS := _, nn_TURNS := _, kd_TURNS := ⟨q_TURNS, lit_TURNS, low_TURNS⟩, tk_TURNS_left := _, i_TURNS_left := i_TURNS_left, tk_TURNS_round := _, i_TURNS_round := i_TURNS_round, tk_TURNS_right := _, i_TURNS_right := i_TURNS_right, ks_TURNS := ks_TURNS, C_Looker := C_Looker, g_Looker := PySem.W.mg_of X G g_Looker, kp_Looker := kp_Looker, cl_Looker := ⟨pg_Looker, hd_Looker, po_Looker, sa_Looker⟩, na_Looker_number := na_Looker_number, C_Reader := C_Reader, g_Reader := PySem.W.mg_of X G g_Reader, kp_Reader := kp_Reader, cl_Reader := ⟨pg_Reader, hd_Reader, po_Reader, sa_Reader⟩, na_Reader_heads := na_Reader_heads, na_Reader_rows := na_Reader_rows, me_Looker_init := ⟨a5, i5, k5⟩, mk_Looker := ⟨mk_Looker, a5, i5, kp_Looker⟩, me_Looker_look_at := ⟨a36, i36, k36⟩, me_Looker_look_into := ⟨a35, i35, k35⟩, me_Reader_init := ⟨a33, i33, k33⟩, mk_Reader := ⟨mk_Reader, a33, i33, kp_Reader⟩, me_Reader_closed := ⟨a40, i40, k40⟩, me_Reader_opened := ⟨a41, i41, k41⟩, me_Reader_read_line := ⟨a42, i42, k42⟩, C_MillError := C_MillError, g_MillError := PySem.W.mg_of X G g_MillError, kp_MillError := kp_MillError, C_NoKin := C_NoKin, g_NoKin := PySem.W.mg_of X G g_NoKin, kp_NoKin := kp_NoKin, C_NoNumber := C_NoNumber, g_NoNumber := PySem.W.mg_of X G g_NoNumber, kp_NoNumber := kp_NoNumber, C_NoPiece := C_NoPiece, g_NoPiece := PySem.W.mg_of X G g_NoPiece, kp_NoPiece := kp_NoPiece, C_NoRow := C_NoRow, g_NoRow := PySem.W.mg_of X G g_NoRow, kp_NoRow := kp_NoRow, C_NoText := C_NoText, g_NoText := PySem.W.mg_of X G g_NoText, kp_NoText := kp_NoText, C_TooMuch := C_TooMuch, g_TooMuch := PySem.W.mg_of X G g_TooMuch, kp_TooMuch := kp_TooMuch, iC_NoRow := a34, iT_NoRow := i34, iC_NoText := a43, iT_NoText := i43, s_MillError := s_MillError, t_MillError := t_MillError, d_MillError := d_MillError, s_NoKin := s_NoKin, t_NoKin := t_NoKin, d_NoKin := d_NoKin, s_NoNumber := s_NoNumber, t_NoNumber := t_NoNumber, d_NoNumber := d_NoNumber, s_NoPiece := s_NoPiece, t_NoPiece := t_NoPiece, d_NoPiece := d_NoPiece, s_NoRow := s_NoRow, t_NoRow := t_NoRow, d_NoRow := d_NoRow, s_NoText := s_NoText, t_NoText := t_NoText, d_NoText := d_NoText, s_TooMuch := s_TooMuch, t_TooMuch := t_TooMuch, d_TooMuch := d_TooMuch, x_NoNumber := x_NoNumber, v_NoNumber := v_NoNumber, hg_NoNumber := hg_NoNumber, hk_NoNumber := hk_NoNumber, ha_NoNumber := ha_NoNumber, hm_NoNumber := hm_NoNumber, sub_NoNumber_MillError := sub_NoNumber_MillError, sub_NoNumber_NoKin := sub_NoNumber_NoKin, ne_NoNumber_NoKin := ne_NoNumber_NoKin, sub_NoNumber_NoPiece := sub_NoNumber_NoPiece, ne_NoNumber_NoPiece := ne_NoNumber_NoPiece, sub_NoNumber_NoRow := sub_NoNumber_NoRow, ne_NoNumber_NoRow := ne_NoNumber_NoRow, sub_NoNumber_NoText := sub_NoNumber_NoText, ne_NoNumber_NoText := ne_NoNumber_NoText, sub_NoNumber_TooMuch := sub_NoNumber_TooMuch, ne_NoNumber_TooMuch := ne_NoNumber_TooMuch, x_NoPiece := x_NoPiece, v_NoPiece := v_NoPiece, hg_NoPiece := hg_NoPiece, hk_NoPiece := hk_NoPiece, ha_NoPiece := ha_NoPiece, hm_NoPiece := hm_NoPiece, sub_NoPiece_MillError := sub_NoPiece_MillError, sub_NoPiece_NoKin := sub_NoPiece_NoKin, ne_NoPiece_NoKin := ne_NoPiece_NoKin, sub_NoPiece_NoNumber := sub_NoPiece_NoNumber, ne_NoPiece_NoNumber := ne_NoPiece_NoNumber, sub_NoPiece_NoRow := sub_NoPiece_NoRow, ne_NoPiece_NoRow := ne_NoPiece_NoRow, sub_NoPiece_NoText := sub_NoPiece_NoText, ne_NoPiece_NoText := ne_NoPiece_NoText, sub_NoPiece_TooMuch := sub_NoPiece_TooMuch, ne_NoPiece_TooMuch := ne_NoPiece_TooMuch, o_NoRow := o_NoRow, xs_NoRow := xs_NoRow, sub_NoRow_NoRow := sub_NoRow_NoRow, ci_NoRow := ci_NoRow, nf_NoRow := nf_NoRow, bga_MillError := bga_MillError, br_MillError := br_MillError, bi_MillError := bi_MillError, v_NoRow := v_NoRow, hg_NoRow := hg_NoRow, hk_NoRow := hk_NoRow, ha_NoRow := ha_NoRow, hm_NoRow := hm_NoRow, sub_NoRow_MillError := sub_NoRow_MillError, sub_NoRow_NoKin := sub_NoRow_NoKin, ne_NoRow_NoKin := ne_NoRow_NoKin, sub_NoRow_NoNumber := sub_NoRow_NoNumber, ne_NoRow_NoNumber := ne_NoRow_NoNumber, sub_NoRow_NoPiece := sub_NoRow_NoPiece, ne_NoRow_NoPiece := ne_NoRow_NoPiece, sub_NoRow_NoText := sub_NoRow_NoText, ne_NoRow_NoText := ne_NoRow_NoText, sub_NoRow_TooMuch := sub_NoRow_TooMuch, ne_NoRow_TooMuch := ne_NoRow_TooMuch, o_NoText := o_NoText, xs_NoText := xs_NoText, sub_NoText_NoText := sub_NoText_NoText, ci_NoText := ci_NoText, nf_NoText := nf_NoText, v_NoText := v_NoText, hg_NoText := hg_NoText, hk_NoText := hk_NoText, ha_NoText := ha_NoText, hm_NoText := hm_NoText, sub_NoText_MillError := sub_NoText_MillError, sub_NoText_NoKin := sub_NoText_NoKin, ne_NoText_NoKin := ne_NoText_NoKin, sub_NoText_NoNumber := sub_NoText_NoNumber, ne_NoText_NoNumber := ne_NoText_NoNumber, sub_NoText_NoPiece := sub_NoText_NoPiece, ne_NoText_NoPiece := ne_NoText_NoPiece, sub_NoText_NoRow := sub_NoText_NoRow, ne_NoText_NoRow := ne_NoText_NoRow, sub_NoText_TooMuch := sub_NoText_TooMuch, ne_NoText_TooMuch := ne_NoText_TooMuch, x_TooMuch := x_TooMuch, v_TooMuch := v_TooMuch, hg_TooMuch := hg_TooMuch, hk_TooMuch := hk_TooMuch, ha_TooMuch := ha_TooMuch, hm_TooMuch := hm_TooMuch, sub_TooMuch_MillError := sub_TooMuch_MillError, sub_TooMuch_NoKin := sub_TooMuch_NoKin, ne_TooMuch_NoKin := ne_TooMuch_NoKin, sub_TooMuch_NoNumber := sub_TooMuch_NoNumber, ne_TooMuch_NoNumber := ne_TooMuch_NoNumber, sub_TooMuch_NoPiece := sub_TooMuch_NoPiece, ne_TooMuch_NoPiece := ne_TooMuch_NoPiece, sub_TooMuch_NoRow := sub_TooMuch_NoRow, ne_TooMuch_NoRow := ne_TooMuch_NoRow, sub_TooMuch_NoText := sub_TooMuch_NoText, ne_TooMuch_NoText := ne_TooMuch_NoText, e_hn := e_hn, e_ht := e_ht }
  exact ⟨_, fun s v => .of_eq rfl, fun base _ _ => ok_law T⟩
end K23
open PySem PySem.W PyProof.Rows
set_option maxRecDepth 100000 in
set_option maxHeartbeats 0 in
theorem PySem.Challenge.cw_arcmill_k23_sixty_rows_holds : PySem.Challenge.rw_arcmill_k23_sixty_rows.Holds := by
  w_on; o_law; k_head; (case hw => w_witness2)
  k_fill
  refine Mi.walkD (l := PySem.Challenge.rw_arcmill_k23_sixty_rows) (k := 65) (x := "_law_script") rfl rfl ⟨rfl, by decide, by decide⟩ (fun w h Y => PySem.W.kIn_of Y) ?F
  case F =>
    intro w mg fa h KX G hmg
    refine' K23.all_mk KX G hmg ?a1 ?l1 ?c1 ?k1 ?a2 ?l2 ?c2 ?k2 ?a3 ?l3 ?c3 ?k3 ?a4 ?l4 ?c4 ?k4 ?a5 ?i5 ?l5 ?c5 ?k5 ?a6 ?l6 ?c6 ?k6 ?a7 ?l7 ?c7 ?k7 ?a8 ?l8 ?c8 ?k8 ?a9 ?l9 ?c9 ?k9 ?a10 ?l10 ?c10 ?k10 ?a11 ?l11 ?c11 ?k11 ?a12 ?l12 ?c12 ?k12 ?a13 ?l13 ?c13 ?k13 ?a14 ?l14 ?c14 ?k14 ?a15 ?l15 ?c15 ?k15 ?a16 ?l16 ?c16 ?k16 ?a17 ?l17 ?c17 ?k17 ?a18 ?l18 ?c18 ?k18 ?a19 ?l19 ?c19 ?k19 ?a20 ?l20 ?c20 ?k20 ?a21 ?l21 ?c21 ?k21 ?a22 ?l22 ?c22 ?k22 ?a23 ?l23 ?c23 ?k23 ?a24 ?l24 ?c24 ?k24 ?a25 ?l25 ?df_l25 ?c25 ?k25 ?a26 ?l26 ?c26 ?k26 ?a27 ?l27 ?c27 ?k27 ?a28 ?l28 ?c28 ?k28 ?a29 ?l29 ?c29 ?k29 ?a30 ?l30 ?c30 ?k30 ?a31 ?l31 ?c31 ?k31 ?a32 ?l32 ?c32 ?k32 ?a33 ?i33 ?l33 ?c33 ?k33 ?a34 ?i34 ?l34 ?c34 ?k34 ?a35 ?i35 ?l35 ?c35 ?k35 ?a36 ?i36 ?l36 ?c36 ?k36 ?a37 ?l37 ?c37 ?k37 ?a38 ?l38 ?c38 ?k38 ?a39 ?l39 ?c39 ?k39 ?a40 ?i40 ?l40 ?c40 ?k40 ?a41 ?i41 ?l41 ?c41 ?k41 ?a42 ?i42 ?l42 ?c42 ?k42 ?a43 ?i43 ?l43 ?c43 ?k43 ?a44 ?l44 ?c44 ?k44 ?a45 ?l45 ?c45 ?k45 ?a46 ?l46 ?c46 ?k46 ?a47 ?l47 ?c47 ?k47 ?a48 ?l48 ?c48 ?k48 ?n_ValueError ?n_abs ?n_all ?n_bool ?n_enumerate ?n_int ?n_isinstance ?n_len ?n_max ?n_min ?n_range ?n_str ?n_tuple ?m_DEEPEST ?m_FIGURES ?m_MOST_DONE ?m_MOST_GROWN ?m_MOST_ROUNDS ?m_MOST_ROWS ?m_MOST_SIZE ?q_MOST_SIZE ?m_NOUGHT ?q_NOUGHT ?q_NOUGHT_1 ?q_NOUGHT_0 ?m_NUMBERS ?q_NUMBERS ?lit_NUMBERS ?low_NUMBERS ?i_NUMBERS_go ?i_NUMBERS_skip ?i_NUMBERS_side ?i_NUMBERS_dot ?i_NUMBERS_left ?i_NUMBERS_right ?i_NUMBERS_round ?i_NUMBERS_mirror ?i_NUMBERS_grow ?i_NUMBERS_quarter ?i_NUMBERS_half ?i_NUMBERS_arc ?j_NUMBERS_again ?j_NUMBERS_keep ?j_NUMBERS_ever ?ks_NUMBERS ?m_TURNS ?q_TURNS ?lit_TURNS ?low_TURNS ?i_TURNS_left ?i_TURNS_round ?i_TURNS_right ?ks_TURNS ?g_Looker ?kp_Looker ?pg_Looker ?hd_Looker ?po_Looker ?sa_Looker ?na_Looker_number ?g_Reader ?kp_Reader ?pg_Reader ?hd_Reader ?po_Reader ?sa_Reader ?na_Reader_heads ?na_Reader_rows ?mk_Looker ?mk_Reader ?g_MillError ?kp_MillError ?g_NoKin ?kp_NoKin ?g_NoNumber ?kp_NoNumber ?g_NoPiece ?kp_NoPiece ?g_NoRow ?kp_NoRow ?g_NoText ?kp_NoText ?g_TooMuch ?kp_TooMuch ?s_MillError ?t_MillError ?d_MillError ?s_NoKin ?t_NoKin ?d_NoKin ?s_NoNumber ?t_NoNumber ?d_NoNumber ?s_NoPiece ?t_NoPiece ?d_NoPiece ?s_NoRow ?t_NoRow ?d_NoRow ?s_NoText ?t_NoText ?d_NoText ?s_TooMuch ?t_TooMuch ?d_TooMuch ?x_NoNumber ?v_NoNumber ?hg_NoNumber ?hk_NoNumber ?ha_NoNumber ?hm_NoNumber ?sub_NoNumber_MillError ?sub_NoNumber_NoKin ?ne_NoNumber_NoKin ?sub_NoNumber_NoPiece ?ne_NoNumber_NoPiece ?sub_NoNumber_NoRow ?ne_NoNumber_NoRow ?sub_NoNumber_NoText ?ne_NoNumber_NoText ?sub_NoNumber_TooMuch ?ne_NoNumber_TooMuch ?x_NoPiece ?v_NoPiece ?hg_NoPiece ?hk_NoPiece ?ha_NoPiece ?hm_NoPiece ?sub_NoPiece_MillError ?sub_NoPiece_NoKin ?ne_NoPiece_NoKin ?sub_NoPiece_NoNumber ?ne_NoPiece_NoNumber ?sub_NoPiece_NoRow ?ne_NoPiece_NoRow ?sub_NoPiece_NoText ?ne_NoPiece_NoText ?sub_NoPiece_TooMuch ?ne_NoPiece_TooMuch ?o_NoRow ?xs_NoRow ?sub_NoRow_NoRow ?ci_NoRow ?nf_NoRow ?bga_MillError ?br_MillError ?bi_MillError ?v_NoRow ?hg_NoRow ?hk_NoRow ?ha_NoRow ?hm_NoRow ?sub_NoRow_MillError ?sub_NoRow_NoKin ?ne_NoRow_NoKin ?sub_NoRow_NoNumber ?ne_NoRow_NoNumber ?sub_NoRow_NoPiece ?ne_NoRow_NoPiece ?sub_NoRow_NoText ?ne_NoRow_NoText ?sub_NoRow_TooMuch ?ne_NoRow_TooMuch ?o_NoText ?xs_NoText ?sub_NoText_NoText ?ci_NoText ?nf_NoText ?v_NoText ?hg_NoText ?hk_NoText ?ha_NoText ?hm_NoText ?sub_NoText_MillError ?sub_NoText_NoKin ?ne_NoText_NoKin ?sub_NoText_NoNumber ?ne_NoText_NoNumber ?sub_NoText_NoPiece ?ne_NoText_NoPiece ?sub_NoText_NoRow ?ne_NoText_NoRow ?sub_NoText_TooMuch ?ne_NoText_TooMuch ?x_TooMuch ?v_TooMuch ?hg_TooMuch ?hk_TooMuch ?ha_TooMuch ?hm_TooMuch ?sub_TooMuch_MillError ?sub_TooMuch_NoKin ?ne_TooMuch_NoKin ?sub_TooMuch_NoNumber ?ne_TooMuch_NoNumber ?sub_TooMuch_NoPiece ?ne_TooMuch_NoPiece ?sub_TooMuch_NoRow ?ne_TooMuch_NoRow ?sub_TooMuch_NoText ?ne_TooMuch_NoText ?e_hn ?e_ht
    (case g_Looker => k_is); (case g_Reader => k_is); (case g_NoRow => k_is); (case g_NoText => k_is); (case a1 => k_is); (case l1 => k_is); (case c1 => k_is); (case k1 => k_is); (case a2 => k_is); (case l2 => k_is); (case c2 => k_is); (case k2 => k_is); (case a3 => k_is); (case l3 => k_is); (case c3 => k_is); (case k3 => k_is); (case a4 => k_is); (case l4 => k_is); (case c4 => k_is); (case k4 => k_is); (case a5 => k_is); (case i5 => k_is); (case l5 => k_is); (case c5 => k_is); (case k5 => k_is); (case a6 => k_is); (case l6 => k_is); (case c6 => k_is); (case k6 => k_is); (case a7 => k_is); (case l7 => k_is); (case c7 => k_is); (case k7 => k_is); (case a8 => k_is); (case l8 => k_is); (case c8 => k_is); (case k8 => k_is); (case a9 => k_is); (case l9 => k_is); (case c9 => k_is); (case k9 => k_is); (case a10 => k_is); (case l10 => k_is); (case c10 => k_is); (case k10 => k_is); (case a11 => k_is); (case l11 => k_is); (case c11 => k_is); (case k11 => k_is); (case a12 => k_is); (case l12 => k_is); (case c12 => k_is); (case k12 => k_is); (case a13 => k_is); (case l13 => k_is); (case c13 => k_is); (case k13 => k_is); (case a14 => k_is); (case l14 => k_is); (case c14 => k_is); (case k14 => k_is); (case a15 => k_is); (case l15 => k_is); (case c15 => k_is); (case k15 => k_is); (case a16 => k_is); (case l16 => k_is); (case c16 => k_is); (case k16 => k_is); (case a17 => k_is); (case l17 => k_is); (case c17 => k_is); (case k17 => k_is); (case a18 => k_is); (case l18 => k_is); (case c18 => k_is); (case k18 => k_is); (case a19 => k_is); (case l19 => k_is); (case c19 => k_is); (case k19 => k_is); (case a20 => k_is); (case l20 => k_is); (case c20 => k_is); (case k20 => k_is); (case a21 => k_is); (case l21 => k_is); (case c21 => k_is); (case k21 => k_is); (case a22 => k_is); (case l22 => k_is); (case c22 => k_is); (case k22 => k_is); (case a23 => k_is); (case l23 => k_is); (case c23 => k_is); (case k23 => k_is); (case a24 => k_is); (case l24 => k_is); (case c24 => k_is); (case k24 => k_is); (case a25 => k_is); (case l25 => k_is); (case df_l25 => k_is); (case c25 => k_is); (case k25 => k_is); (case a26 => k_is); (case l26 => k_is); (case c26 => k_is); (case k26 => k_is); (case a27 => k_is); (case l27 => k_is); (case c27 => k_is); (case k27 => k_is); (case a28 => k_is); (case l28 => k_is); (case c28 => k_is); (case k28 => k_is); (case a29 => k_is); (case l29 => k_is); (case c29 => k_is); (case k29 => k_is); (case a30 => k_is); (case l30 => k_is); (case c30 => k_is); (case k30 => k_is); (case a31 => k_is); (case l31 => k_is); (case c31 => k_is); (case k31 => k_is); (case a32 => k_is); (case l32 => k_is); (case c32 => k_is); (case k32 => k_is); (case a33 => k_is); (case i33 => k_is); (case l33 => k_is); (case c33 => k_is); (case k33 => k_is); (case a34 => k_is); (case i34 => k_is); (case l34 => k_is); (case c34 => k_is); (case k34 => k_is); (case a35 => k_is); (case i35 => k_is); (case l35 => k_is); (case c35 => k_is); (case k35 => k_is); (case a36 => k_is); (case i36 => k_is); (case l36 => k_is); (case c36 => k_is); (case k36 => k_is); (case a37 => k_is); (case l37 => k_is); (case c37 => k_is); (case k37 => k_is); (case a38 => k_is); (case l38 => k_is); (case c38 => k_is); (case k38 => k_is); (case a39 => k_is); (case l39 => k_is); (case c39 => k_is); (case k39 => k_is); (case a40 => k_is); (case i40 => k_is); (case l40 => k_is); (case c40 => k_is); (case k40 => k_is); (case a41 => k_is); (case i41 => k_is); (case l41 => k_is); (case c41 => k_is); (case k41 => k_is); (case a42 => k_is); (case i42 => k_is); (case l42 => k_is); (case c42 => k_is); (case k42 => k_is); (case a43 => k_is); (case i43 => k_is); (case l43 => k_is); (case c43 => k_is); (case k43 => k_is); (case a44 => k_is); (case l44 => k_is); (case c44 => k_is); (case k44 => k_is); (case a45 => k_is); (case l45 => k_is); (case c45 => k_is); (case k45 => k_is); (case a46 => k_is); (case l46 => k_is); (case c46 => k_is); (case k46 => k_is); (case a47 => k_is); (case l47 => k_is); (case c47 => k_is); (case k47 => k_is); (case a48 => k_is); (case l48 => k_is); (case c48 => k_is); (case k48 => k_is); (case n_ValueError => k_is); (case n_abs => k_is); (case n_all => k_is); (case n_bool => k_is); (case n_enumerate => k_is); (case n_int => k_is); (case n_isinstance => k_is); (case n_len => k_is); (case n_max => k_is); (case n_min => k_is); (case n_range => k_is); (case n_str => k_is); (case n_tuple => k_is); (case m_DEEPEST => k_is); (case m_FIGURES => k_is); (case m_MOST_DONE => k_is); (case m_MOST_GROWN => k_is); (case m_MOST_ROUNDS => k_is); (case m_MOST_ROWS => k_is); (case m_MOST_SIZE => k_is); (case q_MOST_SIZE => k_is); (case m_NOUGHT => k_is); (case q_NOUGHT => k_is); (case q_NOUGHT_1 => k_is); (case q_NOUGHT_0 => k_is); (case m_NUMBERS => k_is); (case q_NUMBERS => k_is); (case lit_NUMBERS => k_keys); (case low_NUMBERS => rfl); (case i_NUMBERS_go => k_is); (case i_NUMBERS_skip => k_is); (case i_NUMBERS_side => k_is); (case i_NUMBERS_dot => k_is); (case i_NUMBERS_left => k_is); (case i_NUMBERS_right => k_is); (case i_NUMBERS_round => k_is); (case i_NUMBERS_mirror => k_is); (case i_NUMBERS_grow => k_is); (case i_NUMBERS_quarter => k_is); (case i_NUMBERS_half => k_is); (case i_NUMBERS_arc => k_is); (case j_NUMBERS_again => k_is); (case j_NUMBERS_keep => k_is); (case j_NUMBERS_ever => k_is); (case ks_NUMBERS => rfl); (case m_TURNS => k_is); (case q_TURNS => k_is); (case lit_TURNS => k_keys); (case low_TURNS => rfl); (case i_TURNS_left => k_is); (case i_TURNS_round => k_is); (case i_TURNS_right => k_is); (case ks_TURNS => rfl); (case kp_Looker => k_is); (case pg_Looker => k_is); (case hd_Looker => k_is); (case po_Looker => k_is); (case sa_Looker => k_is); (case na_Looker_number => k_is); (case kp_Reader => k_is); (case pg_Reader => k_is); (case hd_Reader => k_is); (case po_Reader => k_is); (case sa_Reader => k_is); (case na_Reader_heads => k_is); (case na_Reader_rows => k_is); (case mk_Looker => k_is); (case mk_Reader => k_is); (case g_MillError => k_is); (case kp_MillError => k_is); (case g_NoKin => k_is); (case kp_NoKin => k_is); (case g_NoNumber => k_is); (case kp_NoNumber => k_is); (case g_NoPiece => k_is); (case kp_NoPiece => k_is); (case kp_NoRow => k_is); (case kp_NoText => k_is); (case g_TooMuch => k_is); (case kp_TooMuch => k_is); (case s_MillError => k_is); (case t_MillError => k_is); (case d_MillError => k_is); (case s_NoKin => k_is); (case t_NoKin => k_is); (case d_NoKin => k_is); (case s_NoNumber => k_is); (case t_NoNumber => k_is); (case d_NoNumber => k_is); (case s_NoPiece => k_is); (case t_NoPiece => k_is); (case d_NoPiece => k_is); (case s_NoRow => k_is); (case t_NoRow => k_is); (case d_NoRow => k_is); (case s_NoText => k_is); (case t_NoText => k_is); (case d_NoText => k_is); (case s_TooMuch => k_is); (case t_TooMuch => k_is); (case d_TooMuch => k_is); (case x_NoNumber => k_exc); (case v_NoNumber => k_is); (case hg_NoNumber => k_is); (case hk_NoNumber => k_is); (case ha_NoNumber => k_is); (case hm_NoNumber => k_is); (case sub_NoNumber_MillError => k_is); (case sub_NoNumber_NoKin => k_is); (case ne_NoNumber_NoKin => rfl); (case sub_NoNumber_NoPiece => k_is); (case ne_NoNumber_NoPiece => rfl); (case sub_NoNumber_NoRow => k_is); (case ne_NoNumber_NoRow => rfl); (case sub_NoNumber_NoText => k_is); (case ne_NoNumber_NoText => rfl); (case sub_NoNumber_TooMuch => k_is); (case ne_NoNumber_TooMuch => rfl); (case x_NoPiece => k_exc); (case v_NoPiece => k_is); (case hg_NoPiece => k_is); (case hk_NoPiece => k_is); (case ha_NoPiece => k_is); (case hm_NoPiece => k_is); (case sub_NoPiece_MillError => k_is); (case sub_NoPiece_NoKin => k_is); (case ne_NoPiece_NoKin => rfl); (case sub_NoPiece_NoNumber => k_is); (case ne_NoPiece_NoNumber => rfl); (case sub_NoPiece_NoRow => k_is); (case ne_NoPiece_NoRow => rfl); (case sub_NoPiece_NoText => k_is); (case ne_NoPiece_NoText => rfl); (case sub_NoPiece_TooMuch => k_is); (case ne_NoPiece_TooMuch => rfl); (case o_NoRow => first | (decide +kernel) | kernel_rfl | rfl); (case xs_NoRow => k_is); (case sub_NoRow_NoRow => k_is); (case ci_NoRow => first | (decide +kernel) | kernel_rfl | rfl); (case nf_NoRow => k_is); (case bga_MillError => k_is); (case br_MillError => k_is); (case bi_MillError => k_is); (case v_NoRow => k_is); (case hg_NoRow => k_is); (case hk_NoRow => k_is); (case ha_NoRow => k_is); (case hm_NoRow => k_is); (case sub_NoRow_MillError => k_is); (case sub_NoRow_NoKin => k_is); (case ne_NoRow_NoKin => rfl); (case sub_NoRow_NoNumber => k_is); (case ne_NoRow_NoNumber => rfl); (case sub_NoRow_NoPiece => k_is); (case ne_NoRow_NoPiece => rfl); (case sub_NoRow_NoText => k_is); (case ne_NoRow_NoText => rfl); (case sub_NoRow_TooMuch => k_is); (case ne_NoRow_TooMuch => rfl); (case o_NoText => first | (decide +kernel) | kernel_rfl | rfl); (case xs_NoText => k_is); (case sub_NoText_NoText => k_is); (case ci_NoText => first | (decide +kernel) | kernel_rfl | rfl); (case nf_NoText => k_is); (case v_NoText => k_is); (case hg_NoText => k_is); (case hk_NoText => k_is); (case ha_NoText => k_is); (case hm_NoText => k_is); (case sub_NoText_MillError => k_is); (case sub_NoText_NoKin => k_is); (case ne_NoText_NoKin => rfl); (case sub_NoText_NoNumber => k_is); (case ne_NoText_NoNumber => rfl); (case sub_NoText_NoPiece => k_is); (case ne_NoText_NoPiece => rfl); (case sub_NoText_NoRow => k_is); (case ne_NoText_NoRow => rfl); (case sub_NoText_TooMuch => k_is); (case ne_NoText_TooMuch => rfl); (case x_TooMuch => k_exc); (case v_TooMuch => k_is); (case hg_TooMuch => k_is); (case hk_TooMuch => k_is); (case ha_TooMuch => k_is); (case hm_TooMuch => k_is); (case sub_TooMuch_MillError => k_is); (case sub_TooMuch_NoKin => k_is); (case ne_TooMuch_NoKin => rfl); (case sub_TooMuch_NoNumber => k_is); (case ne_TooMuch_NoNumber => rfl); (case sub_TooMuch_NoPiece => k_is); (case ne_TooMuch_NoPiece => rfl); (case sub_TooMuch_NoRow => k_is); (case ne_TooMuch_NoRow => rfl); (case sub_TooMuch_NoText => k_is); (case ne_TooMuch_NoText => rfl); (case e_hn => k_is); (case e_ht => k_is)

