import PyProof.Rows.All
import HandS.ForMost
import HandS.Flow
import HandS.Walk
import HandS.Zip
import HandS.Conv
import HandS.Wide
import HandS.Gcd
import KE.KeyNested
import KE.KDictKeyed
import HandS.TupAny
import HandS.TupMul
import HandS.Style
import HandS.IsInst
import KE.GoesMore
import KE.GoesEnum
import KE.KMathGC
import PyProof.EnumMake
import KE.SortData
import KE.KDictCopyH
import KE.KDictSum
import HandS.TupSets
import PyProof.ZipIter
import PyProof.CallType
import PyProof.Walk
import PyProof.WalkLemmas
import PyProof.RangeIter
import PyProof.RulesTry
import HandS.RepeatKit
import PySem.Challenge.RW_everysource_k67_whole_layers_by_all_draw
import KE.IntBitsLaws
import HandS.EndBits
set_option Elab.async false
set_option linter.all false
set_option maxRecDepth 100000
set_option maxHeartbeats 4000000
set_option exponentiation.threshold 100
/-! Dw0: pure big-step judgements over data, above the hand layer. The heap is hidden: F (a part of the abstract heap H in which all data stands and that never changes) and the own mutable objects. -/
namespace DW
open PySem PySem.Spec PyProof.Rows L2

/-! ### names, by the kernel -/
def visB (sc : Scope) (x : Str) : Bool := (match sc.names.lookup x with | some .local => true | some .cell => true | some .free => true | _ => false) && !(x == ("__debug__" : Str)) && !(x == ("__classdict__" : Str))
def locB (fn : Str → Bool) (sc : Scope) (x : Str) : Bool := match sc.names.lookup x with | some .local => true | some .cell => fn x | _ => false
theorem visB_vis {sc : Scope} {x : Str} (h : visB sc x = true) : Vis sc x := by
  unfold visB at h
  simp only [Bool.and_eq_true] at h
  have h1 := h.1.1
  unfold Vis
  split at h1 <;> first | (rename_i e; rw [e]; simp) | cases h1
theorem visB_d {sc : Scope} {x : Str} (h : visB sc x = true) : (x == ("__debug__" : Str)) = false := by
  unfold visB at h
  simp only [Bool.and_eq_true, Bool.not_eq_true'] at h
  exact h.1.2
theorem visB_c {sc : Scope} {x : Str} (h : visB sc x = true) : (x == ("__classdict__" : Str)) = false := by
  unfold visB at h
  simp only [Bool.and_eq_true, Bool.not_eq_true'] at h
  exact h.2
theorem locB_loc {fn : Str → Bool} {sc : Scope} {x : Str} (h : locB fn sc x = true) : Loc sc x := by
  unfold locB at h
  unfold L2.Loc
  split at h <;> first | (rename_i e; rw [e]; simp) | cases h
theorem locB_fn {fn : Str → Bool} {sc : Scope} {x : Str} (h : locB fn sc x = true) : fn x = true ∨ sc.names.lookup x = some .local := by
  unfold locB at h
  split at h
  · rename_i e; exact .inr e
  · exact .inl h
  · cases h
/-! ### the weakest readings -/
def wpE (X : Cx) (e : Expr) : TE := fun σ H Q => ∀ pins s, Inv X pins σ H s → wpAny (model X.prog X.w) X.A (eval e X.env) (EP X pins σ Q) X.xe s
def wpT (X : Cx) (e : Expr) : TT := fun σ H Q => ∀ pins s, Inv X pins σ H s → wpAny (model X.prog X.w) X.A (isTrue e X.env (eval e X.env)) (TP X pins σ Q) X.xe s
def wpA (X : Cx) (es : List Expr) : TA := fun σ H Q => ∀ pos pins s, Inv X pins σ H s → wpAny (model X.prog X.w) X.A (spliced (backTo pos (starEach es X.env))) (AP X pins σ Q) X.xe s
def wpS (X : Cx) (st : Stmt) : TS := fun D σ H => ∀ pins s, Inv X pins σ H s → wpAny (model X.prog X.w) X.A (exec st X.env) (SP X pins D) X.xe s
def wpB (X : Cx) (st : List Stmt) : TS := fun D σ H => ∀ pins s, Inv X pins σ H s → wpAny (model X.prog X.w) X.A (execs st X.env) (SP X pins D) X.xe s
def wpG (X : Cx) (tg : Expr) : TG := fun v σ H Q => ∀ pins s u, Inv X pins σ H s → RelV v u → wpAny (model X.prog X.w) X.A (assign tg X.env u) (fun _ s' => ∃ σ' H', Inv X pins σ' H' s' ∧ Q σ' H') X.xe s
def wpI (X : Cx) (tg iter : Expr) : TI := fun σ H R => ∀ pins s, Inv X pins σ H s → wpAny (model X.prog X.w) X.A (eval iter X.env) (fun v s1 => wpAny (model X.prog X.w) X.A (pyIter v) (PIE X pins σ tg R) X.xe s1) X.xe s
section
variable {X : Cx} {e : Expr} {es : List Expr} {st : Stmt} {sts : List Stmt}
theorem peW : PE X e (wpE X e) := ⟨fun pins s _ _ _ I h => h pins s I⟩
theorem ptW : PT X e (wpT X e) := ⟨fun pins s _ _ _ I h => h pins s I⟩
theorem paW : PA X es (wpA X es) := ⟨fun pos pins s _ _ _ I h => h pos pins s I⟩
theorem psW : PS X st (wpS X st) := ⟨fun pins s _ _ _ I h => h pins s I⟩
theorem pbW : PSs X sts (wpB X sts) := ⟨fun pins s _ _ _ I h => h pins s I⟩
theorem pgW : PG X e (wpG X e) := ⟨fun pins s _ _ _ u _ I r h => h pins s u I r⟩
theorem piW {tg : Expr} : PI X tg e (wpI X tg e) := ⟨fun pins s _ _ _ I h => h pins s I⟩
theorem wpE_of {t : TE} (h : PE X e t) {σ H Q} (q : t σ H Q) : wpE X e σ H Q := fun pins s I => h.run pins s σ H Q I q
theorem wpT_of {t : TT} (h : PT X e t) {σ H Q} (q : t σ H Q) : wpT X e σ H Q := fun pins s I => h.run pins s σ H Q I q
theorem wpA_of {t : TA} (h : PA X es t) {σ H Q} (q : t σ H Q) : wpA X es σ H Q := fun pos pins s I => h.run pos pins s σ H Q I q
theorem wpS_of {t : TS} (h : PS X st t) {σ H D} (q : t D σ H) : wpS X st D σ H := fun pins s I => h.run pins s σ H D I q
theorem wpB_of {t : TS} (h : PSs X sts t) {σ H D} (q : t D σ H) : wpB X sts D σ H := fun pins s I => h.run pins s σ H D I q
theorem wpG_of {t : TG} (h : PG X e t) {v σ H Q} (q : t v σ H Q) : wpG X e v σ H Q := fun pins s u I r => h.run pins s σ H v u Q I r q
theorem wpI_of {tg : Expr} {t : TI} (h : PI X tg e t) {σ H R} (q : t σ H R) : wpI X tg e σ H R := fun pins s I => h.run pins s σ H R I q
end

/-! ### data in a heap -/
theorem same_refl {H : Hp} : Same H H := fun _ _ h => h
theorem rd_mono {F H : Hp} (e : Same F H) {a : Addr} {u : HO} (h : Rd F a u) : Rd H a u := by
  rcases h with h | ⟨o, h⟩
  · exact .inl (e _ _ h)
  · exact .inr ⟨o, e _ _ h⟩
theorem sql_mono {K : PySem.W.Frag} {F H : Hp} (e : Same F H) {a : Addr} {xs : List V} (h : SqL K F a xs) : SqL K H a xs := by
  rcases h with h | h
  · exact .inl (rd_mono e h)
  · exact .inr h
theorem sqt_mono {K : PySem.W.Frag} {F H : Hp} (e : Same F H) {a : Addr} {xs : List V} (h : SqT K F a xs) : SqT K H a xs := by
  rcases h with h | h
  · exact .inl (rd_mono e h)
  · exact .inr h
end DW
namespace L2
open PySem PySem.Spec PyProof.Rows DW
mutual
theorem Dp.mono {K : PySem.W.Frag} {F H : Hp} (e : Same F H) : ∀ (d : PyData) (v : V), Dp K F v d → Dp K H v d
  | .none, _, h => by cases h; exact .non
  | .bool b, _, h => by cases h; exact .bl b
  | .int i, _, h => by cases h; exact .int i
  | .str x, _, h => by cases h; exact .str x
  | .list ds, _, h => by
    cases h with
    | lst hs ha => exact .lst (sql_mono e hs) (DpAll.mono e ds _ ha)
  | .tuple ds, _, h => by
    cases h with
    | tup hs ha => exact .tup (sqt_mono e hs) (DpAll.mono e ds _ ha)
  | .dict _, _, h => by cases h
theorem DpAll.mono {K : PySem.W.Frag} {F H : Hp} (e : Same F H) : ∀ (ds : List PyData) (vs : List V), DpAll K F vs ds → DpAll K H vs ds
  | [], _, h => by cases h; exact .nil
  | d :: ds, _, h => by
    cases h with
    | cons h1 h2 => exact .cons (Dp.mono e d _ h1) (DpAll.mono e ds _ h2)
end
theorem Dp.up {K : PySem.W.Frag} {F H : Hp} (e : Same F H) {d : PyData} {v : V} (h : Dp K F v d) : Dp K H v d := Dp.mono e d v h
theorem DpAll.up {K : PySem.W.Frag} {F H : Hp} (e : Same F H) {ds : List PyData} {vs : List V} (h : DpAll K F vs ds) : DpAll K H vs ds := DpAll.mono e ds vs h
theorem DpAll.len {K : PySem.W.Frag} {F : Hp} : ∀ {ds : List PyData} {vs : List V}, DpAll K F vs ds → vs.length = ds.length
  | [], _, h => by cases h; rfl
  | _ :: ds, _, h => by
    cases h with
    | cons _ h2 => rw [List.length_cons, List.length_cons, DpAll.len h2]
theorem DpAll.get {K : PySem.W.Frag} {F : Hp} : ∀ {ds : List PyData} {vs : List V} {i : Nat} {d : PyData}, DpAll K F vs ds → ds[i]? = some d → ∃ v, vs[i]? = some v ∧ Dp K F v d
  | [], _, _, _, h, e => by simp at e
  | _ :: ds, _, 0, d, h, e => by
    cases h with
    | cons h1 _ =>
      have e' := Option.some.inj e
      subst e'
      exact ⟨_, rfl, h1⟩
  | _ :: ds, _, i + 1, d, h, e => by
    cases h with
    | cons _ h2 =>
      obtain ⟨v, q1, q2⟩ := DpAll.get (i := i) h2 e
      exact ⟨v, q1, q2⟩
theorem DpAll.getV {K : PySem.W.Frag} {F : Hp} : ∀ {ds : List PyData} {vs : List V} {i : Nat} {v : V}, DpAll K F vs ds → vs[i]? = some v → ∃ d, ds[i]? = some d ∧ Dp K F v d
  | [], _, _, _, h, e => by cases h; simp at e
  | _ :: ds, _, 0, d, h, e => by
    cases h with
    | cons h1 _ =>
      have e' := Option.some.inj e
      subst e'
      exact ⟨_, rfl, h1⟩
  | _ :: ds, _, i + 1, d, h, e => by
    cases h with
    | cons _ h2 =>
      obtain ⟨v, q1, q2⟩ := DpAll.getV (i := i) h2 e
      exact ⟨v, q1, q2⟩
theorem DpAll.app {K : PySem.W.Frag} {F : Hp} : ∀ {ds es : List PyData} {vs ws : List V}, DpAll K F vs ds → DpAll K F ws es → DpAll K F (vs ++ ws) (ds ++ es)
  | [], _, _, _, h, h' => by cases h; exact h'
  | _ :: ds, _, _, _, h, h' => by
    cases h with
    | cons h1 h2 => exact .cons h1 (DpAll.app h2 h')
theorem DpAll.drop {K : PySem.W.Frag} {F : Hp} : ∀ {ds : List PyData} {vs : List V} (n : Nat), DpAll K F vs ds → DpAll K F (vs.drop n) (ds.drop n)
  | [], _, _, h => by cases h; simp; exact .nil
  | _ :: _, _, 0, h => h
  | _ :: ds, _, n + 1, h => by
    cases h with
    | cons _ h2 => exact DpAll.drop n h2
theorem DpAll.take {K : PySem.W.Frag} {F : Hp} : ∀ {ds : List PyData} {vs : List V} (n : Nat), DpAll K F vs ds → DpAll K F (vs.take n) (ds.take n)
  | [], _, _, h => by cases h; simp; exact .nil
  | _ :: _, _, 0, _ => .nil
  | _ :: ds, _, n + 1, h => by
    cases h with
    | cons h1 h2 => exact .cons h1 (DpAll.take n h2)
theorem DpAll.set {K : PySem.W.Frag} {F : Hp} {v : V} {d : PyData} (h1 : Dp K F v d) : ∀ {ds : List PyData} {vs : List V} (n : Nat), DpAll K F vs ds → DpAll K F (vs.set n v) (ds.set n d)
  | [], _, _, h => by cases h; exact .nil
  | _ :: _, _, 0, h => by
    cases h with
    | cons _ h2 => exact .cons h1 h2
  | _ :: ds, _, n + 1, h => by
    cases h with
    | cons h0 h2 => exact .cons h0 (DpAll.set h1 n h2)
theorem DpAll.ints {K : PySem.W.Frag} {F : Hp} : ∀ (ns : List Int), DpAll K F (ns.map V.int) (ns.map PyData.int)
  | [] => .nil
  | n :: ns => .cons (.int n) (DpAll.ints ns)
theorem Dp.int_inv {K : PySem.W.Frag} {F : Hp} {v : V} {i : Int} (h : Dp K F v (.int i)) : v = .int i := by cases h; rfl
theorem Dp.bool_inv {K : PySem.W.Frag} {F : Hp} {v : V} {i : Bool} (h : Dp K F v (.bool i)) : v = .bl i := by cases h; rfl
theorem Dp.tup_inv {K : PySem.W.Frag} {F : Hp} {v : V} {ds : List PyData} (h : Dp K F v (.tuple ds)) : ∃ a xs, v = .ref a ∧ SqT K F a xs ∧ DpAll K F xs ds := by
  cases h with
  | tup h1 h2 => exact ⟨_, _, rfl, h1, h2⟩
theorem Dp.lst_inv {K : PySem.W.Frag} {F : Hp} {v : V} {ds : List PyData} (h : Dp K F v (.list ds)) : ∃ a xs, v = .ref a ∧ SqL K F a xs ∧ DpAll K F xs ds := by
  cases h with
  | lst h1 h2 => exact ⟨_, _, rfl, h1, h2⟩
theorem DpAll.ints_inv {K : PySem.W.Frag} {F : Hp} : ∀ {ns : List Int} {vs : List V}, DpAll K F vs (ns.map PyData.int) → vs = ns.map V.int
  | [], _, h => by cases h; rfl
  | n :: ns, _, h => by
    cases h with
    | cons h1 h2 => rw [Dp.int_inv h1, DpAll.ints_inv h2]; rfl
theorem DpAll.bools_inv {K : PySem.W.Frag} {F : Hp} : ∀ {ns : List Bool} {vs : List V}, DpAll K F vs (ns.map PyData.bool) → vs = ns.map V.bl
  | [], _, h => by cases h; rfl
  | n :: ns, _, h => by
    cases h with
    | cons h1 h2 => rw [Dp.bool_inv h1, DpAll.bools_inv h2]; rfl

end L2
namespace DW
open PySem PySem.Spec PyProof.Rows L2
/-! ### the state -/
/-- a slot: unknown, data, an own object -/
inductive SV where
  | u | d (x : PyData) | h (k : Nat)
/-- an own object: a list, a dict with nested tuples as keys, one that is given away -/
inductive MO where
  | l (xs : List PyData) | m (kvs : List (NestedKey × PyData)) | dead
structure Bs where
  W : List Addr
  F : Hp
  H : Hp
abbrev DE := NestedKey × Addr × V
def dictPhi (P : Program) (w : World) (a : Addr) (es : List DE) : Heap → Prop := fun h => (a == sysModules) = false ∧ es.length ≤ sizeLine ∧ (es.map (·.1)).Nodup ∧ ∃ xs : List (NestedKey × Addr × Value),
  Paired (fun (p : DE) (q : NestedKey × Addr × Value) => p.1 = q.1 ∧ p.2.1 = q.2.1 ∧ RelV p.2.2 q.2.2) es xs ∧
  ∃ o ents ep, h.get? a = some o ∧ o.ExactDict ∧ o.data = .dict ents ep ∧ ents.toList = xs.map (entryOfKey (nestedKind P w))
def dictHO (P : Program) (w : World) (a : Addr) (es : List DE) : HO := .ext (dictPhi P w a es)
def SlotOk (K : PySem.W.Frag) (F : Hp) (as : List Addr) (o : Option (Option V)) : SV → Prop
  | .u => True
  | .d x => ∃ v, o = some (some v) ∧ Dp K F v x
  | .h k => ∃ a, as[k]? = some a ∧ o = some (some (.ref a))
def EntOk (K : PySem.W.Frag) (F : Hp) (e : DE) (p : NestedKey × PyData) : Prop := e.1 = p.1 ∧ p.1.depth ≤ 8 ∧ Dp K F (.ref e.2.1) p.1.data ∧ Dp K F e.2.2 p.2
def MOk (P : Program) (w : World) (K : PySem.W.Frag) (F H : Hp) (a : Addr) : MO → Prop
  | .l xs => F a = none ∧ ∃ vs, H a = some (.lst vs) ∧ DpAll K F vs xs
  | .m kvs => F a = none ∧ ∃ es, H a = some (dictHO P w a es) ∧ Paired (EntOk K F) es kvs
  | .dead => True
structure SR (X : Cx) (B : Bs) (F H : Hp) (σ : L2.St) (ρ : List SV) (μ : List MO) (as : List Addr) : Prop where
  b1 : Same B.F F
  fh : Same F H
  kp : ∀ p o, B.H p = some o → p ∉ B.W → H p = some o
  kn : ∀ p, B.H p ≠ none → H p ≠ none
  nm : ∀ p, B.H p ≠ none → B.F p = none → F p = none
  sl : ∀ (i : Nat) (sv : SV), ρ[i]? = some sv → SlotOk X.K F as σ[i]? sv
  sz : ρ.length = σ.length
  mu : ∀ (k : Nat) (m : MO), μ[k]? = some m → ∃ a, as[k]? = some a ∧ MOk X.prog X.w X.K F H a m
  ln : as.length = μ.length
  nd : as.Nodup
  al : ∀ a ∈ as, H a ≠ none
  fr : ∀ a ∈ as, a ∈ B.W ∨ B.H a = none
  ww : ∀ a ∈ B.W, a ∈ as

section
variable {X : Cx} {B : Bs} {F H F' H' : Hp} {σ : L2.St} {ρ : List SV} {μ : List MO} {as : List Addr}
theorem SlotOk.up {K : PySem.W.Frag} (e : Same F F') {o : Option (Option V)} {sv : SV} (h : SlotOk K F as o sv) : SlotOk K F' as o sv := by
  cases sv with
  | u => trivial
  | d x => obtain ⟨v, q1, q2⟩ := h; exact ⟨v, q1, q2.up e⟩
  | h k => exact h
theorem paired_imp {α β : Type} {G G' : α → β → Prop} (f : ∀ a b, G a b → G' a b) {l₁ : List α} {l₂ : List β} (h : Paired G l₁ l₂) : Paired G' l₁ l₂ := Paired.mapP h f
/-- F grows where the object is not an own one, H grows -/
theorem MOk.up {P : Program} {w : World} {K : PySem.W.Frag} {a : Addr} {m : MO} (h : MOk P w K F H a m) (e : Same F F') (e2 : Same H H') (n : F a = none → H a ≠ none → F' a = none) : MOk P w K F' H' a m := by
  cases m with
  | l xs => obtain ⟨h1, vs, h2, h3⟩ := h; exact ⟨n h1 (by rw [h2]; simp), vs, e2 _ _ h2, h3.up e⟩
  | m kvs => obtain ⟨h1, es, h2, h3⟩ := h; exact ⟨n h1 (by rw [h2]; simp), es, e2 _ _ h2, Paired.mapP h3 fun p q z => ⟨z.1, z.2.1, z.2.2.1.up e, z.2.2.2.up e⟩⟩
  | dead => trivial
theorem SR.freeF (R : SR X B F H σ ρ μ as) {p : Addr} (h : H p = none) : F p = none := by
  cases q : F p with
  | none => rfl
  | some o => rw [R.fh _ _ q] at h; cases h
theorem SR.freeB (R : SR X B F H σ ρ μ as) {p : Addr} (h : H p = none) : B.H p = none := by
  cases q : B.H p with
  | none => rfl
  | some o => exact absurd h (R.kn p (by rw [q]; simp))
theorem SR.freeA (R : SR X B F H σ ρ μ as) {p : Addr} (h : H p = none) : p ∉ as := fun z => R.al p z h
/-- the heap grows -/
theorem SR.up (R : SR X B F H σ ρ μ as) (e : Same H H') : SR X B F H' σ ρ μ as where
  b1 := R.b1
  fh := R.fh.trans e
  kp := fun p o h n => e _ _ (R.kp p o h n)
  kn := fun p h => by
    cases q : H p with
    | none => exact absurd q (R.kn p h)
    | some o => rw [e _ _ q]; simp
  nm := R.nm
  sl := R.sl
  sz := R.sz
  mu := fun k m h => let ⟨a, q1, q2⟩ := R.mu k m h; ⟨a, q1, q2.up same_refl e fun z _ => z⟩
  ln := R.ln
  nd := R.nd
  al := fun a h => by
    cases q : H a with
    | none => exact absurd q (R.al a h)
    | some o => rw [e _ _ q]; simp
  fr := R.fr
  ww := R.ww
theorem same_new {p : Addr} {o : HO} (h : H p = none) : Same H (upd H p o) := fun b x e => by
  rw [upd_ne (ne_of_none e h)]
  exact e
/-- an object of the heap that is no own one becomes data -/
theorem SR.take (R : SR X B F H σ ρ μ as) {p : Addr} {o : HO} (h : H p = some o) (hF : F p = none) (hB : B.H p = none) (hA : p ∉ as) : SR X B (upd F p o) H σ ρ μ as where
  b1 := fun a u q => by
    have q1 := R.b1 a u q
    rw [upd_ne (ne_of_none q1 hF)]
    exact q1
  fh := fun a u q => by
    by_cases e : a = p
    · subst e
      rw [upd_same] at q
      rw [h]
      exact q
    · rw [upd_ne e] at q
      exact R.fh a u q
  kp := R.kp
  kn := R.kn
  nm := fun a h1 h2 => by
    by_cases e : a = p
    · subst e; exact absurd hB h1
    · rw [upd_ne e]; exact R.nm a h1 h2
  sl := fun i sv q => (R.sl i sv q).up (same_new hF)
  sz := R.sz
  mu := fun k m q => by
    obtain ⟨a, q1, q2⟩ := R.mu k m q
    refine ⟨a, q1, q2.up (same_new hF) same_refl fun z _ => ?_⟩
    have hm : a ∈ as := List.mem_of_getElem? q1
    have hne : a ≠ p := fun e => hA (by rw [← e]; exact hm)
    rw [upd_ne hne]
    exact z
  ln := R.ln
  nd := R.nd
  al := R.al
  fr := R.fr
  ww := R.ww
/-- a new object that is data -/
theorem SR.data (R : SR X B F H σ ρ μ as) {p : Addr} {o : HO} (h : H p = none) : SR X B (upd F p o) (upd H p o) σ ρ μ as :=
  (R.up (same_new h)).take upd_same (R.freeF h) (R.freeB h) (R.freeA h)
/-- a slot is stored -/
theorem SR.store (R : SR X B F H σ ρ μ as) {i : Nat} {v : V} {d : PyData} (h : Dp X.K F v d) : SR X B F H (σ.set i (some v)) (ρ.set i (.d d)) μ as where
  b1 := R.b1
  fh := R.fh
  kp := R.kp
  kn := R.kn
  nm := R.nm
  sl := fun j sv q => by
    by_cases e : i = j
    · subst e
      by_cases hi : i < ρ.length
      · rw [List.getElem?_set_self hi] at q
        have q' := Option.some.inj q
        subst q'
        exact ⟨v, List.getElem?_set_self (by rw [← R.sz]; exact hi), h⟩
      · rw [List.getElem?_eq_none (by simpa using hi)] at q
        cases q
    · rw [List.getElem?_set_ne e] at q
      rw [List.getElem?_set_ne e]
      exact R.sl j sv q
  sz := by rw [List.length_set, List.length_set]; exact R.sz
  mu := R.mu
  ln := R.ln
  nd := R.nd
  al := R.al
  fr := R.fr
  ww := R.ww
/-- an own object changes -/
theorem SR.change (R : SR X B F H σ ρ μ as) {k : Nat} {a : Addr} {o : HO} {m : MO} (ha : as[k]? = some a) (hF : F a = none) (hm : MOk X.prog X.w X.K F (upd H a o) a m) : SR X B F (upd H a o) σ ρ (μ.set k m) as where
  b1 := R.b1
  fh := fun b u q => by
    rw [upd_ne (ne_of_none q hF)]
    exact R.fh b u q
  kp := fun b u q n => by
    have hm : a ∈ as := List.mem_of_getElem? ha
    by_cases e : b = a
    · subst e
      rcases R.fr _ hm with z | z
      · exact absurd z n
      · rw [q] at z; cases z
    · rw [upd_ne e]; exact R.kp b u q n
  kn := fun b h => by
    by_cases e : b = a
    · subst e; rw [upd_same]; simp
    · rw [upd_ne e]; exact R.kn b h
  nm := R.nm
  sl := R.sl
  sz := R.sz
  mu := fun j n q => by
    by_cases e : k = j
    · subst e
      by_cases hk : k < μ.length
      · rw [List.getElem?_set_self hk] at q
        have q' := Option.some.inj q
        subst q'
        exact ⟨a, ha, hm⟩
      · rw [List.getElem?_eq_none (by simpa using hk)] at q
        cases q
    · rw [List.getElem?_set_ne e] at q
      obtain ⟨b, q1, q2⟩ := R.mu j n q
      refine ⟨b, q1, ?_⟩
      have hb : b ≠ a := fun z => by
        subst z
        exact e (nd_ix R.nd ha q1)
      cases n with
      | l xs => obtain ⟨h1, vs, h2, h3⟩ := q2; exact ⟨h1, vs, by rw [upd_ne hb]; exact h2, h3⟩
      | m kvs => obtain ⟨h1, es, h2, h3⟩ := q2; exact ⟨h1, es, by rw [upd_ne hb]; exact h2, h3⟩
      | dead => trivial
  ln := by rw [List.length_set]; exact R.ln
  nd := R.nd
  al := fun b h => by
    by_cases e : b = a
    · subst e; rw [upd_same]; simp
    · rw [upd_ne e]; exact R.al b h
  fr := R.fr
  ww := R.ww
/-- a new own object, at a slot -/
theorem SR.own (R : SR X B F H σ ρ μ as) {i : Nat} {p : Addr} {m : MO} (hH : H p ≠ none) (hB : B.H p = none) (hA : p ∉ as) (hm : MOk X.prog X.w X.K F H p m) : SR X B F H (σ.set i (some (.ref p))) (ρ.set i (.h μ.length)) (μ ++ [m]) (as ++ [p]) where
  b1 := R.b1
  fh := R.fh
  kp := R.kp
  kn := R.kn
  nm := R.nm
  sl := fun j sv q => by
    by_cases e : i = j
    · subst e
      by_cases hi : i < ρ.length
      · rw [List.getElem?_set_self hi] at q
        have q' := Option.some.inj q
        subst q'
        refine ⟨p, ?_, List.getElem?_set_self (by rw [← R.sz]; exact hi)⟩
        rw [← R.ln]
        simp
      · rw [List.getElem?_eq_none (by simpa using hi)] at q
        cases q
    · rw [List.getElem?_set_ne e] at q
      rw [List.getElem?_set_ne e]
      have z := R.sl j sv q
      cases sv with
      | u => trivial
      | d x => exact z
      | h k =>
        obtain ⟨a, z1, z2⟩ := z
        exact ⟨a, by rw [List.getElem?_append_left (List.getElem?_eq_some_iff.mp z1).1]; exact z1, z2⟩
  sz := by rw [List.length_set, List.length_set]; exact R.sz
  mu := fun k n q => by
    by_cases hk : k < μ.length
    · rw [List.getElem?_append_left hk] at q
      obtain ⟨a, z1, z2⟩ := R.mu k n q
      exact ⟨a, by rw [List.getElem?_append_left (List.getElem?_eq_some_iff.mp z1).1]; exact z1, z2⟩
    · have hk2 : k = μ.length := by
        have h1 : k < (μ ++ [m]).length := (List.getElem?_eq_some_iff.mp q).1
        rw [List.length_append, List.length_singleton] at h1
        omega
      subst hk2
      rw [List.getElem?_append_right (Nat.le_refl _), Nat.sub_self] at q
      have q' := Option.some.inj q
      subst q'
      refine ⟨p, ?_, hm⟩
      rw [← R.ln]
      simp
  ln := by rw [List.length_append, List.length_append, R.ln]; rfl
  nd := by
    rw [List.nodup_append]
    refine ⟨R.nd, by simp, fun a ha b hb e => ?_⟩
    have hb' : b = p := by simpa using hb
    subst hb'
    subst e
    exact hA ha
  al := fun a h => by
    rcases List.mem_append.mp h with h | h
    · exact R.al a h
    · have h' : a = p := by simpa using h
      subst h'
      exact hH
  fr := fun a h => by
    rcases List.mem_append.mp h with h | h
    · exact R.fr a h
    · have h' : a = p := by simpa using h
      subst h'
      exact .inr hB
  ww := fun a h => List.mem_append_left _ (R.ww a h)
/-- less is known of the slots -/
inductive Wk : List SV → List SV → Prop
  | nil : Wk [] []
  | keep {s : SV} {a b : List SV} : Wk a b → Wk (s :: a) (s :: b)
  | drop {s : SV} {a b : List SV} : Wk a b → Wk (s :: a) (.u :: b)
theorem Wk.refl : ∀ a : List SV, Wk a a
  | [] => .nil
  | _ :: a => .keep (Wk.refl a)
theorem Wk.trans : ∀ {a b c : List SV}, Wk a b → Wk b c → Wk a c
  | _, _, _, .nil, .nil => .nil
  | _, _, _, .keep h, .keep h' => .keep (Wk.trans h h')
  | _, _, _, .keep h, .drop h' => .drop (Wk.trans h h')
  | _, _, _, .drop h, .keep h' => .drop (Wk.trans h h')
  | _, _, _, .drop h, .drop h' => .drop (Wk.trans h h')
theorem Wk.len {a b : List SV} (h : Wk a b) : a.length = b.length := by
  induction h with
  | nil => rfl
  | keep _ ih => rw [List.length_cons, List.length_cons, ih]
  | drop _ ih => rw [List.length_cons, List.length_cons, ih]
theorem Wk.get {a b : List SV} (h : Wk a b) : ∀ (i : Nat) (sv : SV), b[i]? = some sv → sv = .u ∨ a[i]? = some sv := by
  induction h with
  | nil => intro i sv q; exact .inr q
  | keep _ ih =>
    intro i sv q
    cases i with
    | zero => exact .inr q
    | succ i => exact ih i sv q
  | drop _ ih =>
    intro i sv q
    cases i with
    | zero => exact .inl (Option.some.inj q).symm
    | succ i => exact ih i sv q
theorem SR.weak (R : SR X B F H σ ρ μ as) {ρ' : List SV} (h : Wk ρ ρ') : SR X B F H σ ρ' μ as :=
  { R with
    sl := fun i sv q => by
      rcases h.get i sv q with z | z
      · subst z; trivial
      · exact R.sl i sv z
    sz := by rw [← h.len]; exact R.sz }
/-- an own list is given to the data: slots that held it hold data -/
def frz (k : Nat) (xs : List PyData) : SV → SV
  | .h j => if j = k then .d (.list xs) else .h j
  | s => s
theorem SR.freeze (R : SR X B F H σ ρ μ as) {k : Nat} {a : Addr} {xs : List PyData} (ha : as[k]? = some a) (hm : μ[k]? = some (.l xs)) (hB : B.H a = none) :
    ∃ o, H a = some o ∧ Dp X.K (upd F a o) (.ref a) (.list xs) ∧ Same F (upd F a o) ∧ SR X B (upd F a o) H σ (ρ.map (frz k xs)) (μ.set k .dead) as := by
  obtain ⟨a', e1, h1, vs, h2, h3⟩ := R.mu k _ hm
  rw [ha] at e1
  have e1' := Option.some.inj e1
  subst e1'
  have hs : Same F (upd F a (.lst vs)) := same_new h1
  have hd : Dp X.K (upd F a (.lst vs)) (.ref a) (.list xs) := .lst (.inl (.inl upd_same)) (h3.up hs)
  refine ⟨.lst vs, h2, hd, hs, ?_⟩
  refine ⟨R.b1.trans hs, fun b u q => ?_, R.kp, R.kn, fun b z1 z2 => ?_, fun i sv q => ?_, by rw [List.length_map]; exact R.sz, fun j n q => ?_, by rw [List.length_set]; exact R.ln, R.nd, R.al, R.fr, R.ww⟩
  · by_cases e : b = a
    · subst e; rw [upd_same] at q; rw [h2]; exact q
    · rw [upd_ne e] at q; exact R.fh b u q
  · by_cases e : b = a
    · subst e; exact absurd hB z1
    · rw [upd_ne e]; exact R.nm b z1 z2
  · rw [List.getElem?_map] at q
    cases q0 : ρ[i]? with
    | none => rw [q0] at q; cases q
    | some s0 =>
      rw [q0] at q
      have q' : frz k xs s0 = sv := Option.some.inj q
      subst q'
      have z := R.sl i s0 q0
      cases s0 with
      | u => trivial
      | d x => exact z.up hs
      | h j =>
        obtain ⟨b, z1, z2⟩ := z
        by_cases e : j = k
        · subst e
          rw [ha] at z1
          have z1' := Option.some.inj z1
          subst z1'
          show SlotOk X.K _ as σ[i]? (if j = j then SV.d (.list xs) else SV.h j)
          rw [if_pos rfl]
          exact ⟨_, z2, hd⟩
        · show SlotOk X.K _ as σ[i]? (if j = k then SV.d (.list xs) else SV.h j)
          rw [if_neg e]
          exact ⟨b, z1, z2⟩
  · by_cases e : k = j
    · subst e
      by_cases hk : k < μ.length
      · rw [List.getElem?_set_self hk] at q
        have q' := Option.some.inj q
        subst q'
        exact ⟨a, ha, trivial⟩
      · rw [List.getElem?_eq_none (by simpa using hk)] at q
        cases q
    · rw [List.getElem?_set_ne e] at q
      obtain ⟨b, z1, z2⟩ := R.mu j n q
      refine ⟨b, z1, z2.up hs same_refl fun z _ => ?_⟩
      have hb : b ≠ a := fun z => by
        subst z
        exact e (nd_ix R.nd ha z1)
      rw [upd_ne hb]
      exact z
end
end DW

/-! Dw1: the judgements; expressions. -/
namespace DW
open PySem PySem.Spec PyProof.Rows L2

/-! ### how the heap grows -/
structure Gr (as : List Addr) (F H F' H' : Hp) : Prop where
  ff : Same F F'
  hk : ∀ p o, p ∉ as → H p = some o → H' p = some o
  hn : ∀ p, H p ≠ none → H' p ≠ none
  nm : ∀ p, H p ≠ none → F p = none → F' p = none
section
variable {as : List Addr} {F H F1 H1 F2 H2 F' H' : Hp}
theorem Gr.refl : Gr as F H F H := ⟨same_refl, fun _ _ _ h => h, fun _ h => h, fun _ _ h => h⟩
theorem Gr.trans (a : Gr as F H F1 H1) (b : Gr as F1 H1 F2 H2) : Gr as F H F2 H2 :=
  ⟨a.ff.trans b.ff, fun p o n h => b.hk p o n (a.hk p o n h), fun p h => b.hn p (a.hn p h), fun p h n => b.nm p (a.hn p h) (a.nm p h n)⟩
/-- nothing, or one new object that is data -/
def New (F H F' H' : Hp) : Prop := (F' = F ∧ H' = H) ∨ ∃ p o, H p = none ∧ F' = upd F p o ∧ H' = upd H p o
theorem New.refl : New F H F H := .inl ⟨rfl, rfl⟩
theorem New.mk {p : Addr} {o : HO} (h : H p = none) : New F H (upd F p o) (upd H p o) := .inr ⟨p, o, h, rfl, rfl⟩
theorem freeS {p : Addr} (e : Same F H) (h : H p = none) : F p = none := by
  cases q : F p with
  | none => rfl
  | some o => rw [e _ _ q] at h; cases h
theorem Gr.data {p : Addr} {o : HO} (e : Same F H) (h : H p = none) : Gr as F H (upd F p o) (upd H p o) where
  ff := same_new (freeS e h)
  hk := fun q u _ z => same_new h q u z
  hn := fun q z => by
    cases u : H q with
    | none => exact absurd u z
    | some u' => rw [same_new h q u' u]; simp
  nm := fun q z1 z2 => by
    have hq : q ≠ p := fun e => z1 (by rw [e]; exact h)
    rw [upd_ne hq]
    exact z2
theorem New.gr (n : New F H F' H') (e : Same F H) : Gr as F H F' H' := by
  rcases n with ⟨rfl, rfl⟩ | ⟨p, o, h, rfl, rfl⟩
  · exact Gr.refl
  · exact Gr.data e h
theorem New.fh (n : New F H F' H') (e : Same F H) : Same F' H' := by
  rcases n with ⟨rfl, rfl⟩ | ⟨p, o, h, rfl, rfl⟩
  · exact e
  · intro a u q
    by_cases z : a = p
    · subst z; rw [upd_same] at q ⊢; exact q
    · rw [upd_ne z] at q ⊢; exact e a u q
end
section
variable {X : Cx} {B : Bs} {F H F' H' : Hp} {σ : L2.St} {ρ : List SV} {μ : List MO} {as : List Addr}
theorem SR.new (R : SR X B F H σ ρ μ as) (n : New F H F' H') : SR X B F' H' σ ρ μ as := by
  rcases n with ⟨rfl, rfl⟩ | ⟨p, o, h, rfl, rfl⟩
  · exact R
  · exact R.data h
/-- behind a call that leaves the own objects -/
theorem SR.gr0 (R : SR X B F H σ ρ μ as) (g : Gr [] F H F' H') (e : Same F' H') : SR X B F' H' σ ρ μ as where
  b1 := R.b1.trans g.ff
  fh := e
  kp := fun p o h n => g.hk p o (by simp) (R.kp p o h n)
  kn := fun p h => g.hn p (R.kn p h)
  nm := fun p h n => g.nm p (R.kn p h) (R.nm p h n)
  sl := fun i sv q => (R.sl i sv q).up g.ff
  sz := R.sz
  mu := fun k m q => let ⟨a, q1, q2⟩ := R.mu k m q; ⟨a, q1, q2.up g.ff (fun p o h => g.hk p o (by simp) h) fun z n => g.nm a n z⟩
  ln := R.ln
  nd := R.nd
  al := fun a h => g.hn a (R.al a h)
  fr := R.fr
  ww := R.ww
theorem Gr.widen {as : List Addr} {F H F' H' : Hp} (g : Gr [] F H F' H') : Gr as F H F' H' := ⟨g.ff, fun p o _ h => g.hk p o (by simp) h, g.hn, g.nm⟩
/-- behind a call that may have changed the own object k -/
theorem SR.gr1 (R : SR X B F H σ ρ μ as) {k : Nat} {a : Addr} {xs' : List PyData} (ha : as[k]? = some a) (g : Gr [a] F H F' H') (e : Same F' H') (hF : F a = none) (hm : MOk X.prog X.w X.K F' H' a (.l xs')) : SR X B F' H' σ ρ (μ.set k (.l xs')) as where
  b1 := R.b1.trans g.ff
  fh := e
  kp := fun p o h n => by
    refine g.hk p o (fun z => ?_) (R.kp p o h n)
    have z' : p = a := by simpa using z
    subst z'
    rcases R.fr _ (List.mem_of_getElem? ha) with q | q
    · exact n q
    · rw [h] at q; cases q
  kn := fun p h => g.hn p (R.kn p h)
  nm := fun p h n => g.nm p (R.kn p h) (R.nm p h n)
  sl := fun i sv q => (R.sl i sv q).up g.ff
  sz := R.sz
  mu := fun j n q => by
    by_cases e : k = j
    · subst e
      by_cases hk : k < μ.length
      · rw [List.getElem?_set_self hk] at q
        have q' := Option.some.inj q
        subst q'
        exact ⟨a, ha, hm⟩
      · rw [List.getElem?_eq_none (by simpa using hk)] at q
        cases q
    · rw [List.getElem?_set_ne e] at q
      obtain ⟨b, q1, q2⟩ := R.mu j n q
      refine ⟨b, q1, ?_⟩
      have hb : b ≠ a := fun z => by
        subst z
        exact e (nd_ix R.nd ha q1)
      cases n with
      | l xs => obtain ⟨h1, vs, h2, h3⟩ := q2; exact ⟨g.nm b (by rw [h2]; simp) h1, vs, g.hk b _ (by simpa using hb) h2, h3.up g.ff⟩
      | m kvs => obtain ⟨h1, es, h2, h3⟩ := q2; exact ⟨g.nm b (by rw [h2]; simp) h1, es, g.hk b _ (by simpa using hb) h2, Paired.mapP h3 fun p q z => ⟨z.1, z.2.1, z.2.2.1.up g.ff, z.2.2.2.up g.ff⟩⟩
      | dead => trivial
  ln := by rw [List.length_set]; exact R.ln
  nd := R.nd
  al := fun b h => g.hn b (R.al b h)
  fr := R.fr
  ww := R.ww
end

/-! ### the judgements -/
structure EV (X : Cx) (e : Expr) (ρ : List SV) (μ : List MO) (d : PyData) (μ' : List MO) : Prop where
  run : ∀ B F H σ as, SR X B F H σ ρ μ as → ∀ Q : VK, (∀ v F' H', SR X B F' H' σ ρ μ' as → Gr as F H F' H' → Dp X.K F' v d → Q v H') → wpE X e σ H Q
/-- a new list -/
structure EF (X : Cx) (e : Expr) (ρ : List SV) (μ : List MO) (xs : List PyData) (μ' : List MO) : Prop where
  run : ∀ B F H σ as, SR X B F H σ ρ μ as → ∀ Q : VK, (∀ p vs F' H', SR X B F' H' σ ρ μ' as → Gr as F H F' H' → H p = none → F' p = none → H' p = some (.lst vs) → DpAll X.K F' vs xs → Q (.ref p) H') → wpE X e σ H Q
structure TV (X : Cx) (e : Expr) (ρ : List SV) (μ : List MO) (b : Bool) (μ' : List MO) : Prop where
  run : ∀ B F H σ as, SR X B F H σ ρ μ as → ∀ Q : Bool → Hp → Prop, (∀ F' H', SR X B F' H' σ ρ μ' as → Gr as F H F' H' → Q b H') → wpT X e σ H Q
structure AV (X : Cx) (es : List Expr) (ρ : List SV) (μ : List MO) (ds : List PyData) (μ' : List MO) : Prop where
  run : ∀ B F H σ as, SR X B F H σ ρ μ as → ∀ Q : List V → Hp → Prop, (∀ vs F' H', SR X B F' H' σ ρ μ' as → Gr as F H F' H' → DpAll X.K F' vs ds → Q vs H') → wpA X es σ H Q
section
variable {X : Cx} {e a b c : Expr} {es : List Expr} {ρ : List SV} {μ μ1 μ2 μ' : List MO} {d d1 d2 : PyData} {ds xs ys : List PyData} {pos p : Pos}
theorem ev_of_ef (h : EF X e ρ μ xs μ') : EV X e ρ μ (.list xs) μ' := .mk fun B F H σ as R Q q =>
  h.run B F H σ as R Q fun p vs F' H' R' g hp hF hH hd => q (.ref p) (upd F' p (.lst vs)) H' (R'.take hH hF (R.freeB hp) (R.freeA hp))
    ⟨g.ff.trans (same_new hF), g.hk, g.hn, fun r z1 z2 => by
      have hr : r ≠ p := fun e => z1 (by rw [e]; exact hp)
      rw [upd_ne hr]
      exact g.nm r z1 z2⟩ (.lst (.inl (.inl upd_same)) (hd.up (same_new hF)))

/-! ### names, constants, displays -/
theorem ev_name (i : Nat) {x : Str} (hρ : ρ[i]? = some (.d d)) (hN : X.N[i]? = some x := by kernel_rfl) (hv : visB X.env.scope x = true := by kernel_rfl) : EV X (.Name x pos) ρ μ d μ := .mk fun B F H σ as R Q q => by
  obtain ⟨v, e1, e2⟩ := R.sl i _ hρ
  exact wpE_of (pe_var hN (visB_vis hv) (visB_d hv) (visB_c hv)) ⟨v, e1, q v F H R Gr.refl e2⟩
/-- a constant of the module -/
structure GlD (K : PySem.W.Frag) (mg : Str → Option Value) (x : Str) (d : PyData) : Prop where
  ex : ∃ v u, mg x = some u ∧ RelV v u ∧ ∀ F, Dp K F v d
theorem ev_glob {x : Str} (g : GlD X.K X.mg x d) (hg : Gl X x := by unfold Gl; kernel_rfl) (hd : (x == ("__debug__" : Str)) = false := by decide) : EV X (.Name x pos) ρ μ d μ := .mk fun B F H σ as R Q q => by
  obtain ⟨v, u, e1, e2, e3⟩ := g.ex
  exact wpE_of (pe_glob hg e1 e2 hd) (q v F H R Gr.refl (e3 F))
theorem ev_int {i : Int} {j : Nat} : EV X (.Constant (.int i) j pos) ρ μ (.int i) μ := .mk fun B F H σ as R Q q => wpE_of pe_int (q _ F H R Gr.refl (.int i))
theorem ev_bl {b : Bool} {j : Nat} : EV X (.Constant (.bool b) j pos) ρ μ (.bool b) μ := .mk fun B F H σ as R Q q => wpE_of pe_bl (q _ F H R Gr.refl (.bl b))
theorem av_nil : AV X [] ρ μ [] μ := .mk fun B F H σ as R Q q => wpA_of pa_nil (q [] F H R Gr.refl .nil)
theorem av_cons (ha : EV X e ρ μ d μ1) (hr : AV X es ρ μ1 ds μ2) (hs : starEach (e :: es) X.env = (false, eval e X.env) :: starEach es X.env := by kernel_rfl) : AV X (e :: es) ρ μ (d :: ds) μ2 := .mk fun B F H σ as R Q q =>
  wpA_of (pa_cons (peW (e := e)) (paW (es := es)) hs) (ha.run B F H σ as R _ fun v F1 H1 R1 g1 d1 => hr.run B F1 H1 σ as R1 _ fun vs F2 H2 R2 g2 d2 => q (v :: vs) F2 H2 R2 (g1.trans g2) (.cons (d1.up g2.ff) d2))
theorem ev_tup {k : Nat} (h : AV X es ρ μ ds μ') (hz : Nat.ble ds.length 1000 = true := by kernel_rfl) : EV X (.Tuple es k pos) ρ μ (.tuple ds) μ' := .mk fun B F H σ as R Q q =>
  wpE_of (pe_tup (paW (es := es))) (h.run B F H σ as R _ fun vs F1 H1 R1 g1 d1 => ⟨by
    have h1 := Nat.le_of_ble_eq_true hz
    have h2 := d1.len
    rw [sizeLine_eq]
    omega, fun p hp => q (.ref p) _ _ (R1.data hp) (g1.trans (Gr.data R1.fh hp)) (.tup (.inl (.inl upd_same)) (d1.up (same_new (R1.freeF hp))))⟩)
theorem ef_lst (h : AV X es ρ μ ds μ') (hz : Nat.ble ds.length 1000 = true := by kernel_rfl) : EF X (.List es pos) ρ μ ds μ' := .mk fun B F H σ as R Q q =>
  wpE_of (pe_lst (paW (es := es))) (h.run B F H σ as R _ fun vs F1 H1 R1 g1 d1 => ⟨by
    have h1 := Nat.le_of_ble_eq_true hz
    have h2 := d1.len
    rw [sizeLine_eq]
    omega, fun p hp => q p vs F1 _ (R1.up (same_new hp)) (g1.trans ⟨same_refl, fun r o _ z => same_new hp r o z, fun r z => by
      cases u : H1 r with
      | none => exact absurd u z
      | some u' => rw [same_new hp r u' u]; simp, fun _ _ z => z⟩) (by
        cases u : H p with
        | none => rfl
        | some u' => exact absurd hp (g1.hn p (by rw [u]; simp))) (R1.freeF hp) upd_same d1⟩)

/-! ### operators by values -/
def OV (X : Cx) (r : R2) (d1 d2 d : PyData) : Prop := ∀ F H v1 v2, Same F H → Dp X.K F v1 d1 → Dp X.K F v2 d2 → ∀ Q : VK, (∀ v F' H', New F H F' H' → Dp X.K F' v d → Q v H') → r v1 v2 H Q
def OF (X : Cx) (r : R2) (d1 d2 : PyData) (xs : List PyData) : Prop := ∀ F H v1 v2, Same F H → Dp X.K F v1 d1 → Dp X.K F v2 d2 → ∀ Q : VK, (∀ p vs, H p = none → DpAll X.K F vs xs → Q (.ref p) (upd H p (.lst vs))) → r v1 v2 H Q
theorem done_new {B : Bs} {F F1 H H1 F' H' : Hp} {σ : L2.St} {as : List Addr} (R1 : SR X B F1 H1 σ ρ μ as) (g1 : Gr as F H F1 H1) (n : New F1 H1 F' H') : SR X B F' H' σ ρ μ as ∧ Gr as F H F' H' := ⟨R1.new n, g1.trans (n.gr R1.fh)⟩
/-- what a new list leaves -/
theorem done_lst {B : Bs} {F F1 H H1 : Hp} {σ : L2.St} {as : List Addr} {p : Addr} {vs : List V} (R1 : SR X B F1 H1 σ ρ μ as) (g1 : Gr as F H F1 H1) (hp : H1 p = none) :
    SR X B F1 (upd H1 p (.lst vs)) σ ρ μ as ∧ Gr as F H F1 (upd H1 p (.lst vs)) ∧ H p = none ∧ F1 p = none ∧ (upd H1 p (.lst vs)) p = some (.lst vs) := by
  refine ⟨R1.up (same_new hp), g1.trans ⟨same_refl, fun r o _ z => same_new hp r o z, fun r z => ?_, fun _ _ z => z⟩, ?_, R1.freeF hp, upd_same⟩
  · cases u : H1 r with
    | none => exact absurd u z
    | some u' => rw [same_new hp r u' u]; simp
  · cases u : H p with
    | none => rfl
    | some u' => exact absurd hp (g1.hn p (by rw [u]; simp))
theorem ev_bin {op : Operator} {r : R2} (ho : OpR X (binaryOp op) r) (hr : OV X r d1 d2 d) (ha : EV X a ρ μ d1 μ1) (hb : EV X b ρ μ1 d2 μ2) : EV X (.BinOp a op b pos) ρ μ d μ2 := .mk fun B F H σ as R Q q =>
  wpE_of (pe_op ho (peW (e := a)) (peW (e := b))) (ha.run B F H σ as R _ fun v1 F1 H1 R1 g1 e1 => hb.run B F1 H1 σ as R1 _ fun v2 F2 H2 R2 g2 e2 =>
    hr F2 H2 v1 v2 R2.fh (e1.up g2.ff) e2 Q fun v F' H' n e => let z := done_new R2 (g1.trans g2) n; q v F' H' z.1 z.2 e)
theorem ef_bin {op : Operator} {r : R2} (ho : OpR X (binaryOp op) r) (hr : OF X r d1 d2 xs) (ha : EV X a ρ μ d1 μ1) (hb : EV X b ρ μ1 d2 μ2) : EF X (.BinOp a op b pos) ρ μ xs μ2 := .mk fun B F H σ as R Q q =>
  wpE_of (pe_op ho (peW (e := a)) (peW (e := b))) (ha.run B F H σ as R _ fun v1 F1 H1 R1 g1 e1 => hb.run B F1 H1 σ as R1 _ fun v2 F2 H2 R2 g2 e2 =>
    hr F2 H2 v1 v2 R2.fh (e1.up g2.ff) e2 Q fun p vs hp e => let z := done_lst R2 (g1.trans g2) hp; q p vs F2 _ z.1 z.2.1 z.2.2.1 z.2.2.2.1 z.2.2.2.2 e)
theorem ev_cmp {op : CmpOp} {r : R2} (ho : OpR X (compareOp op) r) (hr : OV X r d1 d2 d) (ha : EV X a ρ μ d1 μ1) (hb : EV X b ρ μ1 d2 μ2) (hm : behindInMarks op b = false := by first | exact nomark _ | rfl) : EV X (.Compare a [op] [b] pos) ρ μ d μ2 := .mk fun B F H σ as R Q q =>
  wpE_of (pe_cmpR ho (peW (e := a)) (peW (e := b)) hm) (ha.run B F H σ as R _ fun v1 F1 H1 R1 g1 e1 => hb.run B F1 H1 σ as R1 _ fun v2 F2 H2 R2 g2 e2 =>
    hr F2 H2 v1 v2 R2.fh (e1.up g2.ff) e2 Q fun v F' H' n e => let z := done_new R2 (g1.trans g2) n; q v F' H' z.1 z.2 e)
theorem tv_cmp {op : CmpOp} {r : R2} {k : Bool} (ho : OpR X (compareOp op) r) (hr : OV X r d1 d2 (.bool k)) (ha : EV X a ρ μ d1 μ1) (hb : EV X b ρ μ1 d2 μ2) (hm : behindInMarks op b = false := by first | exact nomark _ | rfl) : TV X (.Compare a [op] [b] pos) ρ μ k μ2 := .mk fun B F H σ as R Q q =>
  wpT_of (pt_cmpR ho (peW (e := a)) (peW (e := b)) hm) (ha.run B F H σ as R _ fun v1 F1 H1 R1 g1 e1 => hb.run B F1 H1 σ as R1 _ fun v2 F2 H2 R2 g2 e2 =>
    hr F2 H2 v1 v2 R2.fh (e1.up g2.ff) e2 _ fun v F' H' n e => let z := done_new R2 (g1.trans g2) n; ⟨k, e.bool_inv, q F' H' z.1 z.2⟩)
theorem ov_I0 {g : Int → Int → Int} {i j : Int} : OV X (rI0 fun i j => .int (g i j)) (.int i) (.int j) (.int (g i j)) := fun F H v1 v2 fh h1 h2 Q q => ⟨i, j, h1.int_inv, h2.int_inv, q _ F H New.refl (.int _)⟩
theorem ov_I {C : Int → Int → Prop} {g : Int → Int → Int} {i j : Int} (hc : C i j) : OV X (rI C fun i j => .int (g i j)) (.int i) (.int j) (.int (g i j)) := fun F H v1 v2 fh h1 h2 Q q => ⟨i, j, h1.int_inv, h2.int_inv, hc, q _ F H New.refl (.int _)⟩
theorem ov_add {i j : Int} : OV X (rI0 fun i j => .int (i + j)) (.int i) (.int j) (.int (i + j)) := ov_I0
theorem ov_sub {i j : Int} : OV X (rI0 fun i j => .int (i - j)) (.int i) (.int j) (.int (i - j)) := ov_I0
theorem ov_mul {i j : Int} (hc : CMulW i j) : OV X (rI CMulW fun i j => .int (i * j)) (.int i) (.int j) (.int (i * j)) := ov_I hc
theorem ov_mulS {i j : Int} (hc : CMul i j) : OV X (rI CMul fun i j => .int (i * j)) (.int i) (.int j) (.int (i * j)) := ov_I hc
theorem ov_fdiv {i j : Int} (hc : CDivW i j) : OV X (rI CDivW fun i j => .int (i / j)) (.int i) (.int j) (.int (i / j)) := ov_I hc
theorem ov_mod {i j : Int} (hc : 0 < j) : OV X (rI (fun _ j => 0 < j) fun i j => .int (i % j)) (.int i) (.int j) (.int (i % j)) := ov_I hc
theorem ov_pow {i j : Int} (hc : CPow i j) : OV X (rI CPow fun i j => .int (i ^ j.toNat)) (.int i) (.int j) (.int (i ^ j.toNat)) := ov_I hc
theorem ev_add {i j : Int} (ha : EV X a ρ μ (.int i) μ1) (hb : EV X b ρ μ1 (.int j) μ2) : EV X (.BinOp a .Add b pos) ρ μ (.int (i + j)) μ2 := ev_bin op_add ov_add ha hb
theorem ev_sub {i j : Int} (ha : EV X a ρ μ (.int i) μ1) (hb : EV X b ρ μ1 (.int j) μ2) : EV X (.BinOp a .Sub b pos) ρ μ (.int (i - j)) μ2 := ev_bin op_sub ov_sub ha hb
theorem ev_mul {i j : Int} (hc : CMulW i j) (ha : EV X a ρ μ (.int i) μ1) (hb : EV X b ρ μ1 (.int j) μ2) : EV X (.BinOp a .Mult b pos) ρ μ (.int (i * j)) μ2 := ev_bin op_mulW (ov_mul hc) ha hb
theorem ev_mulS {i j : Int} (hc : CMul i j) (ha : EV X a ρ μ (.int i) μ1) (hb : EV X b ρ μ1 (.int j) μ2) : EV X (.BinOp a .Mult b pos) ρ μ (.int (i * j)) μ2 := ev_bin op_mul (ov_mulS hc) ha hb
theorem ev_fdiv {i j : Int} (hc : CDivW i j) (ha : EV X a ρ μ (.int i) μ1) (hb : EV X b ρ μ1 (.int j) μ2) : EV X (.BinOp a .FloorDiv b pos) ρ μ (.int (i / j)) μ2 := ev_bin op_fdivW (ov_fdiv hc) ha hb
theorem ev_mod {i j : Int} (hc : 0 < j) (ha : EV X a ρ μ (.int i) μ1) (hb : EV X b ρ μ1 (.int j) μ2) : EV X (.BinOp a .Mod b pos) ρ μ (.int (i % j)) μ2 := ev_bin op_mod (ov_mod hc) ha hb
theorem ev_pow {i j : Int} (hc : CPow i j) (ha : EV X a ρ μ (.int i) μ1) (hb : EV X b ρ μ1 (.int j) μ2) : EV X (.BinOp a .Pow b pos) ρ μ (.int (i ^ j.toNat)) μ2 := ev_bin op_pow (ov_pow hc) ha hb
theorem ev_neg {i : Int} (ha : EV X a ρ μ (.int i) μ1) : EV X (.UnaryOp .USub a pos) ρ μ (.int (-i)) μ1 := .mk fun B F H σ as R Q q =>
  wpE_of (pe_un un_neg (peW (e := a))) (ha.run B F H σ as R _ fun v1 F1 H1 R1 g1 e1 => ⟨i, e1.int_inv, q _ F1 H1 R1 g1 (.int _)⟩)
/-- whole numbers compared -/
theorem ov_B0 {g : Int → Int → Bool} {i j : Int} : OV X (rI0 fun i j => .bl (g i j)) (.int i) (.int j) (.bool (g i j)) := fun F H v1 v2 fh h1 h2 Q q => ⟨i, j, h1.int_inv, h2.int_inv, q _ F H New.refl (.bl _)⟩
theorem ov_eqI {i j : Int} : OV X rEq (.int i) (.int j) (.bool (i == j)) := fun F H v1 v2 fh h1 h2 Q q => by
  rw [h1.int_inv, h2.int_inv]
  exact ⟨rfl, by rw [dec_int]; exact q _ F H New.refl (.bl _)⟩
theorem ov_neI {i j : Int} : OV X rNe (.int i) (.int j) (.bool (!(i == j))) := fun F H v1 v2 fh h1 h2 Q q => by
  rw [h1.int_inv, h2.int_inv]
  exact ⟨rfl, by rw [dec_int]; exact q _ F H New.refl (.bl _)⟩
theorem ov_neB {i j : Bool} : OV X rNe (.bool i) (.bool j) (.bool (!(i == j))) := fun F H v1 v2 fh h1 h2 Q q => by
  rw [h1.bool_inv, h2.bool_inv]
  exact ⟨rfl, by rw [dec_bl]; exact q _ F H New.refl (.bl _)⟩
/-- data compared -/
theorem ov_eqD (s1 : SeqAt.shaped d1 = true) (s2 : SeqAt.shaped d2 = true) : OV X (rEqD X.K) d1 d2 (.bool (PyData.eqv d1 d2)) := fun F H v1 v2 fh h1 h2 Q q => ⟨d1, d2, h1.up fh, h2.up fh, s1, s2, q _ F H New.refl (.bl _)⟩
theorem ov_neD (s1 : SeqAt.shaped d1 = true) (s2 : SeqAt.shaped d2 = true) : OV X (rNeD X.K) d1 d2 (.bool (!PyData.eqv d1 d2)) := fun F H v1 v2 fh h1 h2 Q q => ⟨d1, d2, h1.up fh, h2.up fh, s1, s2, q _ F H New.refl (.bl _)⟩
/-- an int in a tuple of ints -/
theorem inV_ints (i : Int) : ∀ ns : List Int, inV (.int i) (ns.map V.int) = decide (i ∈ ns)
  | [] => by simp [inV]
  | n :: ns => by
    have ih := inV_ints i ns
    unfold inV at ih ⊢
    rw [List.map_cons, List.any_cons, ih]
    show ((n == i) || decide (i ∈ ns)) = decide (i ∈ n :: ns)
    by_cases h : n = i
    · subst h; simp
    · have h' : ¬ i = n := fun e => h e.symm
      simp [h, h']
theorem flat_ints (ns : List Int) : (ns.map V.int).all flatV = true := by simp [flatV]
theorem ov_in {i : Int} {ns : List Int} : OV X (rIn X.K false) (.int i) (.tuple (ns.map .int)) (.bool (decide (i ∈ ns))) := fun F H v1 v2 fh h1 h2 Q q => by
  obtain ⟨a, xs, rfl, h3, h4⟩ := h2.tup_inv
  rw [h1.int_inv]
  have e := h4.ints_inv
  subst e
  refine ⟨a, _, rfl, .inr (sqt_mono fh h3), rfl, flat_ints ns, ?_⟩
  rw [if_neg Bool.false_ne_true, inV_ints]
  exact q _ F H New.refl (.bl _)
theorem ov_notin {i : Int} {ns : List Int} : OV X (rIn X.K true) (.int i) (.tuple (ns.map .int)) (.bool (!decide (i ∈ ns))) := fun F H v1 v2 fh h1 h2 Q q => by
  obtain ⟨a, xs, rfl, h3, h4⟩ := h2.tup_inv
  rw [h1.int_inv]
  have e := h4.ints_inv
  subst e
  refine ⟨a, _, rfl, .inr (sqt_mono fh h3), rfl, flat_ints ns, ?_⟩
  rw [if_pos rfl, inV_ints]
  exact q _ F H New.refl (.bl _)
/-- tuple + tuple, list + list -/
theorem ov_cat (hz : xs.length + ys.length ≤ 1000000) : OV X (rCatA X.K) (.tuple xs) (.tuple ys) (.tuple (xs ++ ys)) := fun F H v1 v2 fh h1 h2 Q q => by
  obtain ⟨a, vs, rfl, h3, h4⟩ := h1.tup_inv
  obtain ⟨b, ws, rfl, h5, h6⟩ := h2.tup_inv
  have l1 := h4.len
  have l2 := h6.len
  refine ⟨a, b, vs, ws, rfl, rfl, sqt_mono fh h3, sqt_mono fh h5, by rw [sizeLine_eq]; omega, fun e => ?_, fun _ e => ?_, fun _ _ p hp => ?_⟩
  · subst e
    cases h4
    exact q _ F H New.refl (.tup h5 h6)
  · subst e
    cases h6
    refine q _ F H New.refl (.tup h3 ?_)
    rw [List.append_nil]
    exact h4
  · have hF := freeS fh hp
    exact q _ _ _ (New.mk hp) (.tup (.inl (.inl upd_same)) ((h4.app h6).up (same_new hF)))
end
end DW

/-! Dw2: more operators at the library's level; expressions, continued. -/
namespace DW
open PySem PySem.Spec PyProof.Rows L2

/-! ### list + list, any two that are read -/
section
variable {X : Cx}
def rCatLs (K : PySem.W.Frag) : R2 := fun x y H Q => ∃ l b xs zs, x = .ref l ∧ y = .ref b ∧ SqL K H l xs ∧ SqL K H b zs ∧ xs.length + zs.length ≤ sizeLine ∧ ∀ p, H p = none → Q (.ref p) (upd H p (.lst (xs ++ zs)))
theorem op_catLs : OpR X (binaryOp .Add) (rCatLs X.K) := by
  intro pins s σ H x y v u Q I rx ry h
  obtain ⟨l, b, xs, zs, rfl, rfl, hH, hB, hz, q⟩ := h
  cases rx
  cases ry
  obtain ⟨its, r, p1, _⟩ := I.list hH
  obtain ⟨its2, r2, p2, _⟩ := I.list hB
  obtain ⟨⟨cls, dd, data, sl⟩, ho, hc, n, hd⟩ := p1.isList
  obtain ⟨⟨cls2, dd2, data2, sl2⟩, ho2, hc2, n2, hd2⟩ := p2.isList
  simp only at hc hd hc2 hd2
  subst hc hd hc2 hd2
  have e : its.toArray ++ its2.toArray = (its ++ its2).toArray := by simp
  have l1 := r.length
  have l2 := r2.length
  refine concat_meets ⟨_, ho, rfl⟩ ⟨_, ho2, rfl⟩ PySem.noFill_list_add PySem.seq_list_add PySem.F.slot_list_add PySem.F.entry_list_add (PySem.F.args_list_add_2 _ _)
    (list_addW l b its.toArray its2.toArray n n2 dd dd2 sl sl2 (by simp only [List.size_toArray]; omega)) ⟨ho, ho2, ?_⟩
  rw [e]
  exact ⟨.ref _, _, I.lnew (t' := s.toks) (r.append r2) (by rw [List.length_append]; omega), rfl, q _ I.fresh⟩

/-! ### tuple * 0, tuple * 1 -/
theorem tuple_mulZ (l : Addr) (items : Array Value) (n : Nat) (dd : Option Addr) (sl : Array (Option Value)) (x : Int) (u : Tok) (c0 : (decide (x < -(2 ^ 63)) || decide (x ≥ 2 ^ 63)) = false) (c1 : (items.isEmpty || x == 1) = false) (c2 : (decide (x ≤ 0) || items.isEmpty) = true) :
    Meets (Builtin.«tuple.__mul__» ⟨[.ref l, .int x u], []⟩) (fun _ R s => s.heap.get? l = some { cls := .type "tuple", dict := dd, data := .seq items n, slots := sl } ∧
      R (.ok (.ret (Value.ref s.heap.objs.size))) { s with heap := s.heap.push { cls := Value.type "tuple", data := Data.seq #[] }, toks := s.toks }) :=
  .of_wp fun prog w A R s h => by
    obtain ⟨hp, g, d, tk, os⟩ := s
    obtain ⟨hl, h⟩ := h
    have f1 := AutoSeq1.idx_int
    wp_walk using wpAny_loadPart' hl
    repeat (first
      | (refine wpAny_ite_false (decide_eq_false (by rw [c0]; exact Bool.false_ne_true)) ?_; wp_walk using wpAny_loadPart' hl)
      | (refine wpAny_ite_false (decide_eq_false (by rw [c1]; exact Bool.false_ne_true)) ?_; wp_walk using wpAny_loadPart' hl)
      | (refine wpAny_ite_true (decide_eq_true c2) ?_; wp_walk using wpAny_loadPart' hl))
    exact ⟨_, rfl, h⟩
theorem tuple_mulS (l : Addr) (items : Array Value) (n : Nat) (dd : Option Addr) (sl : Array (Option Value)) (x : Int) (u : Tok) (c0 : (decide (x < -(2 ^ 63)) || decide (x ≥ 2 ^ 63)) = false) (c1 : (items.isEmpty || x == 1) = true) :
    Meets (Builtin.«tuple.__mul__» ⟨[.ref l, .int x u], []⟩) (fun _ R s => s.heap.get? l = some { cls := .type "tuple", dict := dd, data := .seq items n, slots := sl } ∧
      R (.ok (.ret (Value.ref l))) s) :=
  .of_wp fun prog w A R s h => by
    obtain ⟨hp, g, d, tk, os⟩ := s
    obtain ⟨hl, h⟩ := h
    have f1 := AutoSeq1.idx_int
    wp_walk using wpAny_loadPart' hl
    repeat (first
      | (refine wpAny_ite_false (decide_eq_false (by rw [c0]; exact Bool.false_ne_true)) ?_; wp_walk using wpAny_loadPart' hl)
      | (refine wpAny_ite_true (decide_eq_true c1) ?_; wp_walk using wpAny_loadPart' hl))
    exact ⟨_, rfl, h⟩
/-- t * k, t not empty -/
def rRepA (K : PySem.W.Frag) : R2 := fun x y H Q => ∃ l k xs, x = .ref l ∧ y = .int k ∧ SqT K H l xs ∧ xs ≠ [] ∧ 0 ≤ k ∧ k ≤ 1000 ∧ xs.length ≤ 1000 ∧ (k = 1 → Q (.ref l) H) ∧ (k ≠ 1 → ∀ p, H p = none → Q (.ref p) (upd H p (.tup (List.replicate k.toNat xs).flatten)))
theorem op_repA : OpR X (binaryOp .Mult) (rRepA X.K) := by
  intro pins s σ H x y v u Q I rx ry h
  obtain ⟨l, k, xs, rfl, rfl, hT, hne, h1, h2, hz, q1, q2⟩ := h
  by_cases hk : 2 ≤ k
  · exact op_repT pins s σ H _ _ v u Q I rx ry ⟨l, k, xs, rfl, rfl, hT, hne, hk, h2, hz, q2 (by omega)⟩
  · cases rx
    obtain ⟨t, rfl⟩ := ry
    obtain ⟨its, r, ⟨⟨cls, dd, data, sl⟩, ho, hc, n, hd⟩, hs⟩ := I.tuple hT
    simp only at hc hd
    subst hc hd
    have hle : its.length = xs.length := r.length.symm
    have hn : its ≠ [] := fun e => hne (by
      rw [e] at hle
      exact List.eq_nil_of_length_eq_zero hle.symm)
    have hi : its.toArray.isEmpty = false := by
      cases its with
      | nil => exact absurd rfl hn
      | cons a b => rfl
    have c0 : (decide (k < -(2 ^ 63)) || decide (k ≥ 2 ^ 63)) = false := by
      rw [decide_eq_false (by omega), decide_eq_false (by omega)] <;> rfl
    by_cases hk1 : k = 1
    · subst hk1
      have c1 : (its.toArray.isEmpty || (1 : Int) == 1) = true := by rw [hi] <;> rfl
      refine wpAny_binaryOp_repeat_ref (T := "tuple") (U := "int") (by decide) ⟨_, ho, rfl⟩ (fun s' => typeIs_int s' 1 t) noFill_tuple_mul F.fills_int_mul F.slot_int_rmul repeat_tuple F.slot_int_index.lookup
        (call_meets F.slot_int_rmul (typeIs_int s 1 t) F.entry_int_rmul (F.args_int_rmul_2 _ _) (int_rmul_tuple 1 t l its.toArray n dd sl)
          ⟨ho, rfl, ⟨_, ho, rfl⟩, call_meets F.slot_tuple_mul ⟨_, ho, rfl⟩ F.entry_tuple_mul (F.args_tuple_mul_2 _ _) (tuple_mulS l its.toArray n dd sl 1 t c0 c1) ⟨ho, ?_⟩⟩)
      exact ⟨.ref l, H, I, rfl, q1 rfl⟩
    · have hk0 : k = 0 := by omega
      subst hk0
      have c1 : (its.toArray.isEmpty || (0 : Int) == 1) = false := by rw [hi] <;> rfl
      have c2 : (decide ((0 : Int) ≤ 0) || its.toArray.isEmpty) = true := by simp
      refine wpAny_binaryOp_repeat_ref (T := "tuple") (U := "int") (by decide) ⟨_, ho, rfl⟩ (fun s' => typeIs_int s' 0 t) noFill_tuple_mul F.fills_int_mul F.slot_int_rmul repeat_tuple F.slot_int_index.lookup
        (call_meets F.slot_int_rmul (typeIs_int s 0 t) F.entry_int_rmul (F.args_int_rmul_2 _ _) (int_rmul_tuple 0 t l its.toArray n dd sl)
          ⟨ho, rfl, ⟨_, ho, rfl⟩, call_meets F.slot_tuple_mul ⟨_, ho, rfl⟩ F.entry_tuple_mul (F.args_tuple_mul_2 _ _) (tuple_mulZ l its.toArray n dd sl 0 t c0 c1 c2) ⟨ho, ?_⟩⟩)
      refine ⟨.ref s.heap.objs.size, _, I.laid (t' := s.toks) (o := .tup []) (fun b ob q => Heap.get?_push_of_some _ q) (Nat.le_refl _) ?_, rfl, q2 (by decide) _ (I.hok.fresh (Nat.le_refl _))⟩
      exact ⟨Nat.zero_le _, [], .nil, IsTup.new _ _⟩

/-! ### enumerate(tuple) -/
end
section
variable {prog : Program} {w : World} {A : Around} {E : Value → Shared → Prop} {s : Shared}
/-- the end, at any turn beyond the items -/
theorem wpAny_pyNext_enum_endT {e it t : Addr} {i : Nat} {its : Array Value} {old : Value} {Q : Option Value → Shared → Prop} (hh : A.handled = none) (he : IsEnum s.heap e it i old) (hit : s.heap.IsTupleIter it t i) (ht : IsTup s.heap t its) (hne : t ≠ it) (hi : its.size ≤ i)
    (hQ : ∀ h', Heap.ExtBut it s.heap h' → Q none { s with heap := h' }) : wpAny (model prog w) A (pyNext (.ref e)) Q E s := by
  have hT : s.TypeIs (.ref e) "enumerate" := ⟨_, he, rfl⟩
  unfold pyNext
  refine wpAny_bind (wpAny_attempt (wpAny_callSpecial?_slot (name := Str.ofString "__next__") hT F.slot_enumerate_next
    (wpAny_call_entry F.slot_enumerate_next hT F.entry_enumerate_next ?_ (F.args_enumerate_next_1 _))))
  show wpAny _ _ (field (.ref e) 2 >>= _) _ _ _
  refine wpAny_bind (wpAny_field he rfl (x := .ref it) rfl ?_)
  refine wpAny_bind (wpAny_nextOf_tuple_end hh hit ht (by simpa using hi) fun h' x he' hx' => ?_)
  obtain ⟨o, ho, hc⟩ := hx'
  refine wpAny_bind (wpAny_isInstance (T := "StopIteration") (b := true) ⟨o, ho, hc⟩ isSubtype_stop ?_)
  exact wpAny_pure (hQ _ he')
end
section
variable {X : Cx}
def IteT (K : PySem.W.Frag) (a : Addr) : It :=
  ⟨fun i H => ∃ (xs : List V) (x : V), SqT K H a xs ∧ xs[i]? = some x, fun i H v H' => ∃ T x, v = .ref T ∧ H T = none ∧ H' = upd H T (.tup [.int (i : Nat), x]) ∧ ∀ xs, SqT K H a xs → xs[i]? = some x, fun i H => ∃ xs : List V, SqT K H a xs ∧ xs.length ≤ i⟩
theorem tupIter_ne {h : Heap} {a it : Addr} {i : Nat} {its : Array Value} (h1 : IsTup h a its) (h2 : h.IsTupleIter it a i) : a ≠ it := by
  intro e
  obtain ⟨o, ho, hc, n, hd⟩ := h1
  obtain ⟨o2, ho2, hc2, hd2⟩ := h2
  rw [e, ho2] at ho
  cases ho
  rw [hd2] at hd
  cases hd
theorem enum_ne {h : Heap} {a e it : Addr} {i : Int} {old : Value} {its : Array Value} (h1 : IsTup h a its) (h2 : IsEnum h e it i old) : e ≠ a := by
  intro q
  obtain ⟨o, ho, hc, n, hd⟩ := h1
  have h2' : h.get? e = some _ := h2
  rw [q, ho] at h2'
  cases h2'
  cases hd
theorem turn_enumT {P : Program} {w : World} {K : PySem.W.Frag} {elts : List Expr} {kk : Nat} {tpos : Pos} (a e it : Addr) :
    Turn P w K (.Tuple elts kk tpos) (IteT K a) [e, it] e (fun i h => (∃ old, IsEnum h e it ((i : Nat) : Int) old) ∧ h.IsTupleIter it a i ∧ e ≠ it) where
  mem := by simp
  obj := fun i h st b hb => by
    obtain ⟨⟨old, he⟩, ⟨o, ho, hc, hd⟩, _⟩ := st
    have e' : b = e ∨ b = it := by simpa using hb
    rcases e' with z | z
    · rw [z]; exact ⟨_, he, fun v q => nomatch q⟩
    · rw [z]; exact ⟨o, ho, fun v q => by rw [hd] at q; cases q⟩
  keep := fun i h h' st k => let ⟨⟨old, he⟩, hi, hne⟩ := st; ⟨⟨old, k e (by simp) _ he⟩, hi.at fun o q => k it (by simp) o q, hne⟩
  item := by
    intro X hP hw hK hc i pins s σ H E I hf st hg
    subst hP hw hK
    obtain ⟨⟨old, he⟩, hit, hne⟩ := st
    obtain ⟨xs, x, hq, hx⟩ := hg
    obtain ⟨its, rv, p, hz⟩ := I.tuple hq
    obtain ⟨u, hu, ru⟩ := rv.get hx
    have hel : e < s.heap.objs.size := Heap.lt_size he
    have hil : it < s.heap.objs.size := by obtain ⟨_, q, _⟩ := hit; exact Heap.lt_size q
    have hia : i < its.toArray.size := by
      have := (List.getElem?_eq_some_iff.mp hu).1
      simpa using this
    have n1 := tupIter_ne p hit
    have n2 := enum_ne p he
    refine wpAny_pyNext_enum_itemD (Draws.tuple (prog := X.prog) (w := X.w) (A := X.A.in1) (I.ok.hd hc) it a n1 its.toArray) he ⟨hit, p⟩ hia hne (by simp [hne, n2]) fun y h' tk hy ho st' hT hsz hk => ?_
    have ey : y = u := by
      have h1 : its.toArray[i]? = some y := hy
      have h2 : its.toArray[i]? = some u := by simpa using hu
      rw [h1] at h2
      exact Option.some.inj h2
    subst ey
    refine ⟨_, rfl, wpAny_letOwnedTupleGo_enum (s := { s with heap := h', toks := tk + 1 }) ho fun h'' he' sb => ?_⟩
    have hT2 : h''.get? s.heap.objs.size = some { cls := .type "tuple", data := .seq #[.int i tk, y] } := (sb.2 _ (Nat.ne_of_gt hel)).trans hT
    have new : ObjOk X.prog X.w (upd H s.heap.objs.size (.tup [.int (i : Nat), x])) h'' s.heap.objs.size (.tup [.int (i : Nat), x]) :=
      ⟨by show 2 ≤ sizeLine; decide, [.int i tk, y], .cons ⟨_, rfl⟩ (.cons ru .nil), ⟨_, hT2, rfl, _, rfl⟩⟩
    have I1 : Inv X pins σ (upd H s.heap.objs.size (.tup [.int (i : Nat), x])) { s with heap := h'', toks := tk + 1 } :=
      I.turnedNew (ch := [e, it]) (fun b ob hb q => (sb.2 b (fun z => hb (by simp [z]))).trans (hk b ob (fun z => hb (by simp [z])) (fun z => hb (by simp [z])) q)) hf (Nat.le_refl _) new
    refine ⟨.ref s.heap.objs.size, _, I1, rfl, ⟨_, x, rfl, I.hok.fresh (Nat.le_refl _), rfl, fun ys hy => by rw [I.tuple_inj hy hq]; exact hx⟩, ⟨⟨y, ?_⟩, st'.1.at fun o q => (sb.2 it (Ne.symm hne)).trans q, hne⟩, fun b hb => ?_⟩
    · have e1 : ((i + 1 : Nat) : Int) = (i : Int) + 1 := by omega
      rw [e1]; exact he'
    · have hb' : b < s.heap.objs.size := by
        have e' : b = e ∨ b = it := by simpa using hb
        rcases e' with z | z
        · rw [z]; exact hel
        · rw [z]; exact hil
      rw [upd_ne (Nat.ne_of_lt hb')]
      exact (hf b hb).1
  done := by
    intro X hP hw hK hc i pins s σ H E I hf st hg
    subst hP hw hK
    obtain ⟨⟨old, he⟩, hit, hne⟩ := st
    obtain ⟨xs, hq, hx⟩ := hg
    obtain ⟨its, rv, p, hz⟩ := I.tuple hq
    obtain ⟨f0, f1, f2, f3, f4, f5⟩ := hf it (by simp)
    have hl := rv.length
    have n1 := tupIter_ne p hit
    refine wpAny_pyNext_enum_endT (I.ok.hd hc) he hit p n1 (by simp only [List.size_toArray]; omega) fun h' eb => ⟨rfl, I.turned (t' := s.toks) (fun b o hb q => eb b o hb q) f0 f1 f3 f4 f5⟩
  self := fun A i s Q E st h => let ⟨⟨_, he⟩, _⟩ := st; wpAny_pyIter_enum he h
end
end DW

/-! Dw3: expressions over data: lists that are read, subscripts, slices, truth, builtins. -/
namespace DW
open PySem PySem.Spec PyProof.Rows L2

/-! ### lists that are read -/
structure LV (X : Cx) (e : Expr) (ρ : List SV) (μ : List MO) (xs : List PyData) (μ' : List MO) : Prop where
  run : ∀ B F H σ as, SR X B F H σ ρ μ as → ∀ Q : VK, (∀ a vs F' H', SR X B F' H' σ ρ μ' as → Gr as F H F' H' → SqL X.K H' a vs → DpAll X.K F' vs xs → Q (.ref a) H') → wpE X e σ H Q
/-- a slice's part -/
def PV (X : Cx) (o : Option Expr) (ρ : List SV) (μ : List MO) (oi : Option Int) : Prop :=
  ∃ t : TO, PO X o t ∧ ∀ B F H σ as, SR X B F H σ ρ μ as → ∀ Q : Option Int → Hp → Prop, (∀ F' H', SR X B F' H' σ ρ μ as → Gr as F H F' H' → Q oi H') → t σ H Q
def cutD (xs : List PyData) (lo hi : Option Int) : List PyData := (xs.drop (HT.sIx xs.length 0 lo)).take (HT.sIx xs.length xs.length hi - HT.sIx xs.length 0 lo)
section
variable {X : Cx} {e a b c : Expr} {es : List Expr} {ρ : List SV} {μ μ1 μ2 μ3 μ' : List MO} {d d1 d2 d3 : PyData} {ds xs ys : List PyData} {pos p p2 q : Pos} {x : Str}
theorem lv_of_ev (h : EV X e ρ μ (.list xs) μ') : LV X e ρ μ xs μ' := .mk fun B F H σ as R Q q =>
  h.run B F H σ as R _ fun v F' H' R' g dv => by
    obtain ⟨a, vs, rfl, h1, h2⟩ := dv.lst_inv
    exact q a vs F' H' R' g (sql_mono R'.fh h1) h2
theorem lv_of_ef (h : EF X e ρ μ xs μ') : LV X e ρ μ xs μ' := .mk fun B F H σ as R Q q =>
  h.run B F H σ as R _ fun p vs F' H' R' g hp hF hH hd => q p vs F' H' R' g (.inl (.inl hH)) hd
theorem lv_own (i : Nat) {k : Nat} (hρ : ρ[i]? = some (.h k)) (hm : μ[k]? = some (.l xs)) (hN : X.N[i]? = some x := by kernel_rfl) (hv : visB X.env.scope x = true := by kernel_rfl) : LV X (.Name x pos) ρ μ xs μ := .mk fun B F H σ as R Q q => by
  obtain ⟨a, e1, e2⟩ := R.sl i _ hρ
  obtain ⟨a', e3, h1, vs, h2, h3⟩ := R.mu k _ hm
  rw [e1] at e3
  have e3' := Option.some.inj e3
  subst e3'
  exact wpE_of (pe_var hN (visB_vis hv) (visB_d hv) (visB_c hv)) ⟨_, e2, q a vs F H R Gr.refl (.inl (.inl h2)) h3⟩

/-! ### subscripts -/
theorem atI_dp {K : PySem.W.Frag} {F : Hp} {vs : List V} {i : Int} (h : DpAll K F vs ds) (e : atI ds i = some d) : ∃ v, atI vs i = some v ∧ Dp K F v d := by
  unfold atI at e ⊢
  rw [h.len]
  cases q : ixN ds.length i with
  | none => rw [q] at e; cases e
  | some j =>
    rw [q] at e
    exact h.get e
theorem ev_ixT {i : Int} (ha : EV X a ρ μ (.tuple ds) μ1) (hb : EV X b ρ μ1 (.int i) μ2) (he : atI ds i = some d) (hs : PlainIx b := by exact fun _ _ => rfl) : EV X (.Subscript a b pos) ρ μ d μ2 := .mk fun B F H σ as R Q q =>
  wpE_of (pe_ix ix_tup (peW (e := a)) (peW (e := b)) hs) (ha.run B F H σ as R _ fun v1 F1 H1 R1 g1 e1 => hb.run B F1 H1 σ as R1 _ fun v2 F2 H2 R2 g2 e2 => by
    obtain ⟨r, vs, rfl, h1, h2⟩ := e1.tup_inv
    obtain ⟨v, h3, h4⟩ := atI_dp h2 he
    exact ⟨r, vs, i, v, rfl, e2.int_inv, sqt_mono (g2.ff.trans R2.fh) h1, h3, q v F2 H2 R2 (g1.trans g2) (h4.up g2.ff)⟩)
theorem ev_ixL {i : Int} (ha : EV X a ρ μ (.list ds) μ1) (hb : EV X b ρ μ1 (.int i) μ2) (he : atI ds i = some d) (hs : PlainIx b := by exact fun _ _ => rfl) : EV X (.Subscript a b pos) ρ μ d μ2 := .mk fun B F H σ as R Q q =>
  wpE_of (pe_ix ix_list (peW (e := a)) (peW (e := b)) hs) (ha.run B F H σ as R _ fun v1 F1 H1 R1 g1 e1 => hb.run B F1 H1 σ as R1 _ fun v2 F2 H2 R2 g2 e2 => by
    obtain ⟨r, vs, rfl, h1, h2⟩ := e1.lst_inv
    obtain ⟨v, h3, h4⟩ := atI_dp h2 he
    exact ⟨r, vs, i, v, rfl, e2.int_inv, sql_mono (g2.ff.trans R2.fh) h1, h3, q v F2 H2 R2 (g1.trans g2) (h4.up g2.ff)⟩)
/-- an own list's item -/
theorem ev_ixH (j : Nat) {k : Nat} {i : Int} (hρ : ρ[j]? = some (.h k)) (hb : EV X b ρ μ (.int i) μ1) (hm : μ1[k]? = some (.l ds)) (he : atI ds i = some d) (hN : X.N[j]? = some x := by kernel_rfl)
    (hv : visB X.env.scope x = true := by kernel_rfl) (hs : PlainIx b := by exact fun _ _ => rfl) : EV X (.Subscript (.Name x p) b pos) ρ μ d μ1 := .mk fun B F H σ as R Q q => by
  obtain ⟨r, e1, e2⟩ := R.sl j _ hρ
  refine wpE_of (pe_ix ix_list (pe_var hN (visB_vis hv) (visB_d hv) (visB_c hv)) (peW (e := b)) hs) ⟨_, e2, hb.run B F H σ as R _ fun v2 F2 H2 R2 g2 e3 => ?_⟩
  obtain ⟨a', e4, h1, vs, h2, h3⟩ := R2.mu k _ hm
  rw [e1] at e4
  have e4' := Option.some.inj e4
  subst e4'
  obtain ⟨v, h4, h5⟩ := atI_dp h3 he
  exact ⟨r, vs, i, v, rfl, e3.int_inv, .inl (.inl h2), h4, q v F2 H2 R2 g2 h5⟩

/-! ### slices -/
theorem cut_dp {K : PySem.W.Frag} {F : Hp} {vs : List V} {lo hi : Option Int} (h : DpAll K F vs ds) : DpAll K F (cutV vs lo hi) (cutD ds lo hi) := by
  unfold cutV cutD
  rw [h.len]
  exact (h.drop _).take _
theorem pv_none : PV X none ρ μ none := ⟨_, po_none, fun B F H σ as R Q q => q F H R Gr.refl⟩
theorem pv_some {i : Int} (h : EV X e ρ μ (.int i) μ) : PV X (some e) ρ μ (some i) := ⟨_, po_some (peW (e := e)), fun B F H σ as R Q q => h.run B F H σ as R _ fun v F1 H1 R1 g1 e1 => ⟨i, e1.int_inv, q F1 H1 R1 g1⟩⟩
theorem ev_slT {l u : Option Expr} {lo hi : Option Int} (ha : EV X a ρ μ (.tuple ds) μ1) (hl : PV X l ρ μ1 lo) (hu : PV X u ρ μ1 hi) : EV X (.Subscript a (.Slice l u none p2) pos) ρ μ (.tuple (cutD ds lo hi)) μ1 := .mk fun B F H σ as R Q q => by
  obtain ⟨tl, pl, ql⟩ := hl
  obtain ⟨th, pu, qu⟩ := hu
  refine wpE_of (pe_slice sl_tupA (peW (e := a)) pl pu) (ha.run B F H σ as R _ fun v1 F1 H1 R1 g1 e1 => ql B F1 H1 σ as R1 _ fun F2 H2 R2 g2 => qu B F2 H2 σ as R2 _ fun F3 H3 R3 g3 => ?_)
  obtain ⟨r, vs, rfl, h1, h2⟩ := e1.tup_inv
  have h1' := sqt_mono (g2.ff.trans g3.ff) h1
  have h2' := h2.up (g2.ff.trans g3.ff)
  refine ⟨r, vs, rfl, sqt_mono R3.fh h1', fun hw => q _ F3 H3 R3 (g1.trans (g2.trans g3)) (.tup h1' ?_), fun _ p hp => ?_⟩
  · have e := cut_dp (lo := lo) (hi := hi) h2'
    have e2 : cutV vs lo hi = vs := by
      unfold cutV
      rw [hw.1, hw.2]
      simp
    rw [e2] at e
    exact e
  · exact q _ _ _ (R3.data hp) ((g1.trans (g2.trans g3)).trans (Gr.data R3.fh hp)) (.tup (.inl (.inl upd_same)) ((cut_dp h2').up (same_new (R3.freeF hp))))
theorem ef_slL {l u : Option Expr} {lo hi : Option Int} (ha' : EV X a ρ μ (.list ds) μ) (hl : PV X l ρ μ lo) (hu : PV X u ρ μ hi) : EF X (.Subscript a (.Slice l u none p2) pos) ρ μ (cutD ds lo hi) μ := .mk fun B F H σ as R Q q => by
  obtain ⟨tl, pl, ql⟩ := hl
  obtain ⟨th, pu, qu⟩ := hu
  refine wpE_of (pe_slice sl_list (peW (e := a)) pl pu) (ha'.run B F H σ as R _ fun v1 F1 H1 R1 g1 e1 => ql B F1 H1 σ as R1 _ fun F2 H2 R2 g2 => qu B F2 H2 σ as R2 _ fun F3 H3 R3 g3 => ?_)
  obtain ⟨r, vs, rfl, h1, h2⟩ := e1.lst_inv
  have h1' := sql_mono (g2.ff.trans g3.ff) h1
  have h2' := h2.up (g2.ff.trans g3.ff)
  exact ⟨r, vs, rfl, sql_mono R3.fh h1', fun p hp => let z := done_lst R3 (g1.trans (g2.trans g3)) hp; q p _ F3 _ z.1 z.2.1 z.2.2.1 z.2.2.2.1 z.2.2.2.2 (cut_dp h2')⟩

/-! ### truth -/
/-- the truth of data -/
def truD : PyData → Bool
  | .int i => i != 0
  | .bool b => b
  | .list xs => !xs.isEmpty
  | .tuple xs => !xs.isEmpty
  | _ => false
def TrD : PyData → Prop
  | .int _ => True
  | .bool _ => True
  | .list _ => True
  | .tuple _ => True
  | _ => False
theorem empty_dp {K : PySem.W.Frag} {F : Hp} {vs : List V} (h : DpAll K F vs ds) : vs.isEmpty = ds.isEmpty := by
  cases h <;> rfl
theorem tru_dp {F H : Hp} {v : V} (e : Same F H) (h : Dp X.K F v d) (t : TrD d) : TruV X.K v H (truD d) := by
  cases d with
  | int i => rw [h.int_inv]; rfl
  | bool i => rw [h.bool_inv]; rfl
  | list ds =>
    obtain ⟨r, vs, rfl, h1, h2⟩ := h.lst_inv
    exact .inl ⟨vs, sql_mono e h1, by rw [empty_dp h2]; rfl⟩
  | tuple ds =>
    obtain ⟨r, vs, rfl, h1, h2⟩ := h.tup_inv
    exact .inr (.inl ⟨vs, sqt_mono e h1, by rw [empty_dp h2]; rfl⟩)
  | none => cases t
  | str _ => cases t
  | dict _ => cases t
abbrev PlainT (X : Cx) (e : Expr) : Prop := ∀ whole, isTrue e X.env whole = (do let v ← whole; standAt e.pos; holding [v] (truthy v))
theorem tv_ev (h : EV X e ρ μ d μ') (t : TrD d := by trivial) (he : PlainT X e := by intro _; rfl) : TV X e ρ μ (truD d) μ' := .mk fun B F H σ as R Q q =>
  wpT_of (pt_truth (peW (e := e)) he) (h.run B F H σ as R _ fun v F1 H1 R1 g1 e1 => ⟨truD d, tru_dp R1.fh e1 t, q F1 H1 R1 g1⟩)
theorem tv_b {k : Bool} (h : EV X e ρ μ (.bool k) μ') (he : PlainT X e := by intro _; rfl) : TV X e ρ μ k μ' := tv_ev h trivial he
theorem tv_not {k : Bool} (h : TV X e ρ μ k μ') : TV X (.UnaryOp .Not e pos) ρ μ (!k) μ' := .mk fun B F H σ as R Q q => wpT_of (pt_not (ptW (e := e))) (h.run B F H σ as R _ fun F1 H1 R1 g1 => q F1 H1 R1 g1)
theorem ev_not {k : Bool} (h : EV X e ρ μ (.bool k) μ') : EV X (.UnaryOp .Not e pos) ρ μ (.bool (!k)) μ' := .mk fun B F H σ as R Q q => wpE_of (pe_not (peW (e := e))) (h.run B F H σ as R _ fun v F1 H1 R1 g1 e1 => ⟨k, e1.bool_inv, q _ F1 H1 R1 g1 (.bl _)⟩)
/-- a and b as a test -/
theorem tv_and {k j : Bool} (ha : TV X a ρ μ k μ1) (hb : k = true → TV X b ρ μ1 j μ1) : TV X (.BoolOp .And [a, b] pos) ρ μ (k && j) μ1 := .mk fun B F H σ as R Q q =>
  wpT_of (PW.pt (pw_and (ptW (e := a)) (pw_and1 (ptW (e := b))))) (ha.run B F H σ as R _ fun F1 H1 R1 g1 => by
    cases k with
    | true => exact iteT ((hb rfl).run B F1 H1 σ as R1 _ fun F2 H2 R2 g2 => q F2 H2 R2 (g1.trans g2))
    | false => exact iteF (q F1 H1 R1 g1))
theorem tv_or {k j : Bool} (ha : TV X a ρ μ k μ1) (hb : k = false → TV X b ρ μ1 j μ1) : TV X (.BoolOp .Or [a, b] pos) ρ μ (k || j) μ1 := .mk fun B F H σ as R Q q =>
  wpT_of (PW.pt (pw_or (ptW (e := a)) (pw_or1 (ptW (e := b))))) (ha.run B F H σ as R _ fun F1 H1 R1 g1 => by
    cases k with
    | true => exact iteT (q F1 H1 R1 g1)
    | false => exact iteF ((hb rfl).run B F1 H1 σ as R1 _ fun F2 H2 R2 g2 => q F2 H2 R2 (g1.trans g2)))
theorem ev_one {op} (h : EV X a ρ μ d μ') : EV X (.BoolOp op [a] pos) ρ μ d μ' := .mk fun B F H σ as R Q q => wpE_of (pe_one (peW (e := a))) (h.run B F H σ as R _ q)
theorem ev_and {k j : Bool} (ha : EV X a ρ μ (.bool k) μ1) (hb : k = true → EV X (.BoolOp .And (b :: es) pos) ρ μ1 (.bool j) μ1) : EV X (.BoolOp .And (a :: b :: es) pos) ρ μ (.bool (k && j)) μ1 := .mk fun B F H σ as R Q q =>
  wpE_of (pe_and (peW (e := a)) (peW (e := .BoolOp .And (b :: es) pos))) (ha.run B F H σ as R _ fun v F1 H1 R1 g1 e1 => ⟨k, e1.bool_inv, by
    cases k with
    | true => exact iteT ((hb rfl).run B F1 H1 σ as R1 _ fun v F2 H2 R2 g2 e2 => q v F2 H2 R2 (g1.trans g2) e2)
    | false => exact iteF (q _ F1 H1 R1 g1 (.bl false))⟩)
theorem ev_or {k j : Bool} (ha : EV X a ρ μ (.bool k) μ1) (hb : k = false → EV X (.BoolOp .Or (b :: es) pos) ρ μ1 (.bool j) μ1) : EV X (.BoolOp .Or (a :: b :: es) pos) ρ μ (.bool (k || j)) μ1 := .mk fun B F H σ as R Q q =>
  wpE_of (pe_or (peW (e := a)) (peW (e := .BoolOp .Or (b :: es) pos))) (ha.run B F H σ as R _ fun v F1 H1 R1 g1 e1 => ⟨k, e1.bool_inv, by
    cases k with
    | true => exact iteT (q _ F1 H1 R1 g1 (.bl true))
    | false => exact iteF ((hb rfl).run B F1 H1 σ as R1 _ fun v F2 H2 R2 g2 e2 => q v F2 H2 R2 (g1.trans g2) e2)⟩)
/-- x or y of data, by truth -/
theorem ev_orT (ha : EV X a ρ μ d1 μ1) (t : TrD d1) (hb : truD d1 = false → EV X b ρ μ1 d2 μ1) : EV X (.BoolOp .Or [a, b] pos) ρ μ (if truD d1 = true then d1 else d2) μ1 := .mk fun B F H σ as R Q q =>
  wpE_of (pe_orT (peW (e := a)) (pe_one (peW (e := b)))) (ha.run B F H σ as R _ fun v F1 H1 R1 g1 e1 => ⟨truD d1, tru_dp R1.fh e1 t, by
    cases k : truD d1 with
    | true =>
      rw [k] at q
      exact iteT (q v F1 H1 R1 g1 (by rw [if_pos rfl]; exact e1))
    | false =>
      rw [k] at q
      exact iteF ((hb k).run B F1 H1 σ as R1 _ fun v F2 H2 R2 g2 e2 => q v F2 H2 R2 (g1.trans g2) (by rw [if_neg Bool.false_ne_true]; exact e2))⟩)
/-- xs or ys, both new lists -/
theorem ef_orT (ha : EF X a ρ μ xs μ1) (hb : xs = [] → EF X b ρ μ1 ys μ1) : EF X (.BoolOp .Or [a, b] pos) ρ μ (if xs.isEmpty = true then ys else xs) μ1 := .mk fun B F H σ as R Q q =>
  wpE_of (pe_orT (peW (e := a)) (pe_one (peW (e := b)))) (ha.run B F H σ as R _ fun p vs F1 H1 R1 g1 h1 h2 h3 h4 => ⟨!vs.isEmpty, .inl ⟨vs, .inl (.inl h3), rfl⟩, by
    cases xs with
    | nil =>
      cases h4
      exact iteF ((hb rfl).run B F1 H1 σ as R1 _ fun p' vs' F2 H2 R2 g2 k1 k2 k3 k4 => q p' vs' F2 H2 R2 (g1.trans g2) (by
        cases u : H p' with
        | none => rfl
        | some u' => exact absurd k1 (g1.hn p' (by rw [u]; simp))) k2 k3 k4)
    | cons x xs =>
      cases h4 with
      | cons h5 h6 => exact iteT (q p _ F1 H1 R1 g1 h1 h2 h3 (.cons h5 h6))⟩)
theorem ev_if {k : Bool} (hc : TV X c ρ μ k μ1) (ha : k = true → EV X a ρ μ1 d1 μ2) (hb : k = false → EV X b ρ μ1 d2 μ2) : EV X (.IfExp c a b pos) ρ μ (if k = true then d1 else d2) μ2 := .mk fun B F H σ as R Q q =>
  wpE_of (pe_ifExp (ptW (e := c)) (peW (e := a)) (peW (e := b))) (hc.run B F H σ as R _ fun F1 H1 R1 g1 => by
    cases k with
    | true => exact iteT ((ha rfl).run B F1 H1 σ as R1 _ fun v F2 H2 R2 g2 e2 => q v F2 H2 R2 (g1.trans g2) e2)
    | false => exact iteF ((hb rfl).run B F1 H1 σ as R1 _ fun v F2 H2 R2 g2 e2 => q v F2 H2 R2 (g1.trans g2) e2))
/-- a <= b <= c as a test -/
theorem tv_chain {op op' : CmpOp} {r r' : R2} {k j : Bool} (ho : OpR X (compareOp op) r) (ho' : OpR X (compareOp op') r') (hr : OV X r d1 d2 (.bool k)) (hr' : OV X r' d2 d3 (.bool j)) (ha : EV X a ρ μ d1 μ) (hb : EV X b ρ μ d2 μ) (hc : EV X c ρ μ d3 μ)
    (hm : lastMarks [op, op'] [b, c] = false := by with_unfolding_all rfl) : TV X (.Compare a [op, op'] [b, c] pos) ρ μ (k && j) μ := .mk fun B F H σ as R Q q =>
  wpT_of (pt_chain ho ho' (peW (e := a)) (peW (e := b)) (peW (e := c)) hm) (ha.run B F H σ as R _ fun v1 F1 H1 R1 g1 e1 => hb.run B F1 H1 σ as R1 _ fun v2 F2 H2 R2 g2 e2 =>
    hr F2 H2 v1 v2 R2.fh (e1.up g2.ff) e2 _ fun v F' H' n e => ⟨k, e.bool_inv, by
      obtain ⟨R3, g3⟩ := done_new R2 (g1.trans g2) n
      have f3 : Same F2 F' := (n.gr R2.fh (as := as)).ff
      cases k with
      | true => exact iteT (hc.run B F' H' σ as R3 _ fun v4 F4 H4 R4 g4 e4 => hr' F4 H4 v2 v4 R4.fh (e2.up (f3.trans g4.ff)) e4 _ fun v F5 H5 n5 e5 => let z := done_new R4 (g3.trans g4) n5; ⟨j, e5.bool_inv, q F5 H5 z.1 z.2⟩)
      | false => exact iteF ⟨false, rfl, q F' H' R3 g3⟩⟩)
theorem ev_isN (ha : EV X a ρ μ d μ1) {j : Nat} : EV X (.Compare a [.Is] [.Constant .none j p2] pos) ρ μ (.bool (match d with | .none => true | _ => false)) μ1 := .mk fun B F H σ as R Q q =>
  wpE_of (pe_cmp (pc_isN (peW (e := a)))) (ha.run B F H σ as R _ fun v F1 H1 R1 g1 e1 => q _ F1 H1 R1 g1 (by
    cases d with
    | none => cases e1; exact .bl true
    | int i => rw [e1.int_inv]; exact .bl false
    | bool i => rw [e1.bool_inv]; exact .bl false
    | str i => cases e1; exact .bl false
    | list i => obtain ⟨r, vs, rfl, _⟩ := e1.lst_inv; exact .bl false
    | tuple i => obtain ⟨r, vs, rfl, _⟩ := e1.tup_inv; exact .bl false
    | dict i => cases e1))
end
end DW

/-! Dw4: builtins over data; defs by their promises; calls. -/
namespace DW
open PySem PySem.Spec PyProof.Rows L2

section
variable {X : Cx} {B : Bs} {F H : Hp} {σ : L2.St} {e a b c : Expr} {es : List Expr} {ρ : List SV} {μ μ1 μ2 μ3 μ' : List MO} {d d1 d2 d3 : PyData} {ds xs ys : List PyData} {pos p p2 q : Pos} {x : Str} {as : List Addr}

/-! ### builtins -/
theorem wp_callB {id : String} {r : List V → Hp → VK → Prop} {Q : VK} (hc : CallR X (.builtin id) r) (hg : Gl X x) (hm : X.mg x = none) (hv : bootBuiltins x = some (.builtin id)) (h : wpA X (e :: es) σ H fun vs H1 => r vs H1 Q) (hn : x ≠ "__name__" := by decide) (hdb : (x == ("__debug__" : Str)) = false := by kernel_rfl)
    (he : starEach (e :: es) X.env = (false, eval e X.env) :: starEach es X.env := by kernel_rfl) (hpl : (backTo pos (starEach es X.env)).any (·.1) = false := by kernel_rfl) : wpE X (.Call (.Name x p) (e :: es) [] pos) σ H Q :=
  wpE_of (pe_callB hc hg hm hv (paW (es := e :: es)) hn hdb he hpl) h
theorem wp_callT {T : String} {r : List V → Hp → VK → Prop} {Q : VK} (hc : CallR X (.type T) r) (hg : Gl X x) (hm : X.mg x = none) (hv : bootBuiltins x = some (.type T)) (h : wpA X (e :: es) σ H fun vs H1 => r vs H1 Q) (hn : x ≠ "__name__" := by decide) (hdb : (x == ("__debug__" : Str)) = false := by kernel_rfl)
    (he : starEach (e :: es) X.env = (false, eval e X.env) :: starEach es X.env := by kernel_rfl) (hpl : (backTo pos (starEach es X.env)).any (·.1) = false := by kernel_rfl) : wpE X (.Call (.Name x p) (e :: es) [] pos) σ H Q :=
  wpE_of (pe_callTy hc hg hm hv (paW (es := e :: es)) hn hdb he hpl) h
theorem wp_callG {id : String} {r : List V → Hp → VK → Prop} {Q : VK} (hc : CallR X (.builtin id) r) (hg : Gl X x) (hm : X.mg x = some (.builtin id)) (h : wpA X (e :: es) σ H fun vs H1 => r vs H1 Q) (hdb : (x == ("__debug__" : Str)) = false := by kernel_rfl)
    (he : starEach (e :: es) X.env = (false, eval e X.env) :: starEach es X.env := by kernel_rfl) (hpl : (backTo pos (starEach es X.env)).any (·.1) = false := by kernel_rfl) : wpE X (.Call (.Name x p) (e :: es) [] pos) σ H Q :=
  wpE_of (pe_callBfun hc hg hm (paW (es := e :: es)) hdb he hpl) h
theorem wp_one {Q : List V → Hp → Prop} (h : wpE X e σ H fun v H1 => Q [v] H1) (hs : starEach [e] X.env = (false, eval e X.env) :: starEach [] X.env := by kernel_rfl) : wpA X [e] σ H Q := wpA_of (pa_cons (peW (e := e)) pa_nil hs) h
theorem ev_lenL (hm : X.mg "len" = none) (h : LV X e ρ μ xs μ') (hg : Gl X "len" := by unfold Gl; kernel_rfl) (he : starEach [e] X.env = (false, eval e X.env) :: starEach [] X.env := by kernel_rfl) : EV X (.Call (.Name "len" p) [e] [] pos) ρ μ (.int xs.length) μ' := .mk fun B F H σ as R Q q =>
  wp_callB (he := he) call_len_seq hg hm PySem.boot_len (wp_one (h.run B F H σ as R _ fun a vs F1 H1 R1 g1 h1 h2 => ⟨a, vs, rfl, .inl h1, by rw [h2.len]; exact q _ F1 H1 R1 g1 (.int _)⟩) he)
theorem ev_lenT (hm : X.mg "len" = none) (h : EV X e ρ μ (.tuple xs) μ') (hg : Gl X "len" := by unfold Gl; kernel_rfl) (he : starEach [e] X.env = (false, eval e X.env) :: starEach [] X.env := by kernel_rfl) : EV X (.Call (.Name "len" p) [e] [] pos) ρ μ (.int xs.length) μ' := .mk fun B F H σ as R Q q =>
  wp_callB (he := he) call_len_seq hg hm PySem.boot_len (wp_one (h.run B F H σ as R _ fun v F1 H1 R1 g1 e1 => by
    obtain ⟨a, vs, rfl, h1, h2⟩ := e1.tup_inv
    exact ⟨a, vs, rfl, .inr (sqt_mono R1.fh h1), by rw [h2.len]; exact q _ F1 H1 R1 g1 (.int _)⟩) he)
theorem ev_tupleL (hm : X.mg "tuple" = none) (h : LV X e ρ μ xs μ') (hg : Gl X "tuple" := by unfold Gl; kernel_rfl) (he : starEach [e] X.env = (false, eval e X.env) :: starEach [] X.env := by kernel_rfl) : EV X (.Call (.Name "tuple" p) [e] [] pos) ρ μ (.tuple xs) μ' := .mk fun B F H σ as R Q q =>
  wp_callT (he := he) call_tuple_of hg hm (by decide +kernel) (wp_one (h.run B F H σ as R _ fun a vs F1 H1 R1 g1 h1 h2 => ⟨a, vs, rfl, .inl ⟨h1, fun l hl => q _ _ _ (R1.data hl) (g1.trans (Gr.data R1.fh hl)) (.tup (.inl (.inl upd_same)) (h2.up (same_new (R1.freeF hl))))⟩⟩) he)
theorem ef_listL (hm : X.mg "list" = none) (h : LV X e ρ μ xs μ') (hg : Gl X "list" := by unfold Gl; kernel_rfl) (he : starEach [e] X.env = (false, eval e X.env) :: starEach [] X.env := by kernel_rfl) : EF X (.Call (.Name "list" p) [e] [] pos) ρ μ xs μ' := .mk fun B F H σ as R Q q =>
  wp_callT (he := he) call_list_of hg hm (by decide +kernel) (wp_one (h.run B F H σ as R _ fun a vs F1 H1 R1 g1 h1 h2 => ⟨a, vs, rfl, .inl h1, fun l hl => let z := done_lst R1 g1 hl; q l vs F1 _ z.1 z.2.1 z.2.2.1 z.2.2.2.1 z.2.2.2.2 h2⟩) he)
theorem ev_abs {i : Int} (hm : X.mg "abs" = none) (h : EV X e ρ μ (.int i) μ') (hg : Gl X "abs" := by unfold Gl; kernel_rfl) (he : starEach [e] X.env = (false, eval e X.env) :: starEach [] X.env := by kernel_rfl) : EV X (.Call (.Name "abs" p) [e] [] pos) ρ μ (.int (if i < 0 then -i else i)) μ' := .mk fun B F H σ as R Q q =>
  wp_callB (he := he) call_abs hg hm (by decide +kernel) (wp_one (h.run B F H σ as R _ fun v F1 H1 R1 g1 e1 => ⟨i, by rw [e1.int_inv], q _ F1 H1 R1 g1 (.int _)⟩) he)
theorem ev_toInt {i : Int} (hm : X.mg "int" = none) (h : EV X e ρ μ (.int i) μ') (hg : Gl X "int" := by unfold Gl; kernel_rfl) (he : starEach [e] X.env = (false, eval e X.env) :: starEach [] X.env := by kernel_rfl) : EV X (.Call (.Name "int" p) [e] [] pos) ρ μ (.int i) μ' := .mk fun B F H σ as R Q q =>
  wp_callT (he := he) call_int1 hg hm (by decide +kernel) (wp_one (h.run B F H σ as R _ fun v F1 H1 R1 g1 e1 => .inl ⟨i, by rw [e1.int_inv], q _ F1 H1 R1 g1 (.int _)⟩) he)
theorem ev_toIntB {i : Bool} (hm : X.mg "int" = none) (h : EV X e ρ μ (.bool i) μ') (hg : Gl X "int" := by unfold Gl; kernel_rfl) (he : starEach [e] X.env = (false, eval e X.env) :: starEach [] X.env := by kernel_rfl) : EV X (.Call (.Name "int" p) [e] [] pos) ρ μ (.int (if i then 1 else 0)) μ' := .mk fun B F H σ as R Q q =>
  wp_callT (he := he) call_int1 hg hm (by decide +kernel) (wp_one (h.run B F H σ as R _ fun v F1 H1 R1 g1 e1 => .inr ⟨i, by rw [e1.bool_inv], q _ F1 H1 R1 g1 (.int _)⟩) he)
theorem ev_gcd {i j : Int} (hm : X.mg "gcd" = some (.builtin "math.gcd")) (h : AV X [a, b] ρ μ [.int i, .int j] μ') (hg : Gl X "gcd" := by unfold Gl; kernel_rfl) (he : starEach [a, b] X.env = (false, eval a X.env) :: starEach [b] X.env := by kernel_rfl) (hpl : (backTo pos (starEach [b] X.env)).any (·.1) = false := by kernel_rfl) :
    EV X (.Call (.Name "gcd" p) [a, b] [] pos) ρ μ (.int (Nat.gcd i.natAbs j.natAbs : Nat)) μ' := .mk fun B F H σ as R Q q =>
  wp_callG cr_gcd hg hm (h.run B F H σ as R _ fun vs F1 H1 R1 g1 e1 => ⟨i, j, by
    cases e1 with
    | cons h1 h2 =>
      cases h2 with
      | cons h3 h4 =>
        cases h4
        rw [h1.int_inv, h3.int_inv], q _ F1 H1 R1 g1 (.int _)⟩) (by decide) he hpl
end
end DW

/-! Dw5: more builtins; defs by their promises; calls. -/
namespace DW
open PySem PySem.Spec PyProof.Rows L2

section
variable {X : Cx} {B : Bs} {F H : Hp} {σ : L2.St} {e a b c : Expr} {es : List Expr} {ρ : List SV} {μ μ1 μ2 μ3 μ' : List MO} {d d1 d2 d3 : PyData} {ds xs ys : List PyData} {pos p p2 q : Pos} {x : Str} {as : List Addr}
/-! ### comb, perm -/
def rComb : List V → Hp → VK → Prop := fun vs H Q => ∃ i j : Int, vs = [.int i, .int j] ∧ 0 ≤ i ∧ 0 ≤ j ∧ i < 2 ^ 64 ∧ j ≤ 9000 ∧ Q (.int (PySem.W.mcComb i j)) H
theorem cr_comb : CallR X (.builtin "math.comb") rComb := by
  intro pins s σ H vs us Q I r h
  obtain ⟨i, j, rfl, h1, h2, h3, h4, q⟩ := h
  obtain ⟨t, u, rfl⟩ := Vals.int2 r
  exact PySem.W.mc_comb h1 h2 h3 (.inl h4) fun _ => ⟨.int _, H, I.tok _, ⟨_, rfl⟩, q⟩
def rPerm : List V → Hp → VK → Prop := fun vs H Q => ∃ i j : Int, vs = [.int i, .int j] ∧ 0 ≤ i ∧ 0 ≤ j ∧ i < 2 ^ 64 ∧ j ≤ 9000 ∧ Q (.int (PySem.W.mcPerm i j)) H
theorem cr_perm : CallR X (.builtin "math.perm") rPerm := by
  intro pins s σ H vs us Q I r h
  obtain ⟨i, j, rfl, h1, h2, h3, h4, q⟩ := h
  obtain ⟨t, u, rfl⟩ := Vals.int2 r
  exact PySem.W.mc_perm h1 h2 h3 (by omega) fun _ => ⟨.int _, H, I.tok _, ⟨_, rfl⟩, q⟩
theorem two_ints {K : PySem.W.Frag} {F : Hp} {vs : List V} {i j : Int} (h : DpAll K F vs [.int i, .int j]) : vs = [.int i, .int j] := by
  cases h with
  | cons h1 h2 =>
    cases h2 with
    | cons h3 h4 =>
      cases h4
      rw [h1.int_inv, h3.int_inv]
theorem ev_comb {i j : Int} (hm : X.mg "comb" = some (.builtin "math.comb")) (h : AV X [a, b] ρ μ [.int i, .int j] μ') (h1 : 0 ≤ i) (h2 : 0 ≤ j) (h3 : i < 2 ^ 64) (h4 : j ≤ 9000) (hg : Gl X "comb" := by unfold Gl; kernel_rfl) (he : starEach [a, b] X.env = (false, eval a X.env) :: starEach [b] X.env := by kernel_rfl) (hpl : (backTo pos (starEach [b] X.env)).any (·.1) = false := by kernel_rfl) :
    EV X (.Call (.Name "comb" p) [a, b] [] pos) ρ μ (.int (PySem.W.mcComb i j)) μ' := .mk fun B F H σ as R Q q =>
  wp_callG cr_comb hg hm (h.run B F H σ as R _ fun vs F1 H1 R1 g1 e1 => ⟨i, j, two_ints e1, h1, h2, h3, h4, q _ F1 H1 R1 g1 (.int _)⟩) (by decide) he hpl
theorem ev_perm {i j : Int} (hm : X.mg "perm" = some (.builtin "math.perm")) (h : AV X [a, b] ρ μ [.int i, .int j] μ') (h1 : 0 ≤ i) (h2 : 0 ≤ j) (h3 : i < 2 ^ 64) (h4 : j ≤ 9000) (hg : Gl X "perm" := by unfold Gl; kernel_rfl) (he : starEach [a, b] X.env = (false, eval a X.env) :: starEach [b] X.env := by kernel_rfl) (hpl : (backTo pos (starEach [b] X.env)).any (·.1) = false := by kernel_rfl) :
    EV X (.Call (.Name "perm" p) [a, b] [] pos) ρ μ (.int (PySem.W.mcPerm i j)) μ' := .mk fun B F H σ as R Q q =>
  wp_callG cr_perm hg hm (h.run B F H σ as R _ fun vs F1 H1 R1 g1 e1 => ⟨i, j, two_ints e1, h1, h2, h3, h4, q _ F1 H1 R1 g1 (.int _)⟩) (by decide) he hpl
/-! ### max, sum, all -/
theorem ev_max {ns : List Int} {m : Int} (hm : X.mg "max" = none) (h : LV X e ρ μ (ns.map .int) μ') (h1 : m ∈ ns) (h2 : ∀ y ∈ ns, y ≤ m) (hc : X.calm = true := by kernel_rfl) (hg : Gl X "max" := by unfold Gl; kernel_rfl) (he : starEach [e] X.env = (false, eval e X.env) :: starEach [] X.env := by kernel_rfl) : EV X (.Call (.Name "max" p) [e] [] pos) ρ μ (.int m) μ' := .mk fun B F H σ as R Q q =>
  wp_callB (he := he) (cr_max hc) hg hm (by decide +kernel) (wp_one (h.run B F H σ as R _ fun a vs F1 H1 R1 g1 k1 k2 => ⟨a, ns, rfl, by rw [← k2.ints_inv]; exact k1, List.length_pos_of_mem h1, fun m' z1 z2 => by
    have e1 : m' = m := Int.le_antisymm (h2 m' z1) (z2 m h1)
    subst e1
    exact q _ F1 H1 R1 g1 (.int _)⟩) he)
theorem ev_max2 {i j : Int} (hm : X.mg "max" = none) (h : AV X [a, b] ρ μ [.int i, .int j] μ') (hc : X.calm = true := by kernel_rfl) (hg : Gl X "max" := by unfold Gl; kernel_rfl) (he : starEach [a, b] X.env = (false, eval a X.env) :: starEach [b] X.env := by kernel_rfl) (hpl : (backTo pos (starEach [b] X.env)).any (·.1) = false := by kernel_rfl) :
    EV X (.Call (.Name "max" p) [a, b] [] pos) ρ μ (.int (if j > i then j else i)) μ' := .mk fun B F H σ as R Q q =>
  wp_callB (he := he) (hpl := hpl) (call_max2 hc) hg hm (by decide +kernel) (h.run B F H σ as R _ fun vs F1 H1 R1 g1 e1 => ⟨i, j, two_ints e1, q _ F1 H1 R1 g1 (.int _)⟩)
theorem ev_sum {ns : List Int} (hm : X.mg "sum" = none) (h : LV X e ρ μ (ns.map .int) μ') (hc : X.calm = true := by kernel_rfl) (hg : Gl X "sum" := by unfold Gl; kernel_rfl) (he : starEach [e] X.env = (false, eval e X.env) :: starEach [] X.env := by kernel_rfl) : EV X (.Call (.Name "sum" p) [e] [] pos) ρ μ (.int ns.sum) μ' := .mk fun B F H σ as R Q q =>
  wp_callB (he := he) (cr_sum hc) hg hm (by decide +kernel) (wp_one (h.run B F H σ as R _ fun a vs F1 H1 R1 g1 k1 k2 => ⟨a, ns, rfl, by rw [← k2.ints_inv]; exact k1, q _ F1 H1 R1 g1 (.int _)⟩) he)
theorem ev_all {ns : List Bool} (hm : X.mg "all" = none) (h : LV X e ρ μ (ns.map .bool) μ') (hc : X.calm = true := by kernel_rfl) (hg : Gl X "all" := by unfold Gl; kernel_rfl) (he : starEach [e] X.env = (false, eval e X.env) :: starEach [] X.env := by kernel_rfl) : EV X (.Call (.Name "all" p) [e] [] pos) ρ μ (.bool (ns.all id)) μ' := .mk fun B F H σ as R Q q =>
  wp_callB (he := he) (cr_all hc) hg hm (by decide +kernel) (wp_one (h.run B F H σ as R _ fun a vs F1 H1 R1 g1 k1 k2 => ⟨a, ns, rfl, by rw [← k2.bools_inv]; exact k1, q _ F1 H1 R1 g1 (.bl _)⟩) he)

/-! ### isinstance -/
def tyD : PyData → String
  | .none => "NoneType"
  | .bool _ => "bool"
  | .int _ => "int"
  | .str _ => "str"
  | .list _ => "list"
  | .tuple _ => "tuple"
  | .dict _ => "dict"
theorem tyx_of {F H : Hp} {v : V} (fh : Same F H) (h : Dp X.K F v d) : TyX X.K H v (.type (tyD d)) := by
  cases d with
  | none => cases h; exact .base .non
  | bool b => rw [h.bool_inv]; exact .base (.bl b)
  | int i => rw [h.int_inv]; exact .base (.int i)
  | str x => cases h; exact .base (.str x)
  | list ds =>
    obtain ⟨a, vs, rfl, h1, h2⟩ := h.lst_inv
    rcases sql_mono fh h1 with (z | ⟨o, z⟩) | ⟨o, its, n, z1, z2, _⟩
    · exact .base (.lst z)
    · exact .base (.frz z)
    · exact .kList z1 z2
  | tuple ds =>
    obtain ⟨a, vs, rfl, h1, h2⟩ := h.tup_inv
    rcases sqt_mono fh h1 with (z | ⟨o, z⟩) | ⟨o, its, n, z1, z2, _⟩
    · exact .base (.tup z)
    · exact .fTuple z
    · exact .kTuple z1 z2
  | dict _ => cases h
/-- isinstance(e, T) -/
theorem ev_isi {T : Str} {U : String} {r : Bool} (hm : X.mg "isinstance" = none) (h : EV X e ρ μ d μ') (hT : X.mg T = none) (hv : bootBuiltins T = some (.type U)) (hk : kitB (tyD d) U = some r) (hgT : Gl X T := by unfold Gl; kernel_rfl) (hn : T ≠ "__name__" := by decide) (hdb : (T == ("__debug__" : Str)) = false := by decide)
    (hg : Gl X "isinstance" := by unfold Gl; kernel_rfl) (he : starEach [e, .Name T p2] X.env = (false, eval e X.env) :: starEach [.Name T p2] X.env := by kernel_rfl) (he2 : starEach [.Name T p2] X.env = (false, eval (.Name T p2) X.env) :: starEach [] X.env := by kernel_rfl) (hpl : (backTo pos (starEach [.Name T p2] X.env)).any (·.1) = false := by kernel_rfl) :
    EV X (.Call (.Name "isinstance" p) [e, .Name T p2] [] pos) ρ μ (.bool r) μ' := .mk fun B F H σ as R Q q =>
  wpE_of (pe_callB (he := he) (hpl := hpl) call_isi hg hm (by decide +kernel) (pa_cons (peW (e := e)) (pa_cons (pe_bltn (v := .ty U) hgT hT hv rfl hn hdb) pa_nil he2) he)) (h.run B F H σ as R _ fun v F1 H1 R1 g1 e1 =>
    ⟨v, .ty U, .type (tyD d), .type U, r, rfl, .ty U, tyx_of R1.fh e1, kit_ty hk, q _ F1 H1 R1 g1 (.bl _)⟩)
/-- isinstance(e, (T, S)) -/
theorem ev_isi2 {T S : Str} {U W : String} {r1 r2 : Bool} {k : Nat} {p3 p4 : Pos} (hm : X.mg "isinstance" = none) (h : EV X e ρ μ d μ') (hT : X.mg T = none) (hS : X.mg S = none) (hv : bootBuiltins T = some (.type U)) (hw : bootBuiltins S = some (.type W)) (hk : kitB (tyD d) U = some r1) (hk2 : kitB (tyD d) W = some r2)
    (hgT : Gl X T := by unfold Gl; kernel_rfl) (hn : T ≠ "__name__" := by decide) (hdb : (T == ("__debug__" : Str)) = false := by decide) (hgS : Gl X S := by unfold Gl; kernel_rfl) (hnS : S ≠ "__name__" := by decide) (hdbS : (S == ("__debug__" : Str)) = false := by decide) (hg : Gl X "isinstance" := by unfold Gl; kernel_rfl)
    (he : starEach [e, .Tuple [.Name T p2, .Name S p3] k p4] X.env = (false, eval e X.env) :: starEach [.Tuple [.Name T p2, .Name S p3] k p4] X.env := by kernel_rfl) (he2 : starEach [.Tuple [.Name T p2, .Name S p3] k p4] X.env = (false, eval (.Tuple [.Name T p2, .Name S p3] k p4) X.env) :: starEach [] X.env := by kernel_rfl)
    (he3 : starEach [.Name T p2, .Name S p3] X.env = (false, eval (.Name T p2) X.env) :: starEach [.Name S p3] X.env := by kernel_rfl) (he4 : starEach [.Name S p3] X.env = (false, eval (.Name S p3) X.env) :: starEach [] X.env := by kernel_rfl)
    (hpl : (backTo pos (starEach [.Tuple [.Name T p2, .Name S p3] k p4] X.env)).any (·.1) = false := by kernel_rfl) :
    EV X (.Call (.Name "isinstance" p) [e, .Tuple [.Name T p2, .Name S p3] k p4] [] pos) ρ μ (.bool (r1 || r2)) μ' := .mk fun B F H σ as R Q q =>
  wpE_of (pe_callB (he := he) (hpl := hpl) call_isiT hg hm (by decide +kernel) (pa_cons (peW (e := e)) (pa_cons (pe_tup (pa_cons (pe_bltn (v := .ty U) hgT hT hv rfl hn hdb) (pa_cons (pe_bltn (v := .ty W) hgS hS hw rfl hnS hdbS) pa_nil he4) he3)) pa_nil he2) he)) (h.run B F H σ as R _ fun v F1 H1 R1 g1 e1 =>
    ⟨by rw [sizeLine_eq]; show 2 ≤ _; decide, fun t ht => ⟨v, t, _, .type (tyD d), [.type U, .type W], r1 || r2, rfl, upd_same, .cons (.ty U) (.cons (.ty W) .nil), tyx_of ((R1.fh).trans (same_new ht)) e1,
      kitAny_cons (kit_ty hk) (fun z => kitAny_cons (kit_ty hk2) (fun z2 => by rw [z, z2]; exact kitAny_nil) (fun z2 => by rw [z, z2]; rfl)) (fun z => by rw [z]; rfl), q _ _ _ (R1.data ht) (g1.trans (Gr.data R1.fh ht)) (.bl _)⟩⟩)

/-! ### promises of defs -/
/-- a def over data that changes nothing -/
def spP (K : PySem.W.Frag) (R : List PyData → PyData → Prop) : Sp := fun vs H Q _ => ∃ F ds d, Same F H ∧ DpAll K F vs ds ∧ R ds d ∧ ∀ v F' H', Gr [] F H F' H' → Same F' H' → Dp K F' v d → Q v H'
/-- .. whose answer is a new list -/
def spL (K : PySem.W.Frag) (R : List PyData → List PyData → Prop) : Sp := fun vs H Q _ => ∃ F ds xs, Same F H ∧ DpAll K F vs ds ∧ R ds xs ∧ ∀ p us F' H', Gr [] F H F' H' → Same F' H' → H p = none → F' p = none → H' p = some (.lst us) → DpAll K F' us xs → Q (.ref p) H'
/-- .. that changes the list of its first argument -/
def spU (K : PySem.W.Frag) (R : List PyData → List PyData → PyData → List PyData → Prop) : Sp := fun vs H Q _ => ∃ F a ws vs' us ds d us', vs = .ref a :: vs' ∧ Same F H ∧ F a = none ∧ H a = some (.lst ws) ∧ DpAll K F ws us ∧ DpAll K F vs' ds ∧ R us ds d us' ∧
  ∀ v ws' F' H', Gr [a] F H F' H' → Same F' H' → F' a = none → H' a = some (.lst ws') → DpAll K F' ws' us' → Dp K F' v d → Q v H'
/-- a def of the module, by its name -/
structure Fn (P : Program) (w : World) (K : PySem.W.Frag) (mg : Str → Option Value) (base : Heap) (k : Nat) (x : Str) (sp : Sp) : Prop where
  ex : ∃ (f : Addr) (fd : FuncData) (ps : List Str), mg x = some (.ref f) ∧ PySem.W.keepIn K (.ref f) = true ∧ Binds K fd ps [] ∧ FnOk P w K mg base CX0 k f fd ps sp
theorem Fn.mono {P : Program} {w : World} {K : PySem.W.Frag} {mg : Str → Option Value} {base : Heap} {j k : Nat} {sp : Sp} (h : Fn P w K mg base j x sp) (e : j ≤ k) : Fn P w K mg base k x sp :=
  let ⟨f, fd, ps, h1, h2, h3, h4⟩ := h.ex; ⟨f, fd, ps, h1, h2, h3, h4.mono e⟩
theorem Fn.imp {P : Program} {w : World} {K : PySem.W.Frag} {mg : Str → Option Value} {base : Heap} {k : Nat} {sp sp' : Sp} (h : Fn P w K mg base k x sp) (e : ∀ vs H Q E, sp' vs H Q E → sp vs H Q E) : Fn P w K mg base k x sp' :=
  let ⟨f, fd, ps, h1, h2, h3, h4⟩ := h.ex; ⟨f, fd, ps, h1, h2, h3, h4.imp e⟩
/-- a def that the text has at st -/
structure Df (K : PySem.W.Frag) (mg : Str → Option Value) (x : Str) (st : Stmt) : Prop where
  ex : ∃ (f : Addr) (fd : FuncData), mg x = some (.ref f) ∧ Fun K x x st f fd

/-! ### calls -/
theorem wp_call {sp : Sp} {k j : Nat} {Q : VK} (G : Fn X.prog X.w X.K X.mg X.base j x sp) (hr : Room k X.A) (hj : j ≤ k) (hg : Gl X x) (h : wpA X (e :: es) σ H fun vs H1 => sp vs H1 Q E0) (hdb : (x == ("__debug__" : Str)) = false := by kernel_rfl)
    (he : starEach (e :: es) X.env = (false, eval e X.env) :: starEach es X.env := by kernel_rfl) (hpl : (backTo pos (starEach es X.env)).any (·.1) = false := by kernel_rfl) : wpE X (.Call (.Name x p) (e :: es) [] pos) σ H Q := by
  obtain ⟨f, fd, ps, h1, h2, h3, h4⟩ := G.ex
  refine wpE_of (pe_call h4 (hr.mono hj) hg h1 h2 h3 .nil pass0 (paW (es := e :: es)) hdb he hpl) ?_
  show wpA X (e :: es) σ H fun vs H1 => sp (vs ++ []) H1 Q E0
  have e1 : (fun (vs : List V) (H1 : Hp) => sp (vs ++ []) H1 Q E0) = fun vs H1 => sp vs H1 Q E0 := by
    funext vs H1
    rw [List.append_nil]
  rw [e1]
  exact h
theorem Gr.fn {as : List Addr} {F1 H1 F2 H2 F' H' : Hp} (g1 : Gr as F1 H1 F2 H2) (g : Gr [] F2 H2 F' H') : Gr as F1 H1 F' H' := g1.trans g.widen
theorem ev_call {Rl : List PyData → PyData → Prop} {k j : Nat} (G : Fn X.prog X.w X.K X.mg X.base j x (spP X.K Rl)) (hr : Room k X.A) (h : AV X (e :: es) ρ μ ds μ') (hR : Rl ds d) (hj : j ≤ k := by decide) (hg : Gl X x := by unfold Gl; kernel_rfl) (hdb : (x == ("__debug__" : Str)) = false := by kernel_rfl)
    (he : starEach (e :: es) X.env = (false, eval e X.env) :: starEach es X.env := by kernel_rfl) (hpl : (backTo pos (starEach es X.env)).any (·.1) = false := by kernel_rfl) : EV X (.Call (.Name x p) (e :: es) [] pos) ρ μ d μ' := .mk fun B F H σ as R Q q =>
  wp_call G hr hj hg (h.run B F H σ as R _ fun vs F1 H1 R1 g1 e1 => ⟨F1, ds, d, R1.fh, e1, hR, fun v F' H' g f' dv => q v F' H' (R1.gr0 g f') (g1.fn g) dv⟩) hdb he hpl
theorem ef_call {Rl : List PyData → List PyData → Prop} {k j : Nat} (G : Fn X.prog X.w X.K X.mg X.base j x (spL X.K Rl)) (hr : Room k X.A) (h : AV X (e :: es) ρ μ ds μ') (hR : Rl ds xs) (hj : j ≤ k := by decide) (hg : Gl X x := by unfold Gl; kernel_rfl) (hdb : (x == ("__debug__" : Str)) = false := by kernel_rfl)
    (he : starEach (e :: es) X.env = (false, eval e X.env) :: starEach es X.env := by kernel_rfl) (hpl : (backTo pos (starEach es X.env)).any (·.1) = false := by kernel_rfl) : EF X (.Call (.Name x p) (e :: es) [] pos) ρ μ xs μ' := .mk fun B F H σ as R Q q =>
  wp_call G hr hj hg (h.run B F H σ as R _ fun vs F1 H1 R1 g1 e1 => ⟨F1, ds, xs, R1.fh, e1, hR, fun p us F' H' g f' hp hF hH dv => q p us F' H' (R1.gr0 g f') (g1.fn g) (by
    cases u : H p with
    | none => rfl
    | some u' => exact absurd hp (g1.hn p (by rw [u]; simp))) hF hH dv⟩) hdb he hpl
/-- f(urn, ..) -/
theorem ev_callU (i : Nat) {kk : Nat} {y : Str} {us us' : List PyData} {Rl : List PyData → List PyData → PyData → List PyData → Prop} {k j : Nat} (G : Fn X.prog X.w X.K X.mg X.base j x (spU X.K Rl)) (hr : Room k X.A) (hρ : ρ[i]? = some (.h kk)) (h : AV X es ρ μ ds μ1) (hu : μ1[kk]? = some (.l us)) (hR : Rl us ds d us') (hj : j ≤ k := by decide) (hg : Gl X x := by unfold Gl; kernel_rfl)
    (hdb : (x == ("__debug__" : Str)) = false := by kernel_rfl) (hN : X.N[i]? = some y := by kernel_rfl) (hv : visB X.env.scope y = true := by kernel_rfl)
    (he : starEach (.Name y p2 :: es) X.env = (false, eval (.Name y p2) X.env) :: starEach es X.env := by kernel_rfl) (hpl : (backTo pos (starEach es X.env)).any (·.1) = false := by kernel_rfl) : EV X (.Call (.Name x p) (.Name y p2 :: es) [] pos) ρ μ d (μ1.set kk (.l us')) := .mk fun B F H σ as R Q q => by
  obtain ⟨r, e1, e2⟩ := R.sl i _ hρ
  refine wp_call G hr hj hg (wpA_of (pa_cons (pe_var hN (visB_vis hv) (visB_d hv) (visB_c hv)) (paW (es := es)) he) ⟨_, e2, h.run B F H σ as R _ fun vs F1 H1 R1 g1 e3 => ?_⟩) hdb he hpl
  obtain ⟨a', e4, h1, ws, h2, h3⟩ := R1.mu kk _ hu
  rw [e1] at e4
  have e4' := Option.some.inj e4
  subst e4'
  refine ⟨F1, r, ws, vs, us, ds, d, us', rfl, R1.fh, h1, h2, h3, e3, hR, fun v ws' F' H' g f' k1 k2 k3 k4 => q v F' H' (R1.gr1 e1 g f' h1 ⟨k1, ws', k2, k3⟩) (g1.trans ⟨g.ff, fun z o n => g.hk z o (fun w => n ?_), g.hn, g.nm⟩) k4⟩
  have w' : z = r := by simpa using w
  subst w'
  exact List.mem_of_getElem? e1
/-- f(a new list): the list is f's to change -/
theorem ev_callN {us us' : List PyData} {Rl : List PyData → List PyData → PyData → List PyData → Prop} {k j : Nat} (G : Fn X.prog X.w X.K X.mg X.base j x (spU X.K Rl)) (hr : Room k X.A) (h : EF X e ρ μ us μ1) (hR : Rl us [] d us') (hj : j ≤ k := by decide) (hg : Gl X x := by unfold Gl; kernel_rfl)
    (hdb : (x == ("__debug__" : Str)) = false := by kernel_rfl) (he : starEach [e] X.env = (false, eval e X.env) :: starEach [] X.env := by kernel_rfl) : EV X (.Call (.Name x p) [e] [] pos) ρ μ d μ1 := .mk fun B F H σ as R Q q => by
  refine wp_call G hr hj hg (wp_one (h.run B F H σ as R _ fun r ws F1 H1 R1 g1 h0 h1 h2 h3 => ?_) he) hdb he
  have hA : r ∉ as := R.freeA h0
  refine ⟨F1, r, ws, [], us, [], d, us', rfl, R1.fh, h1, h2, h3, .nil, hR, fun v ws' F' H' g f' k1 k2 k3 k4 => ?_⟩
  have hb : B.H r = none := R.freeB h0
  have ga : ∀ z o, z ∈ as → H1 z = some o → H' z = some o := fun z o m => g.hk z o fun w => by
    have w' : z = r := by simpa using w
    subst w'
    exact hA m
  have R' : SR X B F' H' σ ρ μ1 as := {
    b1 := R1.b1.trans g.ff
    fh := f'
    kp := fun z o hz n => g.hk z o (fun w => by
      have w' : z = r := by simpa using w
      subst w'
      rw [hb] at hz; cases hz) (R1.kp z o hz n)
    kn := fun z hz => g.hn z (R1.kn z hz)
    nm := fun z hz n => g.nm z (R1.kn z hz) (R1.nm z hz n)
    sl := fun i sv z => (R1.sl i sv z).up g.ff
    sz := R1.sz
    mu := fun k m z => by
      obtain ⟨a, q1, q2⟩ := R1.mu k m z
      have hm : a ∈ as := List.mem_of_getElem? q1
      refine ⟨a, q1, ?_⟩
      cases m with
      | l xs => obtain ⟨z1, vs, z2, z3⟩ := q2; exact ⟨g.nm a (by rw [z2]; simp) z1, vs, ga a _ hm z2, z3.up g.ff⟩
      | m kvs => obtain ⟨z1, es, z2, z3⟩ := q2; exact ⟨g.nm a (by rw [z2]; simp) z1, es, ga a _ hm z2, Paired.mapP z3 fun p q z => ⟨z.1, z.2.1, z.2.2.1.up g.ff, z.2.2.2.up g.ff⟩⟩
      | dead => trivial
    ln := R1.ln
    nd := R1.nd
    al := fun a h => g.hn a (R1.al a h)
    fr := R1.fr
    ww := R1.ww }
  exact q v F' H' R' ⟨g1.ff.trans g.ff, fun z o n hz => g.hk z o (fun w => by
    have w' : z = r := by simpa using w
    subst w'
    rw [h0] at hz; cases hz) (g1.hk z o n hz), fun z hz => g.hn z (g1.hn z hz), fun z hz n => g.nm z (g1.hn z hz) (g1.nm z hz n)⟩ k4
end
end DW

/-! Dw6: what is walked, targets, list comprehensions. -/
namespace DW
open PySem PySem.Spec PyProof.Rows L2

/-! ### enumerate(tuple) -/
section
variable {prog : Program} {w : World} {A : Around} {E : Value → Shared → Prop} {s : Shared}
theorem meets_enumerate_newT (l : Addr) (items : Array Value) (n : Nat) (dct : Option Addr) (sl : Array (Option Value)) :
    Meets (Builtin.«enumerate.__new__» ⟨[.type "enumerate", .ref l], []⟩) (fun _ R s => s.heap.get? l = some { cls := .type "tuple", dict := dct, data := .seq items n, slots := sl } ∧
      R (.ok (.ret (.ref (s.heap.push { cls := .type "tuple_iterator", data := .fields #[.ref l, .int 0 0] }).objs.size)))
        { s with heap := (s.heap.push { cls := .type "tuple_iterator", data := .fields #[.ref l, .int 0 0] }).push { cls := .type "enumerate", data := .fields #[.none, .bool false, .ref s.heap.objs.size, rawInt 0, .none, .none] } }) :=
  .of_wp fun prog w A R s h => by
    obtain ⟨hp, g, d, tk, os⟩ := s
    obtain ⟨hl, h⟩ := h
    have hsub := sub_enumerate
    have hL : Heap.IsTuple (Shared.heap ⟨hp, g, d, tk, os⟩) l items := ⟨_, hl, rfl, n, rfl⟩
    wp_walk using AutoSeq1.wpAny_loadPart' hl
    refine wpAny_stack_any fun st => wpAny_pure ?_
    split
    · rename_i c _ _ _ _ _
      cases (c == Value.type "enumerate")
      · wp_walk using AutoSeq1.wpAny_loadPart' hl, wpAny_pyIter_tuple hL
        exact ⟨_, rfl, h⟩
      · wp_walk using AutoSeq1.wpAny_loadPart' hl, wpAny_pyIter_tuple hL
        exact ⟨_, rfl, h⟩
    · wp_walk using AutoSeq1.wpAny_loadPart' hl, wpAny_pyIter_tuple hL
      exact ⟨_, rfl, h⟩
theorem call_enumerate_tuple {l : Addr} {items : Array Value} {Q : Value → Shared → Prop} (hL : s.heap.IsTuple l items)
    (h : ∀ h', IsEnum h' (s.heap.objs.size + 1) s.heap.objs.size 0 .none → h'.IsTupleIter s.heap.objs.size l 0 → h'.objs.size = s.heap.objs.size + 2 →
      (∀ b o, s.heap.get? b = some o → h'.get? b = some o) → Q (.ref (s.heap.objs.size + 1)) { s with heap := h' }) :
    wpAny (model prog w) A (call (.type "enumerate") [.ref l]) Q E s := by
  obtain ⟨⟨c, dct, dt, sl⟩, hl, hc, n, hd⟩ := hL
  replace hc : c = .type "tuple" := hc
  replace hd : dt = .seq items n := hd
  subst hc hd
  refine callType_new F.called_enumerate (by decide) (F.typeCall_enumerate_1 _) (F.newCall_enumerate_1 _) (fun obj => F.args_object_init_2 obj _) F.entry_enumerate_new (meets_enumerate_newT l items n dct sl) ⟨hl, ?_⟩
  have hz : (s.heap.push { cls := .type "tuple_iterator", data := .fields #[.ref l, .int 0 0] }).objs.size = s.heap.objs.size + 1 := Heap.size_push ..
  show _ ∧ _
  rw [hz]
  have he : IsEnum ((s.heap.push { cls := .type "tuple_iterator", data := .fields #[.ref l, .int 0 0] }).push
      { cls := .type "enumerate", data := .fields #[.none, .bool false, .ref s.heap.objs.size, rawInt 0, .none, .none] }) (s.heap.objs.size + 1) s.heap.objs.size 0 .none := by
    have q := Heap.get?_push_size (s.heap.push { cls := .type "tuple_iterator", data := .fields #[.ref l, .int 0 0] })
      (o := { cls := .type "enumerate", data := .fields #[.none, .bool false, .ref s.heap.objs.size, rawInt 0, .none, .none] }) rfl
    rw [hz] at q
    exact q
  refine ⟨⟨_, he, rfl⟩, h _ he ⟨_, Heap.get?_push_of_some _ (Heap.get?_push_size _ rfl), rfl, rfl⟩ (by rw [Heap.size_push, hz]) fun b o x => Heap.get?_push_of_some _ (Heap.get?_push_of_some _ x)⟩
end
def iEnumT (K : PySem.W.Frag) (ta : TA) : TI := fun σ H R => ta σ H fun vs H1 => ∃ a xs, vs = [.ref a] ∧ SqT K H1 a xs ∧ R (IteT K a) H1
theorem pi_enumT {X : Cx} {e : Expr} {ta : TA} {p pos tpos : Pos} {elts : List Expr} {kk : Nat} (hg : Gl X "enumerate") (hm : X.mg "enumerate" = none) (ha : PA X [e] ta) (hs : starEach [e] X.env = [(false, eval e X.env)] := by kernel_rfl) :
    PI X (.Tuple elts kk tpos) (.Call (.Name "enumerate" p) [e] [] pos) (iEnumT X.K ta) := by
  refine ⟨fun pins s σ H R I h => ?_⟩
  refine Call_ (ld_blt I hg hm boot_enumerate (PyProof.Rows.callWith_type1 (thn (ha.run pos pins s σ H _ I h) fun us s1 ⟨vs, H1, I1, r1, q1⟩ => ?_) hs rfl))
  obtain ⟨a, xs, ex, hq, q⟩ := q1
  subst ex
  cases r1 with
  | cons r rr =>
    cases rr
    cases r
    obtain ⟨its, rv, p', hz⟩ := I1.tuple hq
    refine call_enumerate_tuple p' fun h' he hit hsz hk => wpAny_pyIter_enum he ?_
    have I2 : Inv X pins σ H1 { s1 with heap := h' } := I1.kept (t' := s1.toks) hk
    refine ⟨s1.heap.objs.size + 1, [s1.heap.objs.size + 1, s1.heap.objs.size], _, _, H1, rfl, I2, turn_enumT a (s1.heap.objs.size + 1) s1.heap.objs.size, ⟨⟨.none, he⟩, hit, Nat.succ_ne_self _⟩, fun b hb => ?_, q⟩
    have e' : b = s1.heap.objs.size + 1 ∨ b = s1.heap.objs.size := by simpa using hb
    have hle : s1.heap.objs.size ≤ b := by
      rcases e' with z | z
      · rw [z]; exact Nat.le_add_right _ _
      · rw [z]; exact Nat.le_refl _
    exact I1.fpOk hle (I1.hok.fresh hle)

/-! ### what is walked -/
/-- the walk J gives the data ds, one by one, wherever F stands -/
def WD (K : PySem.W.Frag) (F : Hp) (J : It) (ds : List PyData) : Prop := ∃ Y, Walk J ds.length (fun H => Same F H) Y ∧
  ∀ i H x H' F', i < ds.length → Same F F' → Same F' H → Y i H x H' → ∃ F'' d, New F' H F'' H' ∧ ds[i]? = some d ∧ Dp K F'' x d
structure IV (X : Cx) (tg iter : Expr) (ρ : List SV) (μ : List MO) (ds : List PyData) (μ' : List MO) : Prop where
  run : ∀ B F H σ as, SR X B F H σ ρ μ as → ∀ R : It → Hp → Prop, (∀ J F' H', SR X B F' H' σ ρ μ' as → Gr as F H F' H' → WD X.K F' J ds → R J H') → wpI X tg iter σ H R
def pairD (a b : PyData) : PyData := .tuple [a, b]
section
variable {K : PySem.W.Frag} {F : Hp} {a b : Addr} {vs ws : List V} {ds es : List PyData}
theorem wd_list (h : SqL K F a vs) (hd : DpAll K F vs ds) : WD K F (Itl K a) ds := by
  refine ⟨_, by rw [← hd.len]; exact (walk_list (K := K) (a := a) (xs := vs)).mono (fun H e => sql_mono e h) (fun _ _ _ _ _ _ y => y), fun i H x H' F' hi e e2 y => ?_⟩
  obtain ⟨rfl, q⟩ := y
  obtain ⟨d, h1, h2⟩ := hd.getV q
  exact ⟨F', d, New.refl, h1, h2.up e⟩
theorem wd_tup (h : SqT K F a vs) (hd : DpAll K F vs ds) : WD K F (Itt K a) ds := by
  refine ⟨_, by rw [← hd.len]; exact (walk_tup (K := K) (a := a) (xs := vs)).mono (fun H e => sqt_mono e h) (fun _ _ _ _ _ _ y => y), fun i H x H' F' hi e e2 y => ?_⟩
  obtain ⟨rfl, q⟩ := y
  obtain ⟨d, h1, h2⟩ := hd.getV q
  exact ⟨F', d, New.refl, h1, h2.up e⟩
def rangeD (lo : Int) (n : Nat) : List PyData := (List.range n).map fun i => .int (lo + (i : Nat))
theorem wd_range {lo : Int} {n : Nat} : WD K F (Itr lo n) (rangeD lo n) := by
  have e : (rangeD lo n).length = n := by simp [rangeD]
  refine ⟨_, by rw [e]; exact (walk_range (lo := lo) (n := n)).mono (fun _ _ => trivial) (fun _ _ _ _ _ _ y => y), fun i H x H' F' hi e e2 y => ?_⟩
  obtain ⟨rfl, rfl⟩ := y
  refine ⟨F', _, New.refl, ?_, .int _⟩
  rw [rangeD, List.getElem?_map, List.getElem?_range (by simpa [rangeD] using hi)]
  rfl
theorem dp_pair {x y : V} {H : Hp} {T : Addr} {d1 d2 : PyData} (h1 : Dp K F x d1) (h2 : Dp K F y d2) (hT : F T = none) : Dp K (upd F T (.tup [x, y])) (.ref T) (pairD d1 d2) :=
  .tup (.inl (.inl upd_same)) (.cons (h1.up (same_new hT)) (.cons (h2.up (same_new hT)) .nil))
theorem wd_pair {J : It} {n : Nat} {G : Hp → Prop} {f g : Nat → Option V} {ps : List (PyData × PyData)} (w : Walk J n G (YPair f g)) (hn : ps.length = n) (hG : ∀ H, Same F H → G H)
    (h1 : ∀ i x, i < n → f i = some x → ∃ p, ps[i]? = some p ∧ Dp K F x p.1) (h2 : ∀ i x, i < n → g i = some x → ∃ p, ps[i]? = some p ∧ Dp K F x p.2) : WD K F J (ps.map fun p => pairD p.1 p.2) := by
  refine ⟨_, by rw [List.length_map, hn]; exact w.mono hG (fun _ _ _ _ _ _ y => y), fun i H x H' F' hi e e2 y => ?_⟩
  have hi' : i < n := by rw [List.length_map, hn] at hi; exact hi
  obtain ⟨T, x1, x2, rfl, hT, rfl, q1, q2⟩ := y
  obtain ⟨p, z1, z2⟩ := h1 i x1 hi' q1
  obtain ⟨p', z3, z4⟩ := h2 i x2 hi' q2
  rw [z1] at z3
  have z3' := Option.some.inj z3
  subst z3'
  exact ⟨_, pairD p.1 p.2, New.mk hT, by rw [List.getElem?_map, z1]; rfl, dp_pair (H := H) (z2.up e) (z4.up e) (freeS e2 hT)⟩
def enumD (ds : List PyData) : List (PyData × PyData) := ds.mapIdx fun i d => (.int (i : Nat), d)
theorem enum_ok {J : It} {G : Hp → Prop} (w : Walk J vs.length G (YPair (fun i => some (.int (i : Nat))) (fun i => vs[i]?))) (hG : ∀ H, Same F H → G H) (hd : DpAll K F vs ds) : WD K F J ((enumD ds).map fun p => pairD p.1 p.2) := by
  refine wd_pair w (by simp [enumD, hd.len]) hG (fun i x hi e => ?_) (fun i x hi e => ?_)
  · have e' : V.int (i : Nat) = x := Option.some.inj e
    subst e'
    have hi' : i < ds.length := by rw [← hd.len]; exact hi
    exact ⟨(.int (i : Nat), ds[i]), by simp [enumD, hi'], .int _⟩
  · obtain ⟨d, z1, z2⟩ := hd.getV e
    exact ⟨(.int (i : Nat), d), by simp [enumD, z1], z2⟩
end
/-- enumerate of a tuple, as a Walk -/
theorem walk_enumT {K : PySem.W.Frag} {a : Addr} {xs : List V} : Walk (IteT K a) xs.length (fun H => SqT K H a xs) (YPair (fun i => some (.int (i : Nat))) (fun i => xs[i]?)) := by
  refine ⟨fun i _ hi q => ⟨xs, xs[i], q, by simp [hi]⟩, fun _ q => ⟨xs, q, Nat.le_refl _⟩, fun i H v H' _ q y => ?_⟩
  obtain ⟨T, x, h1, h2, h3, h4⟩ := y
  exact ⟨T, .int (i : Nat), x, h1, h2, h3, rfl, h4 xs q⟩
theorem walk_zipT {K : PySem.W.Frag} {a b : Addr} {xs ys : List V} {n : Nat} (hn : n = min xs.length ys.length) : Walk (RZ.ItzT K a b) n (fun H => SqT K H a xs ∧ SqT K H b ys) (YPair (fun i => xs[i]?) (fun i => ys[i]?)) := by
  subst hn
  refine ⟨fun i _ hi q => ?_, fun _ q => ⟨xs, ys, q.1, q.2, by omega⟩, fun i H v H' _ q y => ?_⟩
  · have h1 : i < xs.length := by omega
    have h2 : i < ys.length := by omega
    exact ⟨xs, ys, xs[i], ys[i], q.1, q.2, by simp [h1], by simp [h2]⟩
  · obtain ⟨T, x, z, h1, h2, h3, h4, h5⟩ := y
    exact ⟨T, x, z, h1, h2, h3, h4 xs q.1, h5 ys q.2⟩
section
variable {X : Cx} {B : Bs} {F H : Hp} {σ : L2.St} {e a b c tg : Expr} {es : List Expr} {ρ : List SV} {μ μ1 μ2 μ3 μ' : List MO} {d d1 d2 d3 : PyData} {ds xs ys : List PyData} {pos p p2 q : Pos} {x : Str} {as : List Addr}
theorem iv_list (h : EV X e ρ μ (.list ds) μ') : IV X tg e ρ μ ds μ' := .mk fun B F H σ as R Q q =>
  wpI_of (pi_list (peW (e := e))) (h.run B F H σ as R _ fun v F1 H1 R1 g1 e1 => by
    obtain ⟨a, vs, rfl, h1, h2⟩ := e1.lst_inv
    exact ⟨a, rfl, ⟨vs, sql_mono R1.fh h1⟩, q _ F1 H1 R1 g1 (wd_list h1 h2)⟩)
theorem iv_tup (h : EV X e ρ μ (.tuple ds) μ') : IV X tg e ρ μ ds μ' := .mk fun B F H σ as R Q q =>
  wpI_of (pi_tup (peW (e := e))) (h.run B F H σ as R _ fun v F1 H1 R1 g1 e1 => by
    obtain ⟨a, vs, rfl, h1, h2⟩ := e1.tup_inv
    exact ⟨a, rfl, ⟨vs, sqt_mono R1.fh h1⟩, q _ F1 H1 R1 g1 (wd_tup h1 h2)⟩)
theorem dp_one {K : PySem.W.Frag} {F : Hp} {vs : List V} (h : DpAll K F vs [d]) : ∃ v, vs = [v] ∧ Dp K F v d := by
  cases h with
  | cons h1 h2 =>
    cases h2
    exact ⟨_, rfl, h1⟩
theorem dp_two {K : PySem.W.Frag} {F : Hp} {vs : List V} (h : DpAll K F vs [d1, d2]) : ∃ v w, vs = [v, w] ∧ Dp K F v d1 ∧ Dp K F w d2 := by
  cases h with
  | cons h1 h2 =>
    obtain ⟨w, rfl, h3⟩ := dp_one h2
    exact ⟨_, _, rfl, h1, h3⟩
theorem iv_range {n : Int} (hm : X.mg "range" = none) (h : EV X e ρ μ (.int n) μ') (h1 : -(2 ^ 62) ≤ n) (h2 : n < 2 ^ 62) (hg : Gl X "range" := by unfold Gl; kernel_rfl) (he : starEach [e] X.env = (false, eval e X.env) :: starEach [] X.env := by kernel_rfl) : IV X tg (.Call (.Name "range" p) [e] [] pos) ρ μ (rangeD 0 n.toNat) μ' := .mk fun B F H σ as R Q q =>
  wpI_of (pi_range1 hg hm (paW (es := [e])) he) (wp_one (h.run B F H σ as R _ fun v F1 H1 R1 g1 e1 => ⟨n, by rw [e1.int_inv], h1, h2, q _ F1 H1 R1 g1 (by
    have z : (n - 0).toNat = n.toNat := by rw [Int.sub_zero]
    first | exact wd_range | (rw [← z]; exact wd_range))⟩) he)
theorem iv_range2 {i j : Int} (hm : X.mg "range" = none) (h : AV X [a, b] ρ μ [.int i, .int j] μ') (hb : -(2 ^ 62) ≤ i ∧ i < 2 ^ 62 ∧ -(2 ^ 62) ≤ j ∧ j < 2 ^ 62) (hg : Gl X "range" := by unfold Gl; kernel_rfl)
    (hs : starEach [a, b] X.env = [(false, eval a X.env), (false, eval b X.env)] := by kernel_rfl) (hs2 : starEach [b] X.env = [(false, eval b X.env)] := by kernel_rfl) : IV X tg (.Call (.Name "range" p) [a, b] [] pos) ρ μ (rangeD i (j - i).toNat) μ' := .mk fun B F H σ as R Q q =>
  wpI_of (pi_range2 hg hm (paW (es := [a, b])) hs hs2) (h.run B F H σ as R _ fun vs F1 H1 R1 g1 e1 => ⟨i, j, two_ints e1, hb, q _ F1 H1 R1 g1 wd_range⟩)
theorem iv_enumL {elts : List Expr} {kk : Nat} {tpos : Pos} (hm : X.mg "enumerate" = none) (h : EV X e ρ μ (.list ds) μ') (hg : Gl X "enumerate" := by unfold Gl; kernel_rfl) (he : starEach [e] X.env = (false, eval e X.env) :: starEach [] X.env := by kernel_rfl) :
    IV X (.Tuple elts kk tpos) (.Call (.Name "enumerate" p) [e] [] pos) ρ μ ((enumD ds).map fun p => pairD p.1 p.2) μ' := .mk fun B F H σ as R Q q =>
  wpI_of (pi_enum hg hm (paW (es := [e])) he) (wp_one (h.run B F H σ as R _ fun v F1 H1 R1 g1 e1 => by
    obtain ⟨a, vs, rfl, h1, h2⟩ := e1.lst_inv
    exact ⟨a, vs, rfl, sql_mono R1.fh h1, q _ F1 H1 R1 g1 (enum_ok walk_enum (fun H e => sql_mono e h1) h2)⟩) he)
theorem iv_enumT {elts : List Expr} {kk : Nat} {tpos : Pos} (hm : X.mg "enumerate" = none) (h : EV X e ρ μ (.tuple ds) μ') (hg : Gl X "enumerate" := by unfold Gl; kernel_rfl) (he : starEach [e] X.env = (false, eval e X.env) :: starEach [] X.env := by kernel_rfl) :
    IV X (.Tuple elts kk tpos) (.Call (.Name "enumerate" p) [e] [] pos) ρ μ ((enumD ds).map fun p => pairD p.1 p.2) μ' := .mk fun B F H σ as R Q q =>
  wpI_of (pi_enumT hg hm (paW (es := [e])) he) (wp_one (h.run B F H σ as R _ fun v F1 H1 R1 g1 e1 => by
    obtain ⟨a, vs, rfl, h1, h2⟩ := e1.tup_inv
    exact ⟨a, vs, rfl, sqt_mono R1.fh h1, q _ F1 H1 R1 g1 (enum_ok walk_enumT (fun H e => sqt_mono e h1) h2)⟩) he)
theorem zip_ok {K : PySem.W.Frag} {F : Hp} {J : It} {G : Hp → Prop} {vs ws : List V} {n : Nat} (hn : n = min vs.length ws.length) (w : Walk J n G (YPair (fun i => vs[i]?) (fun i => ws[i]?))) (hG : ∀ H, Same F H → G H) (h1 : DpAll K F vs xs) (h2 : DpAll K F ws ys) : WD K F J ((xs.zip ys).map fun p => pairD p.1 p.2) := by
  have l1 := h1.len
  have l2 := h2.len
  refine wd_pair w (by rw [List.length_zip, ← l1, ← l2, hn]) hG (fun i x hi e => ?_) (fun i x hi e => ?_)
  · obtain ⟨d, z1, z2⟩ := h1.getV e
    have hi2 : i < ys.length := by omega
    exact ⟨(d, ys[i]), by simp [List.getElem?_zip_eq_some, z1, hi2], z2⟩
  · obtain ⟨d, z1, z2⟩ := h2.getV e
    have hi2 : i < xs.length := by omega
    exact ⟨(xs[i], d), by simp [List.getElem?_zip_eq_some, z1, hi2], z2⟩
theorem iv_zipT {elts : List Expr} {kk : Nat} {tpos : Pos} (hm : X.mg "zip" = none) (h : AV X [a, b] ρ μ [.tuple xs, .tuple ys] μ') (hg : Gl X "zip" := by unfold Gl; kernel_rfl) (hs : starEach [a, b] X.env = (false, eval a X.env) :: starEach [b] X.env := by kernel_rfl) (hpl : (backTo pos (starEach [b] X.env)).any (·.1) = false := by kernel_rfl) :
    IV X (.Tuple elts kk tpos) (.Call (.Name "zip" p) [a, b] [] pos) ρ μ ((xs.zip ys).map fun p => pairD p.1 p.2) μ' := .mk fun B F H σ as R Q q =>
  wpI_of (RZ.pi_zipA hg hm (paW (es := [a, b])) hs hpl) (h.run B F H σ as R _ fun vs F1 H1 R1 g1 e1 => by
    obtain ⟨v, w, rfl, k1, k2⟩ := dp_two e1
    obtain ⟨a, vs, rfl, h1, h2⟩ := k1.tup_inv
    obtain ⟨b, ws, rfl, h3, h4⟩ := k2.tup_inv
    exact ⟨a, b, vs, ws, rfl, .inr ⟨sqt_mono R1.fh h1, sqt_mono R1.fh h3, q _ F1 H1 R1 g1 (zip_ok rfl (walk_zipT rfl) (fun H e => ⟨sqt_mono e h1, sqt_mono e h3⟩) h2 h4)⟩⟩)
theorem iv_zipL {elts : List Expr} {kk : Nat} {tpos : Pos} (hm : X.mg "zip" = none) (h : AV X [a, b] ρ μ [.list xs, .list ys] μ') (hg : Gl X "zip" := by unfold Gl; kernel_rfl) (hs : starEach [a, b] X.env = (false, eval a X.env) :: starEach [b] X.env := by kernel_rfl) (hpl : (backTo pos (starEach [b] X.env)).any (·.1) = false := by kernel_rfl) :
    IV X (.Tuple elts kk tpos) (.Call (.Name "zip" p) [a, b] [] pos) ρ μ ((xs.zip ys).map fun p => pairD p.1 p.2) μ' := .mk fun B F H σ as R Q q =>
  wpI_of (RZ.pi_zipA hg hm (paW (es := [a, b])) hs hpl) (h.run B F H σ as R _ fun vs F1 H1 R1 g1 e1 => by
    obtain ⟨v, w, rfl, k1, k2⟩ := dp_two e1
    obtain ⟨a, vs, rfl, h1, h2⟩ := k1.lst_inv
    obtain ⟨b, ws, rfl, h3, h4⟩ := k2.lst_inv
    exact ⟨a, b, vs, ws, rfl, .inl ⟨sql_mono R1.fh h1, sql_mono R1.fh h3, q _ F1 H1 R1 g1 (zip_ok rfl (walk_zip rfl) (fun H e => ⟨sql_mono e h1, sql_mono e h3⟩) h2 h4)⟩⟩)
end
end DW

/-! Dw7: targets, list comprehensions. -/
namespace DW
open PySem PySem.Spec PyProof.Rows L2

/-! ### the same state, read in another context -/
theorem SR.cx {X X' : Cx} {B : Bs} {F H : Hp} {σ : L2.St} {ρ : List SV} {μ : List MO} {as : List Addr} (R : SR X B F H σ ρ μ as) (h1 : X'.K = X.K) (h2 : X'.prog = X.prog) (h3 : X'.w = X.w) : SR X' B F H σ ρ μ as where
  b1 := R.b1
  fh := R.fh
  kp := R.kp
  kn := R.kn
  nm := R.nm
  sl := by rw [h1]; exact R.sl
  sz := R.sz
  mu := by rw [h1, h2, h3]; exact R.mu
  ln := R.ln
  nd := R.nd
  al := R.al
  fr := R.fr
  ww := R.ww

/-! ### targets -/
/-- σ' is σ but at the places is -/
structure At (is : List Nat) (σ σ' : L2.St) : Prop where
  len : σ'.length = σ.length
  out : ∀ j, j ∉ is → σ'[j]? = σ[j]?
theorem At.refl {is : List Nat} {σ : L2.St} : At is σ σ := ⟨rfl, fun _ _ => rfl⟩
theorem At.trans {is js : List Nat} {σ σ1 σ2 : L2.St} (a : At is σ σ1) (b : At js σ1 σ2) : At (is ++ js) σ σ2 :=
  ⟨b.len.trans a.len, fun j h => (b.out j fun z => h (List.mem_append_right _ z)).trans (a.out j fun z => h (List.mem_append_left _ z))⟩
theorem At.set {i : Nat} {σ : L2.St} {v : Option V} : At [i] σ (σ.set i v) := ⟨List.length_set, fun j h => List.getElem?_set_ne (fun e => h (by simp [e]))⟩
theorem wipe_get (σ : L2.St) : ∀ (vs : List Nat) (j : Nat), (wipe σ vs)[j]? = if j ∈ vs ∧ j < σ.length then some none else σ[j]?
  | [], j => by simp [wipe]
  | v :: vs, j => by
    show ((wipe σ vs).set v none)[j]? = _
    by_cases e : v = j
    · subst e
      by_cases hj : v < σ.length
      · rw [List.getElem?_set_self (by rw [wipe_length]; exact hj), if_pos ⟨by simp, hj⟩]
      · rw [if_neg (fun z => hj z.2), List.getElem?_eq_none (by simp [wipe_length]; omega), List.getElem?_eq_none (by omega)]
    · rw [List.getElem?_set_ne e, wipe_get σ vs j]
      have e2 : (j ∈ v :: vs) = (j ∈ vs) := by simp [Ne.symm e]
      simp only [e2]
theorem wipe_at {is vs : List Nat} {σ σ' : L2.St} (a : At is (wipe σ vs) σ') (h : ∀ i ∈ is, i ∈ vs) : wipe σ' vs = wipe σ vs := by
  apply List.ext_getElem?
  intro j
  have hl : σ'.length = σ.length := a.len.trans (wipe_length _ _)
  rw [wipe_get, wipe_get, hl]
  by_cases hj : j ∈ vs
  · by_cases h2 : j < σ.length
    · rw [if_pos ⟨hj, h2⟩, if_pos ⟨hj, h2⟩]
    · rw [if_neg fun z => h2 z.2, if_neg fun z => h2 z.2, List.getElem?_eq_none (by omega), List.getElem?_eq_none (by omega)]
  · rw [if_neg fun z => hj z.1, if_neg fun z => hj z.1, a.out j (fun z => hj (h j z)), wipe_get, if_neg fun z => hj z.1]
/-- storing data -/
structure GV (X : Cx) (tg : Expr) (is : List Nat) (ρ : List SV) (d : PyData) (ρ' : List SV) : Prop where
  run : ∀ B F H σ μ as v, SR X B F H σ ρ μ as → Dp X.K F v d → ∀ Q : L2.St → Hp → Prop, (∀ σ', SR X B F H σ' ρ' μ as → At is σ σ' → Q σ' H) → wpG X tg v σ H Q
section
variable {X : Cx} {e a b c tg : Expr} {es : List Expr} {ρ ρ1 ρ2 : List SV} {μ μ1 μ2 μ3 μ' : List MO} {d d1 d2 d3 : PyData} {ds xs ys : List PyData} {pos p p2 q : Pos} {x y : Str}
theorem gv_name (i : Nat) (nd : X.N.Nodup) (hi : X.N[i]? = some x := by kernel_rfl) (hx : locB X.fn X.env.scope x = true := by kernel_rfl) : GV X (.Name x pos) [i] ρ d (ρ.set i (.d d)) := .mk fun B F H σ μ as v R dv Q q =>
  wpG_of (pg_name nd hi (locB_loc hx) (locB_fn hx)) (q _ (R.store dv) At.set)
theorem gv_pair (i j : Nat) {k : Nat} {p3 : Pos} (nd : X.N.Nodup) (hi : X.N[i]? = some x := by kernel_rfl) (hj : X.N[j]? = some y := by kernel_rfl) (hx : locB X.fn X.env.scope x = true := by kernel_rfl) (hy : locB X.fn X.env.scope y = true := by kernel_rfl) (hc : X.calm = true := by kernel_rfl)
    (hs : (assignEach [.Name x p, .Name y p2] X.env).map (·.2) = assign (.Name x p) X.env :: (assignEach [.Name y p2] X.env).map (·.2) := by kernel_rfl) (hs2 : (assignEach [.Name y p2] X.env).map (·.2) = assign (.Name y p2) X.env :: (assignEach [] X.env).map (·.2) := by kernel_rfl)
    (hn : (assignEach [.Name x p, .Name y p2] X.env).length = 2 := by kernel_rfl) (hst : (assignEach [.Name x p, .Name y p2] X.env).findIdx? (·.1) = none := by kernel_rfl) : GV X (.Tuple [.Name x p, .Name y p2] k p3) [i, j] ρ (pairD d1 d2) ((ρ.set i (.d d1)).set j (.d d2)) := .mk fun B F H σ μ as v R dv Q q => by
  refine wpG_of (pg_tup hc (pgs_cons (pg_name nd hi (locB_loc hx) (locB_fn hx)) (pgs_cons (pg_name nd hj (locB_loc hy) (locB_fn hy)) pgs_nil hs2) hs) hn hst) ?_
  obtain ⟨r, vs, rfl, h1, h2⟩ := dv.tup_inv
  obtain ⟨v, w, rfl, h3, h4⟩ := dp_two h2
  exact ⟨r, _, rfl, sqt_mono R.fh h1, rfl, v, _, rfl, w, _, rfl, rfl, q _ ((R.store h3).store h4) (At.set.trans At.set)⟩

theorem gv_tri (i j l : Nat) {z : Str} {k : Nat} {p3 p4 : Pos} (nd : X.N.Nodup) (hi : X.N[i]? = some x := by kernel_rfl) (hj : X.N[j]? = some y := by kernel_rfl) (hl : X.N[l]? = some z := by kernel_rfl) (hx : locB X.fn X.env.scope x = true := by kernel_rfl) (hy : locB X.fn X.env.scope y = true := by kernel_rfl) (hz : locB X.fn X.env.scope z = true := by kernel_rfl) (hc : X.calm = true := by kernel_rfl)
    (hs : (assignEach [.Name x p, .Name y p2, .Name z p3] X.env).map (·.2) = assign (.Name x p) X.env :: (assignEach [.Name y p2, .Name z p3] X.env).map (·.2) := by kernel_rfl) (hs2 : (assignEach [.Name y p2, .Name z p3] X.env).map (·.2) = assign (.Name y p2) X.env :: (assignEach [.Name z p3] X.env).map (·.2) := by kernel_rfl) (hs3 : (assignEach [.Name z p3] X.env).map (·.2) = assign (.Name z p3) X.env :: (assignEach [] X.env).map (·.2) := by kernel_rfl)
    (hn : (assignEach [.Name x p, .Name y p2, .Name z p3] X.env).length = 3 := by kernel_rfl) (hst : (assignEach [.Name x p, .Name y p2, .Name z p3] X.env).findIdx? (·.1) = none := by kernel_rfl) : GV X (.Tuple [.Name x p, .Name y p2, .Name z p3] k p4) [i, j, l] ρ (.tuple [d1, d2, d3]) (((ρ.set i (.d d1)).set j (.d d2)).set l (.d d3)) := .mk fun B F H σ μ as v R dv Q q => by
  refine wpG_of (pg_tup hc (pgs_cons (pg_name nd hi (locB_loc hx) (locB_fn hx)) (pgs_cons (pg_name nd hj (locB_loc hy) (locB_fn hy)) (pgs_cons (pg_name nd hl (locB_loc hz) (locB_fn hz)) pgs_nil hs3) hs2) hs) hn hst) ?_
  obtain ⟨r, vs, rfl, h1, h2⟩ := dv.tup_inv
  cases h2 with
  | cons h5 h6 =>
    obtain ⟨v2, v3, rfl, h3, h4⟩ := dp_two h6
    exact ⟨r, _, rfl, sqt_mono R.fh h1, rfl, _, _, rfl, v2, _, rfl, v3, _, rfl, rfl, q _ (((R.store h5).store h3).store h4) ((At.set.trans At.set).trans At.set)⟩

/-! ### list comprehensions -/
/-- the slots of a block's own names forgotten -/
def wipeR (ρ : List SV) : List Nat → List SV
  | [] => ρ
  | v :: vs => (wipeR ρ vs).set v .u
theorem SR.wiped {B : Bs} {F H : Hp} {σ : L2.St} {as : List Addr} (R : SR X B F H σ ρ μ as) : ∀ vs : List Nat, SR X B F H (wipe σ vs) (wipeR ρ vs) μ as
  | [] => R
  | v :: vs =>
    let R' := SR.wiped R vs
    { R' with
      sl := fun j sv q => by
        by_cases e : v = j
        · subst e
          by_cases hi : v < (wipeR ρ vs).length
          · have q' : some SV.u = some sv := (List.getElem?_set_self hi).symm.trans q
            cases q'
            trivial
          · have q' : none = some sv := (List.getElem?_eq_none (by show ((wipeR ρ vs).set v .u).length ≤ v; rw [List.length_set]; omega)).symm.trans q
            cases q'
        · have q' : (wipeR ρ vs)[j]? = some sv := (List.getElem?_set_ne e).symm.trans q
          have e2 : (wipe σ (v :: vs))[j]? = (wipe σ vs)[j]? := List.getElem?_set_ne e
          rw [e2]
          exact R'.sl j sv q'
      sz := by
        show ((wipeR ρ vs).set v .u).length = ((wipe σ vs).set v none).length
        rw [List.length_set, List.length_set]
        exact R'.sz }
/-- back from a block: what the slots outside hold stays known -/
theorem SR.back {B : Bs} {F H F' H' : Hp} {σ : L2.St} {as : List Addr} (R : SR X B F H σ ρ μ as) {σ' : L2.St} {ρ' : List SV} (R' : SR X B F' H' σ' ρ' μ' as) (e : Same F F') : SR X B F' H' σ ρ μ' as :=
  { R' with
    sl := fun i sv z => (R.sl i sv z).up e
    sz := R.sz }
/-- a test list -/
def wpTs (X : Cx) (ifs : List Expr) : TT := fun σ H Q => ∀ pins s, Inv X pins σ H s → wpAny (model X.prog X.w) X.A (forIn ifs true fun c r => if r = true then do let ok ← isTrue c X.env (eval c X.env); pure (ForInStep.yield ok) else pure (ForInStep.yield r)) (TP X pins σ Q) X.xe s
theorem ptsW {ifs : List Expr} : PTs X ifs (wpTs X ifs) := ⟨fun pins s σ H Q I h => h pins s I⟩
structure TsV (X : Cx) (ifs : List Expr) (ρ : List SV) (μ : List MO) (b : Bool) : Prop where
  run : ∀ B F H σ as, SR X B F H σ ρ μ as → ∀ Q : Bool → Hp → Prop, (∀ F' H', SR X B F' H' σ ρ μ as → Gr as F H F' H' → Q b H') → wpTs X ifs σ H Q
theorem ts_nil : TsV X [] ρ μ true := .mk fun B F H σ as R Q q pins s I => pts_nil.run pins s σ H Q I (q F H R Gr.refl)
theorem ts_one {k : Bool} (h : TV X c ρ μ k μ) : TsV X [c] ρ μ k := .mk fun B F H σ as R Q q pins s I => (pts_one (ptW (X := X) (e := c))).run pins s σ H Q I (h.run B F H σ as R Q q)
/-- the contexts of a block -/
abbrev Blk (X : Cx) (scope : Scope) (s : Shared) (H : Hp) (C : Addr) (cl : List (Str × Addr)) (fp : List Addr) : Cx := X.blk s H scope (compEnvC scope cl C X.env) fp
/-- what a comprehension makes of the items, one by one -/
inductive LcR (X : Cx) (scope : Scope) (tg elt : Expr) (ifs : List Expr) (own : List Nat) (ρ : List SV) : List PyData → List MO → List PyData → List MO → Prop
  | nil {μ : List MO} : LcR X scope tg elt ifs own ρ [] μ [] μ
  | keep {x r : PyData} {xs rs : List PyData} {is : List Nat} {ρ1 : List SV} {μ μ1 μ2 : List MO} (hi : ∀ i ∈ is, i ∈ own)
      (hg : ∀ s H C cl fp, GV (Blk X scope s H C cl fp) tg is (wipeR ρ own) x ρ1) (ht : ∀ s H C cl fp, TsV (Blk X scope s H C cl fp) ifs ρ1 μ true)
      (he : ∀ s H C cl fp, EV (Blk X scope s H C cl fp) elt ρ1 μ r μ1) (h : LcR X scope tg elt ifs own ρ xs μ1 rs μ2) : LcR X scope tg elt ifs own ρ (x :: xs) μ (r :: rs) μ2
  | drop {x : PyData} {xs rs : List PyData} {is : List Nat} {ρ1 : List SV} {μ μ2 : List MO} (hi : ∀ i ∈ is, i ∈ own)
      (hg : ∀ s H C cl fp, GV (Blk X scope s H C cl fp) tg is (wipeR ρ own) x ρ1) (ht : ∀ s H C cl fp, TsV (Blk X scope s H C cl fp) ifs ρ1 μ false)
      (h : LcR X scope tg elt ifs own ρ xs μ rs μ2) : LcR X scope tg elt ifs own ρ (x :: xs) μ rs μ2
theorem LcR.le {scope : Scope} {tg elt : Expr} {ifs : List Expr} {own : List Nat} {rs : List PyData} (h : LcR X scope tg elt ifs own ρ xs μ rs μ') : rs.length ≤ xs.length := by
  induction h with
  | nil => exact Nat.le_refl _
  | keep _ _ _ _ _ ih => rw [List.length_cons, List.length_cons]; omega
  | drop _ _ _ _ ih => rw [List.length_cons]; omega
/-- the tests' and the target's readings in every block -/
def bwG (X : Cx) (scope : Scope) (tg : Expr) : TG := fun v σ H Q => ∀ s H0 C cl fp, wpG (Blk X scope s H0 C cl fp) tg v σ H Q
def bwT (X : Cx) (scope : Scope) (ifs : List Expr) : TT := fun σ H Q => ∀ s H0 C cl fp, wpTs (Blk X scope s H0 C cl fp) ifs σ H Q
def bwE (X : Cx) (scope : Scope) (elt : Expr) : TE := fun σ H Q => ∀ s H0 C cl fp, wpE (Blk X scope s H0 C cl fp) elt σ H Q
/-- an object that is nobody's changes -/
theorem SR.loose {B : Bs} {F H : Hp} {σ : L2.St} {as : List Addr} (R : SR X B F H σ ρ μ as) {D : Addr} {o : HO} (hF : F D = none) (hB : B.H D = none) (hA : D ∉ as) : SR X B F (upd H D o) σ ρ μ as where
  b1 := R.b1
  fh := fun b u q => by
    rw [upd_ne (ne_of_none q hF)]
    exact R.fh b u q
  kp := fun b u q n => by
    rw [upd_ne (ne_of_none q hB)]
    exact R.kp b u q n
  kn := fun b h => by
    by_cases e : b = D
    · subst e; rw [upd_same]; simp
    · rw [upd_ne e]; exact R.kn b h
  nm := R.nm
  sl := R.sl
  sz := R.sz
  mu := fun k m q => by
    obtain ⟨a, q1, q2⟩ := R.mu k m q
    have hne : a ≠ D := fun e => hA (by rw [← e]; exact List.mem_of_getElem? q1)
    refine ⟨a, q1, ?_⟩
    cases m with
    | l xs => obtain ⟨z1, vs, z2, z3⟩ := q2; exact ⟨z1, vs, by rw [upd_ne hne]; exact z2, z3⟩
    | m kvs => obtain ⟨z1, es, z2, z3⟩ := q2; exact ⟨z1, es, by rw [upd_ne hne]; exact z2, z3⟩
    | dead => trivial
  ln := R.ln
  nd := R.nd
  al := fun b h => by
    by_cases e : b = D
    · subst e; rw [upd_same]; simp
    · rw [upd_ne e]; exact R.al b h
  fr := R.fr
  ww := R.ww
theorem Gr.loose {as : List Addr} {F H F' H' : Hp} {D : Addr} {o : HO} (g : Gr (D :: as) F H F' H') : Gr (D :: as) F H F' (upd H' D o) where
  ff := g.ff
  hk := fun p u n h => by
    have e : p ≠ D := fun e => n (by simp [e])
    rw [upd_ne e]
    exact g.hk p u n h
  hn := fun p h => by
    by_cases e : p = D
    · subst e; rw [upd_same]; simp
    · rw [upd_ne e]; exact g.hn p h
  nm := g.nm
theorem Gr.more {as : List Addr} {F H F' H' : Hp} {D : Addr} (g : Gr as F H F' H') : Gr (D :: as) F H F' H' := ⟨g.ff, fun p o n h => g.hk p o (fun z => n (List.mem_cons_of_mem _ z)) h, g.hn, g.nm⟩
theorem lc_reads {own : List (Str × Nat)} {elt iter : Expr} {ifs : List Expr} {scope : Scope} {rs : List PyData} (nd : X.N.Nodup) (hi : IV X tg iter ρ μ ds μ1) (ok : BlkOk X.N X.env.scope scope own) (hL : LcR X scope tg elt ifs (own.map (·.2)) ρ ds μ1 rs μ2) (hz : rs.length ≤ 1000000)
    (hc : X.calm = true) (hs : ∀ x, foldedSetIterable iter X.env x = pure x) {B : Bs} {F H : Hp} {σ : L2.St} {as : List Addr} (R : SR X B F H σ ρ μ as) (Q : VK) (q : ∀ p vs F' H', SR X B F' H' σ ρ μ2 as → Gr as F H F' H' → H p = none → F' p = none → H' p = some (.lst vs) → DpAll X.K F' vs rs → Q (.ref p) H') :
    tLc (wpI X tg iter) (bwG X scope tg) (bwT X scope ifs) (bwE X scope elt) (own.map (·.2)) σ H Q := by
  refine hi.run B F H σ as R _ fun J F1 H1 R1 g1 wd D hD => ?_
  obtain ⟨Y, w, yv⟩ := wd
  have hA : D ∉ as := R1.freeA hD
  have hB : B.H D = none := R1.freeB hD
  have hF1 : F1 D = none := R1.freeF hD
  have hH : H D = none := by
    cases u : H D with
    | none => rfl
    | some u' => exact absurd hD (g1.hn D (by rw [u]; simp))
  have sz : ∀ n, n ≤ rs.length → n ≤ sizeLine := fun n hn => by rw [sizeLine_eq]; omega
  refine lc_it w (fun i H' => ∃ F' acc dn rest μi, SR X B F' H' σ ρ μi as ∧ Gr (D :: as) F1 (upd H1 D (.lst [])) F' H' ∧ F' D = none ∧ H' D = some (.lst acc) ∧ DpAll X.K F' acc dn ∧ LcR X scope tg elt ifs (own.map (·.2)) ρ (ds.drop i) μi rest μ2 ∧ dn ++ rest = rs) ?_ ?_ ?_ ?_
  · exact ⟨F1, [], [], rs, μ1, R1.up (same_new hD), Gr.refl, hF1, upd_same, .nil, by simpa using hL, rfl⟩
  · intro i H' _ h
    obtain ⟨F', acc, dn, rest, μi, S, g, _⟩ := h
    exact g.ff.trans S.fh
  · intro i x H' H'' hi' h y
    obtain ⟨F', acc, dn, rest, μi, S, g, hFD, hHD, dd, hl, ee⟩ := h
    obtain ⟨F2, d, n2, hd, dv⟩ := yv i H' x H'' F' hi' g.ff S.fh y
    have S2 := S.new n2
    have g2 : Gr as F' H' F2 H'' := n2.gr S.fh
    have hHD2 : H'' D = some (.lst acc) := g2.hk D _ hA hHD
    have hFD2 : F2 D = none := g2.nm D (by rw [hHD]; simp) hFD
    have ed : ds.drop i = d :: ds.drop (i + 1) := by
      obtain ⟨z1, z2⟩ := List.getElem?_eq_some_iff.mp hd
      rw [← z2]
      exact List.drop_eq_getElem_cons z1
    rw [ed] at hl
    cases hl with
    | keep hi hg ht he hl' =>
      intro s H0 C cl fp
      refine (hg s H0 C cl fp).run B F2 H'' _ μi as x ((S2.wiped _).cx rfl rfl rfl) dv _ fun σ2 S3 a3 => ⟨wipe_at a3 hi, fun s H0 C cl fp => (ht s H0 C cl fp).run B F2 H'' σ2 as (S3.cx rfl rfl rfl) _ fun F4 H4 S4 g4 => iteT fun s H0 C cl fp => (he s H0 C cl fp).run B F4 H4 σ2 as (S4.cx rfl rfl rfl) _ fun v F5 H5 S5 g5 dv5 => ?_⟩
      have g6 : Gr as F' H' F5 H5 := g2.trans (g4.trans g5)
      have hHD5 : H5 D = some (.lst acc) := g6.hk D _ hA hHD
      have hFD5 : F5 D = none := g6.nm D (by rw [hHD]; simp) hFD
      have S6 : SR X B F5 H5 σ ρ _ as := S.back (S5.cx (X' := X) rfl rfl rfl) g6.ff
      have hlen : acc.length + 1 ≤ rs.length := by
        rw [← ee, List.length_append, ← dd.len, List.length_cons]
        omega
      refine ⟨acc, hHD5, by have := sz _ hlen; omega, F5, acc ++ [v], _, _, _, S6.loose hFD5 hB hA, (g.trans g6.more).loose, hFD5, upd_same, (dd.up g6.ff).app (.cons dv5 .nil), hl', by rw [← ee, List.append_assoc]; rfl⟩
    | drop hi hg ht hl' =>
      intro s H0 C cl fp
      refine (hg s H0 C cl fp).run B F2 H'' _ μi as x ((S2.wiped _).cx rfl rfl rfl) dv _ fun σ2 S3 a3 => ⟨wipe_at a3 hi, fun s H0 C cl fp => (ht s H0 C cl fp).run B F2 H'' σ2 as (S3.cx rfl rfl rfl) _ fun F4 H4 S4 g4 => iteF ?_⟩
      have g6 : Gr as F' H' F4 H4 := g2.trans g4
      have hHD5 : H4 D = some (.lst acc) := g6.hk D _ hA hHD
      have hFD5 : F4 D = none := g6.nm D (by rw [hHD]; simp) hFD
      exact ⟨F4, acc, _, _, _, S.back (S4.cx (X' := X) rfl rfl rfl) g6.ff, g.trans g6.more, hFD5, hHD5, dd.up g6.ff, hl', ee⟩
  · intro H' h
    obtain ⟨F', acc, dn, rest, μi, S, g, hFD, hHD, dd, hl, ee⟩ := h
    have ed : ds.drop ds.length = [] := List.drop_eq_nil_of_le (Nat.le_refl _)
    rw [ed] at hl
    cases hl
    rw [List.append_nil] at ee
    subst ee
    refine q D acc F' H' S ⟨g1.ff.trans g.ff, fun p o n h => ?_, fun p h => ?_, fun p h n => ?_⟩ hH hFD hHD dd
    · have e : p ≠ D := ne_of_none h hH
      exact g.hk p o (fun z => by rcases List.mem_cons.mp z with z | z; exact e z; exact n z) (by rw [upd_ne e]; exact g1.hk p o n h)
    · refine g.hn p ?_
      by_cases e : p = D
      · subst e; rw [upd_same]; simp
      · rw [upd_ne e]; exact g1.hn p h
    · have e : p ≠ D := fun e => h (by rw [e]; exact hH)
      exact g.nm p (by rw [upd_ne e]; exact g1.hn p h) (g1.nm p h n)
theorem ef_lc {own : List (Str × Nat)} {elt iter : Expr} {ifs : List Expr} {scope : Scope} {rs : List PyData} (nd : X.N.Nodup) (hi : IV X tg iter ρ μ ds μ1) (ok : BlkOk X.N X.env.scope scope own) (hL : LcR X scope tg elt ifs (own.map (·.2)) ρ ds μ1 rs μ2) (hz : rs.length ≤ 1000000)
    (hc : X.calm = true := by kernel_rfl) (hs : ∀ x, foldedSetIterable iter X.env x = pure x := by intro _; rfl) : EF X (.ListComp elt [⟨tg, iter, ifs, 0⟩] scope pos) ρ μ rs μ2 := by
  refine .mk fun B F H σ as R Q q => ?_
  exact wpE_of (pe_lc (g := bwG X scope tg) (tt := bwT X scope ifs) (te := bwE X scope elt) hc nd (piW (tg := tg) (e := iter)) ok (fun s H C cl fp => ⟨fun pins s' σ H' v u Q I r h => h s H C cl fp pins s' u I r⟩) (fun s H C cl fp => ⟨fun pins s' σ H' Q I h => h s H C cl fp pins s' I⟩) (fun s H C cl fp => ⟨fun pins s' σ H' Q I h => h s H C cl fp pins s' I⟩) hs) (lc_reads nd hi ok hL hz hc hs R Q q)
/-- elements over typed items, the state as it is -/
theorem lc_map {α : Type} {own : List Nat} {elt : Expr} {ifs : List Expr} {scope : Scope} {is : List Nat} (enc : α → PyData) (keep : α → Bool) (f : α → PyData) (ρ1 : α → List SV) (hi : ∀ i ∈ is, i ∈ own) : ∀ zs : List α,
    (hg : ∀ z ∈ zs, ∀ s H C cl fp, GV (Blk X scope s H C cl fp) tg is (wipeR ρ own) (enc z) (ρ1 z)) → (ht : ∀ z ∈ zs, ∀ s H C cl fp, TsV (Blk X scope s H C cl fp) ifs (ρ1 z) μ (keep z)) →
    (he : ∀ z ∈ zs, keep z = true → ∀ s H C cl fp, EV (Blk X scope s H C cl fp) elt (ρ1 z) μ (f z) μ) → LcR X scope tg elt ifs own ρ (zs.map enc) μ ((zs.filter keep).map f) μ
  | [], _, _, _ => .nil
  | z :: zs, hg, ht, he => by
    have ih := lc_map enc keep f ρ1 hi zs (fun z h => hg z (List.mem_cons_of_mem _ h)) (fun z h => ht z (List.mem_cons_of_mem _ h)) (fun z h => he z (List.mem_cons_of_mem _ h))
    cases k : keep z with
    | true =>
      rw [List.filter_cons_of_pos k]
      exact .keep hi (hg z List.mem_cons_self) (by have h := ht z List.mem_cons_self; rw [k] at h; exact h) (he z List.mem_cons_self k) ih
    | false =>
      rw [List.filter_cons_of_neg (by rw [k]; exact Bool.false_ne_true)]
      exact .drop hi (hg z List.mem_cons_self) (by have h := ht z List.mem_cons_self; rw [k] at h; exact h) ih
end
end DW

/-! Dw8: statements over data. -/
namespace DW
open PySem PySem.Spec PyProof.Rows L2

/-- how a block ends: on it goes; data is returned; a new list is returned -/
inductive Rs where
  | nx (ρ : List SV) (μ : List MO)
  | rt (d : PyData) (μ : List MO)
  | rf (xs : List PyData)
def EndR (X : Cx) (B : Bs) (as : List Addr) (D : Ends) : Rs → Prop
  | .nx ρ' μ' => ∀ F' H' σ' as', SR X B F' H' σ' ρ' μ' as' → as <+: as' → D.nx σ' H'
  | .rt d μ' => ∀ v F' H' σ' ρ' as', SR X B F' H' σ' ρ' μ' as' → as <+: as' → Dp X.K F' v d → D.rt v H'
  | .rf xs => ∀ p vs F' H' σ' ρ' μ' as', SR X B F' H' σ' ρ' μ' as' → as <+: as' → B.H p = none → F' p = none → H' p = some (.lst vs) → DpAll X.K F' vs xs → D.rt (.ref p) H'
/-- u: how many of the own objects are the caller's -/
structure SJ (X : Cx) (u : Nat) (st : Stmt) (ρ : List SV) (μ : List MO) (r : Rs) : Prop where
  run : ∀ B F H σ as, SR X B F H σ ρ μ as → (∀ a ∈ B.W, ∃ i, i < u ∧ as[i]? = some a) → ∀ D : Ends, EndR X B as D r → wpS X st D σ H
structure BJ (X : Cx) (u : Nat) (sts : List Stmt) (ρ : List SV) (μ : List MO) (r : Rs) : Prop where
  run : ∀ B F H σ as, SR X B F H σ ρ μ as → (∀ a ∈ B.W, ∃ i, i < u ∧ as[i]? = some a) → ∀ D : Ends, EndR X B as D r → wpB X sts D σ H
theorem own_pre {W : List Addr} {u : Nat} {as as' : List Addr} (h : ∀ a ∈ W, ∃ i, i < u ∧ as[i]? = some a) (p : as <+: as') : ∀ a ∈ W, ∃ i, i < u ∧ as'[i]? = some a := fun a ha => by
  obtain ⟨i, h1, h2⟩ := h a ha
  obtain ⟨t, rfl⟩ := p
  exact ⟨i, h1, by rw [List.getElem?_append_left (List.getElem?_eq_some_iff.mp h2).1]; exact h2⟩
theorem EndR.pre {X : Cx} {B : Bs} {as as' : List Addr} {D : Ends} {r : Rs} (h : EndR X B as D r) (p : as <+: as') : EndR X B as' D r := by
  cases r with
  | nx ρ' μ' => exact fun F' H' σ' as2 R q => h F' H' σ' as2 R (p.trans q)
  | rt d μ' => exact fun v F' H' σ' ρ' as2 R q => h v F' H' σ' ρ' as2 R (p.trans q)
  | rf xs => exact fun p' vs F' H' σ' ρ' μ' as2 R q => h p' vs F' H' σ' ρ' μ' as2 R (p.trans q)
section
variable {X : Cx} {u : Nat} {e a b c tg : Expr} {es : List Expr} {st : Stmt} {sts body orelse : List Stmt} {ρ ρ1 ρ2 ρ3 ρ' : List SV} {μ μ1 μ2 μ3 μ' : List MO} {d d1 d2 d3 : PyData} {ds xs ys : List PyData} {pos p p2 p3 q : Pos} {x y z : Str} {r : Rs} {k : Nat}
theorem bj_nil : BJ X u [] ρ μ (.nx ρ μ) := .mk fun B F H σ as R hW D q => wpB_of pss_nil (q F H σ as R (List.prefix_refl _))
theorem bj_cons (h : SJ X u st ρ μ (.nx ρ1 μ1)) (h2 : BJ X u sts ρ1 μ1 r) : BJ X u (st :: sts) ρ μ r := .mk fun B F H σ as R hW D q =>
  wpB_of (pss_cons (psW (st := st)) (pbW (sts := sts))) (h.run B F H σ as R hW _ fun F1 H1 σ1 as1 R1 p1 => h2.run B F1 H1 σ1 as1 R1 (own_pre hW p1) D (q.pre p1))
theorem bj_one (h : SJ X u st ρ μ r) : BJ X u [st] ρ μ r := .mk fun B F H σ as R hW D q => wpB_of (pss_one (psW (st := st))) (h.run B F H σ as R hW D q)
/-- a statement that returns: the rest is not reached -/
theorem bj_stop (h : SJ X u st ρ μ (.rt d μ')) : BJ X u (st :: sts) ρ μ (.rt d μ') := .mk fun B F H σ as R hW D q =>
  wpB_of (pss_cons (psW (st := st)) (pbW (sts := sts))) (h.run B F H σ as R hW _ q)
theorem bj_weak (w : Wk ρ ρ') (h : BJ X u sts ρ' μ r) : BJ X u sts ρ μ r := .mk fun B F H σ as R hW D q => h.run B F H σ as (R.weak w) hW D q
theorem bj_eq (e : ρ = ρ') (h : BJ X u sts ρ' μ r) : BJ X u sts ρ μ r := e ▸ h
/-- an own list is given to the data -/
theorem bj_freeze (k : Nat) (hk : u ≤ k) (hm : μ[k]? = some (.l xs)) (h : BJ X u sts (ρ.map (frz k xs)) (μ.set k .dead) r) : BJ X u sts ρ μ r := .mk fun B F H σ as R hW D q => by
  obtain ⟨a, e1, h1, vs, h2, h3⟩ := R.mu k _ hm
  have hnW : a ∉ B.W := fun z => by
    obtain ⟨i, h4, h5⟩ := hW a z
    have e : i = k := nd_ix R.nd h5 e1
    omega
  have hB : B.H a = none := by
    rcases R.fr a (List.mem_of_getElem? e1) with z | z
    · exact absurd z hnW
    · exact z
  obtain ⟨o, k1, k2, k3, k4⟩ := R.freeze e1 hm hB
  exact h.run B _ H σ as k4 hW D q
theorem sj_eq {r' : Rs} (h : SJ X u st ρ μ r) (e : r = r') : SJ X u st ρ μ r' := e ▸ h
theorem bj_req {r' : Rs} (h : BJ X u sts ρ μ r) (e : r = r') : BJ X u sts ρ μ r' := e ▸ h

/-! ### return -/
theorem sj_ret (h : EV X e ρ μ d μ') : SJ X u (.Return (some e) pos) ρ μ (.rt d μ') := .mk fun B F H σ as R hW D q =>
  wpS_of (ps_ret (peW (e := e))) (h.run B F H σ as R _ fun v F1 H1 R1 g1 e1 => q v F1 H1 σ ρ as R1 (List.prefix_refl _) e1)
theorem sj_retF (h : EF X e ρ μ xs μ') : SJ X u (.Return (some e) pos) ρ μ (.rf xs) := .mk fun B F H σ as R hW D q =>
  wpS_of (ps_ret (peW (e := e))) (h.run B F H σ as R _ fun p vs F1 H1 R1 g1 k1 k2 k3 k4 => q p vs F1 H1 σ ρ μ' as R1 (List.prefix_refl _) (R.freeB k1) k2 k3 k4)

/-! ### x = e -/
theorem sj_set (i : Nat) (nd : X.N.Nodup) (h : EV X e ρ μ d μ') (hi : X.N[i]? = some x := by kernel_rfl) (hx : locB X.fn X.env.scope x = true := by kernel_rfl) (hs : swapsWith e (some (.Name x p)) pos.line X.env = pure false := by kernel_rfl) :
    SJ X u (.Assign [.Name x p] e pos) ρ μ (.nx (ρ.set i (.d d)) μ') := .mk fun B F H σ as R hW D q =>
  wpS_of (ps_set nd hi (locB_loc hx) (peW (e := e)) hs (locB_fn hx)) (h.run B F H σ as R _ fun v F1 H1 R1 g1 e1 => q F1 H1 _ as (R1.store e1) (List.prefix_refl _))
theorem SR.ownl {B : Bs} {F H F1 H1 : Hp} {σ : L2.St} {as : List Addr} {i : Nat} {p : Addr} {vs : List V} (R : SR X B F H σ ρ μ as) (R1 : SR X B F1 H1 σ ρ μ' as) (k1 : H p = none) (k2 : F1 p = none) (k3 : H1 p = some (.lst vs)) (k4 : DpAll X.K F1 vs xs) :
    SR X B F1 H1 (σ.set i (some (.ref p))) (ρ.set i (.h μ'.length)) (μ' ++ [.l xs]) (as ++ [p]) :=
  R1.own (by rw [k3]; simp) (R.freeB k1) (R.freeA k1) ⟨k2, vs, k3, k4⟩
theorem sj_own (i : Nat) (nd : X.N.Nodup) (h : EF X e ρ μ xs μ') (hi : X.N[i]? = some x := by kernel_rfl) (hx : locB X.fn X.env.scope x = true := by kernel_rfl) (hs : swapsWith e (some (.Name x p)) pos.line X.env = pure false := by kernel_rfl) :
    SJ X u (.Assign [.Name x p] e pos) ρ μ (.nx (ρ.set i (.h μ'.length)) (μ' ++ [.l xs])) := .mk fun B F H σ as R hW D q =>
  wpS_of (ps_set nd hi (locB_loc hx) (peW (e := e)) hs (locB_fn hx)) (h.run B F H σ as R _ fun p vs F1 H1 R1 g1 k1 k2 k3 k4 => q F1 H1 _ _ (SR.ownl R R1 k1 k2 k3 k4) (List.prefix_append _ _))
/-- a list comprehension is stored: into the data, or as an own list -/
theorem sj_lcw {own : List (Str × Nat)} {elt iter : Expr} {ifs : List Expr} {scope : Scope} {rs : List PyData} {i : Nat} (nd : X.N.Nodup) (hi : IV X tg iter ρ μ ds μ1) (ok : BlkOk X.N X.env.scope scope own) (hL : LcR X scope tg elt ifs (own.map (·.2)) ρ ds μ1 rs μ2) (hz : rs.length ≤ 1000000)
    (hy : X.N[i]? = some y) (hyl : X.env.scope.names.lookup y = some .local) (hsw : swapsWith (.ListComp elt [⟨tg, iter, ifs, 0⟩] scope pos) (some (.Name y p)) p2.line X.env = pure true) (hc : X.calm = true) (hs : ∀ x, foldedSetIterable iter X.env x = pure x)
    {B : Bs} {F H : Hp} {σ : L2.St} {as : List Addr} (R : SR X B F H σ ρ μ as) (D : Ends) (q : ∀ p vs F' H', SR X B F' H' σ ρ μ2 as → Gr as F H F' H' → H p = none → F' p = none → H' p = some (.lst vs) → DpAll X.K F' vs rs → D.nx (σ.set i (some (.ref p))) H') :
    wpS X (.Assign [.Name y p] (.ListComp elt [⟨tg, iter, ifs, 0⟩] scope pos) p2) D σ H := by
  have hE := ef_lc (pos := pos) nd hi ok hL hz hc hs
  refine wpS_of (ps_setLc (g := bwG X scope tg) (tt := bwT X scope ifs) (te := bwE X scope elt) hc nd hy hyl hsw (piW (tg := tg) (e := iter)) ok (fun s H C cl fp => ⟨fun pins s' σ H' v u Q I r h => h s H C cl fp pins s' u I r⟩) (fun s H C cl fp => ⟨fun pins s' σ H' Q I h => h s H C cl fp pins s' I⟩) (fun s H C cl fp => ⟨fun pins s' σ H' Q I h => h s H C cl fp pins s' I⟩) hs) ?_
  exact lc_reads nd hi ok hL hz hc hs R _ fun p vs F1 H1 R1 g1 k1 k2 k3 k4 => q p vs F1 H1 R1 g1 k1 k2 k3 k4
theorem sj_setLc (i : Nat) {own : List (Str × Nat)} {elt iter : Expr} {ifs : List Expr} {scope : Scope} {rs : List PyData} (nd : X.N.Nodup) (hi : IV X tg iter ρ μ ds μ1) (ok : BlkOk X.N X.env.scope scope own) (hL : LcR X scope tg elt ifs (own.map (·.2)) ρ ds μ1 rs μ2) (hz : rs.length ≤ 1000000)
    (hsw : swapsWith (.ListComp elt [⟨tg, iter, ifs, 0⟩] scope pos) (some (.Name y p)) p2.line X.env = pure true := by exact sw_true (by kernel_rfl) (by kernel_rfl) (by kernel_rfl) (by kernel_rfl)) (hy : X.N[i]? = some y := by kernel_rfl) (hyl : X.env.scope.names.lookup y = some .local := by kernel_rfl) (hc : X.calm = true := by kernel_rfl) (hs : ∀ x, foldedSetIterable iter X.env x = pure x := by intro _; rfl) :
    SJ X u (.Assign [.Name y p] (.ListComp elt [⟨tg, iter, ifs, 0⟩] scope pos) p2) ρ μ (.nx (ρ.set i (.d (.list rs))) μ2) := .mk fun B F H σ as R hW D q =>
  sj_lcw nd hi ok hL hz hy hyl hsw hc hs R D fun p vs F1 H1 R1 g1 k1 k2 k3 k4 => q _ H1 _ as ((R1.take k3 k2 (R.freeB k1) (R.freeA k1)).store (.lst (.inl (.inl upd_same)) (k4.up (same_new k2)))) (List.prefix_refl _)

theorem sj_ownLc (i : Nat) {own : List (Str × Nat)} {elt iter : Expr} {ifs : List Expr} {scope : Scope} {rs : List PyData} (nd : X.N.Nodup) (hi : IV X tg iter ρ μ ds μ1) (ok : BlkOk X.N X.env.scope scope own) (hL : LcR X scope tg elt ifs (own.map (·.2)) ρ ds μ1 rs μ2) (hz : rs.length ≤ 1000000)
    (hsw : swapsWith (.ListComp elt [⟨tg, iter, ifs, 0⟩] scope pos) (some (.Name y p)) p2.line X.env = pure true := by exact sw_true (by kernel_rfl) (by kernel_rfl) (by kernel_rfl) (by kernel_rfl)) (hy : X.N[i]? = some y := by kernel_rfl) (hyl : X.env.scope.names.lookup y = some .local := by kernel_rfl) (hc : X.calm = true := by kernel_rfl) (hs : ∀ x, foldedSetIterable iter X.env x = pure x := by intro _; rfl) :
    SJ X u (.Assign [.Name y p] (.ListComp elt [⟨tg, iter, ifs, 0⟩] scope pos) p2) ρ μ (.nx (ρ.set i (.h μ2.length)) (μ2 ++ [.l rs])) := .mk fun B F H σ as R hW D q =>
  sj_lcw nd hi ok hL hz hy hyl hsw hc hs R D fun p vs F1 H1 R1 g1 k1 k2 k3 k4 => q F1 H1 _ _ (SR.ownl R R1 k1 k2 k3 k4) (List.prefix_append _ _)

/-! ### a, b = .. -/
theorem sj_par (i j : Nat) {px py pt : Pos} {kt k2 pt2} (nd : X.N.Nodup) (h : AV X [a, b] ρ μ [d1, d2] μ') (hij : i ≠ j := by decide) (hw : swappedStores [.Tuple [.Name x px, .Name y py] kt pt] (.Tuple [a, b] k2 pt2) X.env = pure (some [x, y]) := by kernel_rfl)
    (hi : X.N[i]? = some x := by kernel_rfl) (hj : X.N[j]? = some y := by kernel_rfl) (hx : X.env.scope.names.lookup x = some .local := by kernel_rfl) (hy : X.env.scope.names.lookup y = some .local := by kernel_rfl) (hc : X.calm = true := by kernel_rfl)
    (hs : swapsWithSole [.Tuple [.Name x px, .Name y py] kt pt] (.Tuple [a, b] k2 pt2) pos.line X.env = pure false := by kernel_rfl) :
    SJ X u (.Assign [.Tuple [.Name x px, .Name y py] kt pt] (.Tuple [a, b] k2 pt2) pos) ρ μ (.nx ((ρ.set i (.d d1)).set j (.d d2)) μ') := .mk fun B F H σ as R hW D q =>
  wpS_of (ps_par hc nd hi hj hij hx hy (paW (es := [a, b])) hw hs) (h.run B F H σ as R _ fun vs F1 H1 R1 g1 e1 => by
    obtain ⟨v, w, rfl, h3, h4⟩ := dp_two e1
    exact ⟨v, w, rfl, q F1 H1 _ as ((R1.store h3).store h4) (List.prefix_refl _)⟩)
/-- the second one a new list -/
theorem sj_parL (i j : Nat) {px py pt : Pos} {kt k2 pt2} (nd : X.N.Nodup) (h : EV X a ρ μ d1 μ1) (h' : EF X b ρ μ1 xs μ') (hij : i ≠ j := by decide) (hw : swappedStores [.Tuple [.Name x px, .Name y py] kt pt] (.Tuple [a, b] k2 pt2) X.env = pure (some [x, y]) := by kernel_rfl)
    (hi : X.N[i]? = some x := by kernel_rfl) (hj : X.N[j]? = some y := by kernel_rfl) (hx : X.env.scope.names.lookup x = some .local := by kernel_rfl) (hy : X.env.scope.names.lookup y = some .local := by kernel_rfl) (hc : X.calm = true := by kernel_rfl)
    (hs : swapsWithSole [.Tuple [.Name x px, .Name y py] kt pt] (.Tuple [a, b] k2 pt2) pos.line X.env = pure false := by kernel_rfl)
    (he : starEach [a, b] X.env = (false, eval a X.env) :: starEach [b] X.env := by kernel_rfl) (he2 : starEach [b] X.env = (false, eval b X.env) :: starEach [] X.env := by kernel_rfl) :
    SJ X u (.Assign [.Tuple [.Name x px, .Name y py] kt pt] (.Tuple [a, b] k2 pt2) pos) ρ μ (.nx ((ρ.set i (.d d1)).set j (.h μ'.length)) (μ' ++ [.l xs])) := .mk fun B F H σ as R hW D q =>
  wpS_of (ps_par hc nd hi hj hij hx hy (pa_cons (peW (e := a)) (pa_cons (peW (e := b)) pa_nil he2) he) hw hs) (h.run B F H σ as R _ fun v F1 H1 R1 g1 e1 => h'.run B F1 H1 σ as R1 _ fun p vs F2 H2 R2 g2 k1 k2 k3 k4 =>
    ⟨v, _, rfl, q F2 H2 _ _ (SR.ownl (R1.store e1) (R2.store (e1.up g2.ff)) k1 k2 k3 k4) (List.prefix_append _ _)⟩)
theorem sj_par3 (i j l : Nat) {px py pz pt : Pos} {kt k2 pt2} (nd : X.N.Nodup) (h : AV X [a, b, c] ρ μ [d1, d2, d3] μ') (hij : i ≠ j := by decide) (hil : i ≠ l := by decide) (hjl : j ≠ l := by decide) (hw : swappedStores [.Tuple [.Name x px, .Name y py, .Name z pz] kt pt] (.Tuple [a, b, c] k2 pt2) X.env = pure (some [x, y, z]) := by kernel_rfl)
    (hi : X.N[i]? = some x := by kernel_rfl) (hj : X.N[j]? = some y := by kernel_rfl) (hl : X.N[l]? = some z := by kernel_rfl) (hx : X.env.scope.names.lookup x = some .local := by kernel_rfl) (hy : X.env.scope.names.lookup y = some .local := by kernel_rfl) (hz : X.env.scope.names.lookup z = some .local := by kernel_rfl) (hc : X.calm = true := by kernel_rfl)
    (hs : swapsWithSole [.Tuple [.Name x px, .Name y py, .Name z pz] kt pt] (.Tuple [a, b, c] k2 pt2) pos.line X.env = pure false := by kernel_rfl) :
    SJ X u (.Assign [.Tuple [.Name x px, .Name y py, .Name z pz] kt pt] (.Tuple [a, b, c] k2 pt2) pos) ρ μ (.nx (((ρ.set i (.d d1)).set j (.d d2)).set l (.d d3)) μ') := .mk fun B F H σ as R hW D q =>
  wpS_of (ps_par3 hc nd hi hj hl hij hil hjl hx hy hz (paW (es := [a, b, c])) hw hs) (h.run B F H σ as R _ fun vs F1 H1 R1 g1 e1 => by
    cases e1 with
    | cons h1 h2 =>
      obtain ⟨v, w, rfl, h3, h4⟩ := dp_two h2
      exact ⟨_, v, w, rfl, q F1 H1 _ as (((R1.store h1).store h3).store h4) (List.prefix_refl _)⟩)

/-- the target of any form -/
theorem sj_asg {is : List Nat} (h : EV X e ρ μ d μ') (g : GV X tg is ρ d ρ') (hs : swapsWithSole [tg] e pos.line X.env = pure false := by kernel_rfl) (hw : swappedStores [tg] e X.env = pure none := by kernel_rfl) (h1 : (assignEach [tg] X.env).map (·.2) = [assign tg X.env] := by kernel_rfl) : SJ X u (.Assign [tg] e pos) ρ μ (.nx ρ' μ') := .mk fun B F H σ as R hW D q =>
  wpS_of (ps_asg (peW (e := e)) (pgW (e := tg)) hs hw h1) (h.run B F H σ as R _ fun v F1 H1 R1 g1 dv => g.run B F1 H1 σ μ' as v R1 dv _ fun σ2 R2 _ => q F1 H1 σ2 as R2 (List.prefix_refl _))

/-! ### own lists change -/
/-- xs[i] = e -/
theorem sj_ixset (i : Nat) {kk : Nat} {j : Int} {n : Nat} (he : EV X e ρ μ d μ1) (hρ : ρ[i]? = some (.h kk)) (hb : EV X b ρ μ1 (.int j) μ2) (hm : μ2[kk]? = some (.l xs)) (hj : ixN xs.length j = some n) (hN : X.N[i]? = some x := by kernel_rfl)
    (hv : visB X.env.scope x = true := by kernel_rfl)
    (ha : ∀ v, assign (.Subscript (.Name x p) b p2) X.env v = (do
      let ov ← holding [v] (eval (.Name x p) X.env)
      let iv ← holding [v, ov] (eval b X.env)
      standAt p2
      holding [v, ov, iv] (setItem ov iv v)
      release [v, ov, iv] []) := by intro _; rfl)
    (hs : swapsWithSole [.Subscript (.Name x p) b p2] e pos.line X.env = pure false := by kernel_rfl) (hw : swappedStores [.Subscript (.Name x p) b p2] e X.env = pure none := by kernel_rfl) (h1 : (assignEach [.Subscript (.Name x p) b p2] X.env).map (·.2) = [assign (.Subscript (.Name x p) b p2) X.env] := by kernel_rfl) :
    SJ X u (.Assign [.Subscript (.Name x p) b p2] e pos) ρ μ (.nx ρ (μ2.set kk (.l (xs.set n d)))) := .mk fun B F H σ as R hW D q => by
  obtain ⟨r, e1, e2⟩ := R.sl i _ hρ
  refine wpS_of (ps_asg (peW (e := e)) (pg_sub (pe_var hN (visB_vis hv) (visB_d hv) (visB_c hv)) (peW (e := b)) set_list ha) hs hw h1) (he.run B F H σ as R _ fun v F1 H1 R1 g1 dv => ⟨_, e2, hb.run B F1 H1 σ as R1 _ fun v2 F2 H2 R2 g2 d2 => ?_⟩)
  obtain ⟨a', e4, k1, vs, k2, k3⟩ := R2.mu kk _ hm
  rw [e1] at e4
  have e4' := Option.some.inj e4
  subst e4'
  refine ⟨r, vs, j, n, rfl, d2.int_inv, k2, by rw [k3.len]; exact hj, q F2 _ σ as (R2.change e1 k1 ⟨k1, _, upd_same, k3.set (dv.up g2.ff) n⟩) (List.prefix_refl _)⟩
/-- xs.append(e) -/
theorem sj_append (i : Nat) {kk : Nat} {apos cpos : Pos} (hρ : ρ[i]? = some (.h kk)) (he : EV X e ρ μ d μ1) (hm0 : μ[kk]? = some (.l ys)) (hm : μ1[kk]? = some (.l xs)) (hz : xs.length ≤ 1000000) (hN : X.N[i]? = some x := by kernel_rfl)
    (hv : visB X.env.scope x = true := by kernel_rfl)
    (hbase : attributeBase (.Name x p) "append" X.env (eval (.Name x p) X.env) = eval (.Name x p) X.env := by kernel_rfl)
    (hfew : ((backTo cpos (starEach [e] X.env)).all (fun x => !x.1) && (backToKw cpos (keywordEach [] X.env)).all (fun x => x.1.isSome) && decide ([e].length + ([] : List Keyword).length + (if ([] : List Keyword).isEmpty then 0 else 1) < 30)) = true := by kernel_rfl)
    (hline : (apos.endLine == cpos.line) = true := by kernel_rfl) (hst : starEach [e] X.env = (false, eval e X.env) :: starEach [] X.env := by kernel_rfl) (hs : swapsWith (.Call (.Attribute (.Name x p) "append" apos) [e] [] cpos) none pos.line X.env = pure false := by kernel_rfl) :
    SJ X u (.Expr (.Call (.Attribute (.Name x p) "append" apos) [e] [] cpos) pos) ρ μ (.nx ρ (μ1.set kk (.l (xs ++ [d])))) := .mk fun B F H σ as R hW D q => by
  obtain ⟨r, e1, e2⟩ := R.sl i _ hρ
  obtain ⟨a0, f1, f2, f3, f4, f5⟩ := R.mu kk _ hm0
  rw [e1] at f1
  have f1' := Option.some.inj f1
  subst f1'
  refine wpS_of (ps_expr (pe_bm PySem.F.plainAttrs_list PySem.F.slot_list_append PySem.F.type_list_append mt_append (pe_var hN (visB_vis hv) (visB_d hv) (visB_c hv)) (pa_cons (peW (e := e)) pa_nil hst) hbase hfew hline hst) hs) ⟨_, e2, .inl ⟨rfl, _, .inl (.inl f4)⟩, he.run B F H σ as R _ fun v F1 H1 R1 g1 dv => ?_⟩
  obtain ⟨a', e4, k1, vs, k2, k3⟩ := R1.mu kk _ hm
  rw [e1] at e4
  have e4' := Option.some.inj e4
  subst e4'
  exact ⟨r, vs, v, rfl, rfl, k2, by rw [k3.len, sizeLine_eq]; omega, q F1 _ σ as (R1.change e1 k1 ⟨k1, _, upd_same, k3.app (.cons dv .nil)⟩) (List.prefix_refl _)⟩
/-- xs.extend(a new list) -/
theorem sj_extend (i : Nat) {kk : Nat} {apos cpos : Pos} (hρ : ρ[i]? = some (.h kk)) (he : EF X e ρ μ ds μ1) (hm0 : μ[kk]? = some (.l ys)) (hm : μ1[kk]? = some (.l xs)) (hz : xs.length + ds.length ≤ 1000000) (hN : X.N[i]? = some x := by kernel_rfl)
    (hv : visB X.env.scope x = true := by kernel_rfl)
    (hbase : attributeBase (.Name x p) "extend" X.env (eval (.Name x p) X.env) = eval (.Name x p) X.env := by kernel_rfl)
    (hfew : ((backTo cpos (starEach [e] X.env)).all (fun x => !x.1) && (backToKw cpos (keywordEach [] X.env)).all (fun x => x.1.isSome) && decide ([e].length + ([] : List Keyword).length + (if ([] : List Keyword).isEmpty then 0 else 1) < 30)) = true := by kernel_rfl)
    (hline : (apos.endLine == cpos.line) = true := by kernel_rfl) (hst : starEach [e] X.env = (false, eval e X.env) :: starEach [] X.env := by kernel_rfl) (hs : swapsWith (.Call (.Attribute (.Name x p) "extend" apos) [e] [] cpos) none pos.line X.env = pure false := by kernel_rfl) :
    SJ X u (.Expr (.Call (.Attribute (.Name x p) "extend" apos) [e] [] cpos) pos) ρ μ (.nx ρ (μ1.set kk (.l (xs ++ ds)))) := .mk fun B F H σ as R hW D q => by
  obtain ⟨r, e1, e2⟩ := R.sl i _ hρ
  obtain ⟨a0, f1, f2, f3, f4, f5⟩ := R.mu kk _ hm0
  rw [e1] at f1
  have f1' := Option.some.inj f1
  subst f1'
  refine wpS_of (ps_expr (pe_bm PySem.F.plainAttrs_list PySem.F.slot_list_extend PySem.F.type_list_extend mt_extend (pe_var hN (visB_vis hv) (visB_d hv) (visB_c hv)) (pa_cons (peW (e := e)) pa_nil hst) hbase hfew hline hst) hs) ⟨_, e2, .inl ⟨rfl, _, .inl (.inl f4)⟩, he.run B F H σ as R _ fun v ws F1 H1 R1 g1 z1 z2 z3 z4 => ?_⟩
  obtain ⟨a', e4, k1, vs, k2, k3⟩ := R1.mu kk _ hm
  rw [e1] at e4
  have e4' := Option.some.inj e4
  subst e4'
  exact ⟨r, v, vs, ws, rfl, rfl, k2, z3, by rw [k3.len, z4.len, sizeLine_eq]; omega, q F1 _ σ as (R1.change e1 k1 ⟨k1, _, upd_same, k3.app z4⟩) (List.prefix_refl _)⟩
/-- x *= e -/
theorem iop_mulW : OpR X (inplaceOp .Mult) (rI CMulW fun i j => .int (i * j)) := opI fun _ _ _ _ _ _ _ hc q => PyProof.Rows.imul_int q hc.ok
theorem sj_augMul (i : Nat) {m n : Int} (nd : X.N.Nodup) (hρ : ρ[i]? = some (.d (.int m))) (he : EV X e ρ μ (.int n) μ1) (hc : CMulW m n) (hN : X.N[i]? = some x := by kernel_rfl) (hx : locB X.fn X.env.scope x = true := by kernel_rfl) :
    SJ X u (.AugAssign (.Name x p) .Mult e pos) ρ μ (.nx (ρ.set i (.d (.int (m * n)))) μ1) := .mk fun B F H σ as R hW D q => by
  obtain ⟨v, e1, e2⟩ := R.sl i _ hρ
  rw [e2.int_inv] at e1
  have io : PIp X .Mult (rI CMulW fun i j => .int (i * j)) := fun pins s σ H x y v u Q I r1 r2 h => iop_mulW pins s σ H x y v u Q I r1 r2 h
  exact wpS_of (ps_aug nd hN (locB_loc hx) (peW (e := e)) io (locB_fn hx)) ⟨_, e1, he.run B F H σ as R _ fun v F1 H1 R1 g1 e3 => ⟨m, n, rfl, e3.int_inv, hc, q F1 H1 _ as (R1.store (.int _)) (List.prefix_refl _)⟩⟩

/-! ### if, for, while -/
theorem sj_if {k : Bool} (hc : TV X c ρ μ k μ1) (ha : k = true → BJ X u body ρ μ1 r) (hb : k = false → BJ X u orelse ρ μ1 r) : SJ X u (.If c body orelse pos) ρ μ r := .mk fun B F H σ as R hW D q =>
  wpS_of (ps_if (ptW (e := c)) (pbW (sts := body)) (pbW (sts := orelse))) (hc.run B F H σ as R _ fun F1 H1 R1 g1 => by
    cases k with
    | true => exact iteT ((ha rfl).run B F1 H1 σ as R1 hW D q)
    | false => exact iteF ((hb rfl).run B F1 H1 σ as R1 hW D q))
/-- how a loop goes over the items -/
inductive FoR (X : Cx) (u : Nat) (tg : Expr) (body : List Stmt) : List PyData → List SV → List MO → List SV → List MO → Prop
  | nil {ρ : List SV} {μ : List MO} : FoR X u tg body [] ρ μ ρ μ
  | cons {x : PyData} {xs : List PyData} {is : List Nat} {ρ ρ1 ρ2 ρ' : List SV} {μ μ1 μ' : List MO} (hg : GV X tg is ρ x ρ1) (hb : BJ X u body ρ1 μ (.nx ρ2 μ1)) (h : FoR X u tg body xs ρ2 μ1 ρ' μ') : FoR X u tg body (x :: xs) ρ μ ρ' μ'
  | weak {xs : List PyData} {ρ ρ1 ρ' : List SV} {μ μ' : List MO} (w : Wk ρ ρ1) (h : FoR X u tg body xs ρ1 μ ρ' μ') : FoR X u tg body xs ρ μ ρ' μ'
theorem FoR.inv_cons {d : PyData} {ds : List PyData} (h : FoR X u tg body (d :: ds) ρ μ ρ' μ') : ∃ ρ0 is ρ1 ρ2 μ1, Wk ρ ρ0 ∧ GV X tg is ρ0 d ρ1 ∧ BJ X u body ρ1 μ (.nx ρ2 μ1) ∧ FoR X u tg body ds ρ2 μ1 ρ' μ' := by
  generalize hz : d :: ds = zs at h
  induction h with
  | nil => cases hz
  | cons hg hb h ih => cases hz; exact ⟨_, _, _, _, _, Wk.refl _, hg, hb, h⟩
  | weak w h ih =>
    obtain ⟨ρ0, is, ρ1, ρ2, μ1, w0, q⟩ := ih hz
    exact ⟨ρ0, is, ρ1, ρ2, μ1, w.trans w0, q⟩
theorem FoR.inv_nil (h : FoR X u tg body [] ρ μ ρ' μ') : Wk ρ ρ' ∧ μ = μ' := by
  generalize hz : ([] : List PyData) = zs at h
  induction h with
  | nil => exact ⟨Wk.refl _, rfl⟩
  | cons hg hb h ih => cases hz
  | weak w h ih => exact ⟨w.trans (ih hz).1, (ih hz).2⟩
theorem sj_for {iter : Expr} (hi : IV X tg iter ρ μ ds μ1) (hF : FoR X u tg body ds ρ μ1 ρ' μ') (hp : PassesOwn (model X.prog X.w) X.A X.env X.xe := by exact PassesOwn.never) (hc : X.calm = true := by kernel_rfl) (hs : ∀ x, foldedSetIterable iter X.env x = pure x := by intro _; rfl) :
    SJ X u (.For tg iter body [] pos) ρ μ (.nx ρ' μ') := .mk fun B F H σ as R hW D q => by
  refine wpS_of (ps_for hp hc (piW (tg := tg) (e := iter)) (pgW (e := tg)) (pbW (sts := body)) hs) (hi.run B F H σ as R _ fun J F1 H1 R1 g1 wd => ?_)
  obtain ⟨Y, w, yv⟩ := wd
  refine for_it w (fun i σi Hi => ∃ F' as' ρi μi, SR X B F' Hi σi ρi μi as' ∧ as <+: as' ∧ Same F1 F' ∧ FoR X u tg body (ds.drop i) ρi μi ρ' μ') ?_ ?_ ?_ ?_
  · exact ⟨F1, as, ρ, μ1, R1, List.prefix_refl _, same_refl, by simpa using hF⟩
  · intro i σi Hi _ h
    obtain ⟨F', as', ρi, μi, S, _, e, _⟩ := h
    exact e.trans S.fh
  · intro i x σi Hi H' hi' h y
    obtain ⟨F', as', ρi, μi, S, pf, e, hl⟩ := h
    obtain ⟨F2, d, n2, hd, dv⟩ := yv i Hi x H' F' hi' e S.fh y
    have ed : ds.drop i = d :: ds.drop (i + 1) := by
      obtain ⟨z1, z2⟩ := List.getElem?_eq_some_iff.mp hd
      rw [← z2]
      exact List.drop_eq_getElem_cons z1
    rw [ed] at hl
    obtain ⟨ρ0, is, ρ1, ρ2, μ2, w0, hg, hb, hl'⟩ := hl.inv_cons
    have S2 := (S.new n2).weak w0
    have g2 : Gr as' F' Hi F2 H' := n2.gr S.fh
    refine hg.run B F2 H' σi _ as' x S2 dv _ fun σ3 S3 _ => ?_
    have fin : ∀ F' H' σ' as2, SR X B F' H' σ' ρ2 μ2 as2 → as' <+: as2 → Same F2 F' → ∃ F'' as'' ρi μi, SR X B F'' H' σ' ρi μi as'' ∧ as <+: as'' ∧ Same F1 F'' ∧ FoR X u tg body (ds.drop (i + 1)) ρi μi ρ' μ' :=
      fun F' H' σ' as2 S4 pf2 e4 => ⟨F', as2, ρ2, μ2, S4, pf.trans pf2, (e.trans g2.ff).trans e4, hl'⟩
    -- the block is read from F2 as its base for what is frozen
    have S5 : SR X ⟨B.W, F2, B.H⟩ F2 H' σ3 ρ1 _ as' := { S3 with b1 := same_refl, nm := fun p h n => n }
    exact hb.run ⟨B.W, F2, B.H⟩ F2 H' σ3 as' S5 (own_pre hW pf) _ fun F4 H4 σ4 as4 S6 pf4 => fin F4 H4 σ4 as4 { S6 with b1 := (S3.b1).trans S6.b1, nm := fun p h n => S6.nm p h (S3.nm p h n) } pf4 S6.b1
  · intro σi Hi h
    obtain ⟨F', as', ρi, μi, S, pf, e, hl⟩ := h
    have ed : ds.drop ds.length = [] := List.drop_eq_nil_of_le (Nat.le_refl _)
    rw [ed] at hl
    obtain ⟨w', e'⟩ := hl.inv_nil
    subst e'
    exact q F' Hi σi as' (S.weak w') pf
end
end DW

/-! Dw9: while; folds; defs from their bodies. -/
namespace DW
open PySem PySem.Spec PyProof.Rows L2
section
variable {X : Cx} {u : Nat} {e a b c tg : Expr} {es : List Expr} {st : Stmt} {sts body orelse : List Stmt} {ρ ρ1 ρ2 ρ3 ρ' : List SV} {μ μ1 μ2 μ3 μ' : List MO} {d d1 d2 d3 : PyData} {ds xs ys : List PyData} {pos p p2 p3 q : Pos} {x y z : Str} {r : Rs} {k : Nat}
/-- how a while goes, in n turns -/
inductive WhR (X : Cx) (u : Nat) (c : Expr) (body : List Stmt) : Nat → List SV → List MO → List SV → List MO → Prop
  | stop {ρ ρ' : List SV} {μ μ1 : List MO} (h : TV X c ρ μ false μ1) (w : Wk ρ ρ') : WhR X u c body 0 ρ μ ρ' μ1
  | step {n : Nat} {ρ ρ1 ρ2 ρ' : List SV} {μ μ1 μ2 μ' : List MO} (h : TV X c ρ μ true μ1) (hb : BJ X u body ρ μ1 (.nx ρ1 μ2)) (w : Wk ρ1 ρ2) (h2 : WhR X u c body n ρ2 μ2 ρ' μ') : WhR X u c body (n + 1) ρ μ ρ' μ'
theorem sj_while {n : Nat} (hF : WhR X u c body n ρ μ ρ' μ') (hp : PassesOwn (model X.prog X.w) X.A X.env X.xe := by exact PassesOwn.never) : SJ X u (.While c body [] pos) ρ μ (.nx ρ' μ') := .mk fun B F H σ as R hW D q => by
  refine wpS_of (ps_while hp (ptW (e := c)) (pbW (sts := body))) ⟨fun m σi Hi => ∃ F' as' ρi μi, SR X B F' Hi σi ρi μi as' ∧ as <+: as' ∧ WhR X u c body m ρi μi ρ' μ', ⟨n, F, as, ρ, μ, R, List.prefix_refl _, hF⟩, fun m σi Hi h => ?_⟩
  obtain ⟨F', as', ρi, μi, S, pf, hl⟩ := h
  cases hl with
  | stop h w => exact h.run B F' Hi σi as' S _ fun F1 H1 R1 g1 => iteF (q F1 H1 σi as' (R1.weak w) pf)
  | step h hb w h2 =>
    exact h.run B F' Hi σi as' S _ fun F1 H1 R1 g1 => iteT ⟨_, fun σ' H' z => ⟨_, Nat.lt_succ_self _, z⟩, hb.run B F1 H1 σi as' R1 (own_pre hW pf) _ fun F2 H2 σ2 as2 R2 pf2 => ⟨F2, as2, _, _, R2.weak w, pf.trans pf2, h2⟩⟩
theorem sj_whileE (ρ' : List SV) (μ' : List MO) (hF : ∃ n, WhR X u c body n ρ μ ρ' μ') (hp : PassesOwn (model X.prog X.w) X.A X.env X.xe := by exact PassesOwn.never) : SJ X u (.While c body [] pos) ρ μ (.nx ρ' μ') :=
  let ⟨_, h⟩ := hF; sj_while h hp
/-- a loop as a fold over typed items; the slots by the value -/
theorem for_fold {α β : Type} (enc : α → PyData) (f : β → α → β) (S : β → List SV) (M : β → List MO) : ∀ (zs : List α) (s : β),
    (∀ (s : β) (z : α), z ∈ zs → ∃ is ρ1 ρ2, GV X tg is (S s) (enc z) ρ1 ∧ BJ X u body ρ1 (M s) (.nx ρ2 (M (f s z))) ∧ Wk ρ2 (S (f s z))) → FoR X u tg body (zs.map enc) (S s) (M s) (S (zs.foldl f s)) (M (zs.foldl f s))
  | [], s, _ => .nil
  | z :: zs, s, h => by
    obtain ⟨is, ρ1, ρ2, h1, h2, h3⟩ := h s z List.mem_cons_self
    exact .cons h1 h2 (.weak h3 (for_fold enc f S M zs (f s z) fun s z hz => h s z (List.mem_cons_of_mem _ hz)))
end

section
variable {X : Cx} {u : Nat} {tg : Expr} {body : List Stmt}
/-- a loop over typed items; the slots by the items that are done -/
theorem for_pre {α : Type} (enc : α → PyData) (S : List α → List SV) (M : List α → List MO) (zs : List α) (h : ∀ (pre : List α) (z : α) (suf : List α), zs = pre ++ z :: suf → ∃ is ρ1 ρ2, GV X tg is (S pre) (enc z) ρ1 ∧ BJ X u body ρ1 (M pre) (.nx ρ2 (M (pre ++ [z]))) ∧ Wk ρ2 (S (pre ++ [z]))) :
    FoR X u tg body (zs.map enc) (S []) (M []) (S zs) (M zs) := by
  have go : ∀ suf pre : List α, zs = pre ++ suf → FoR X u tg body (suf.map enc) (S pre) (M pre) (S zs) (M zs) := by
    intro suf
    induction suf with
    | nil =>
      intro pre e
      rw [List.append_nil] at e
      rw [e]
      exact .nil
    | cons z suf ih =>
      intro pre e
      obtain ⟨is, ρ1, ρ2, h1, h2, h3⟩ := h pre z suf e
      exact .cons h1 h2 (.weak h3 (ih (pre ++ [z]) (by rw [e, List.append_assoc]; rfl)))
  exact go zs [] rfl
end
section
variable {X : Cx} {tg : Expr} {ρ : List SV} {μ : List MO}
/-- a comprehension without tests over typed items -/
theorem lc_all {α : Type} {own : List Nat} {elt : Expr} {scope : Scope} {is : List Nat} (enc : α → PyData) (f : α → PyData) (ρ1 : α → List SV) (hi : ∀ i ∈ is, i ∈ own) : ∀ zs : List α,
    (hg : ∀ z ∈ zs, ∀ s H C cl fp, GV (Blk X scope s H C cl fp) tg is (wipeR ρ own) (enc z) (ρ1 z)) → (he : ∀ z ∈ zs, ∀ s H C cl fp, EV (Blk X scope s H C cl fp) elt (ρ1 z) μ (f z) μ) → LcR X scope tg elt [] own ρ (zs.map enc) μ (zs.map f) μ
  | [], _, _ => .nil
  | z :: zs, hg, he => .keep hi (hg z List.mem_cons_self) (fun _ _ _ _ _ => ts_nil) (he z List.mem_cons_self) (lc_all enc f ρ1 hi zs (fun z h => hg z (List.mem_cons_of_mem _ h)) (fun z h => he z (List.mem_cons_of_mem _ h)))
/-- .. with one test -/
theorem lc_flt {α : Type} {own : List Nat} {elt t : Expr} {scope : Scope} {is : List Nat} (enc : α → PyData) (keep : α → Bool) (f : α → PyData) (ρ1 : α → List SV) (hi : ∀ i ∈ is, i ∈ own) (zs : List α)
    (hg : ∀ z ∈ zs, ∀ s H C cl fp, GV (Blk X scope s H C cl fp) tg is (wipeR ρ own) (enc z) (ρ1 z)) (ht : ∀ z ∈ zs, ∀ s H C cl fp, TV (Blk X scope s H C cl fp) t (ρ1 z) μ (keep z) μ)
    (he : ∀ z ∈ zs, keep z = true → ∀ s H C cl fp, EV (Blk X scope s H C cl fp) elt (ρ1 z) μ (f z) μ) : LcR X scope tg elt [t] own ρ (zs.map enc) μ ((zs.filter keep).map f) μ :=
  lc_map enc keep f ρ1 hi zs hg (fun z hz s H C cl fp => ts_one (ht z hz s H C cl fp)) he
end

/-! ### defs from their bodies -/
theorem slots_data {K : PySem.W.Frag} {F : Hp} {as : List Addr} {m : Nat} {vs : List V} {ds : List PyData} (h : DpAll K F vs ds) : ∀ (i : Nat) (sv : SV), (ds.map SV.d ++ List.replicate m SV.u)[i]? = some sv → SlotOk K F as (vs.map some ++ List.replicate m none)[i]? sv := by
  intro i sv q
  have hl := h.len
  by_cases hi : i < ds.length
  · rw [List.getElem?_append_left (by rw [List.length_map]; exact hi), List.getElem?_map] at q
    rw [List.getElem?_append_left (by rw [List.length_map, hl]; exact hi), List.getElem?_map]
    rw [List.getElem?_eq_getElem hi] at q
    have q' : SV.d ds[i] = sv := Option.some.inj q
    subst q'
    obtain ⟨v, h1, h2⟩ := h.get (i := i) (List.getElem?_eq_getElem hi)
    exact ⟨v, by rw [h1]; rfl, h2⟩
  · rw [List.getElem?_append_right (by rw [List.length_map]; omega), List.getElem?_replicate] at q
    split at q
    · have q' := Option.some.inj q
      subst q'
      trivial
    · cases q
section
variable {P : Program} {w : World} {K : PySem.W.Frag} {mg : Str → Option Value} {base : Heap}
/-- the context of a def's body -/
abbrev DX (P : Program) (w : World) (K : PySem.W.Frag) (mg : Str → Option Value) (base : Heap) (N : List Str) (qual : Str) (st : Stmt) (f : Addr) (cdv : Value) (A : Around) (outer : List Env) (s : Shared) (H : Hp) (E : XK) : Cx := (cxOf CX0 P w K mg base N qual (defScope st) f cdv A outer s H E).nox
theorem start_sr {X : Cx} {F H : Hp} {N : List Str} {vs : List V} {ds : List PyData} (fh : Same F H) (h : DpAll X.K F vs ds) : SR X ⟨[], F, H⟩ F H (L2.start N vs) (ds.map SV.d ++ List.replicate (N.length - ds.length) SV.u) [] [] where
  b1 := same_refl
  fh := fh
  kp := fun _ _ h _ => h
  kn := fun _ h => h
  nm := fun _ _ h => h
  sl := by
    unfold L2.start
    rw [h.len]
    exact slots_data h
  sz := by
    unfold L2.start
    rw [List.length_append, List.length_append, List.length_map, List.length_map, List.length_replicate, List.length_replicate, h.len]
  mu := fun _ _ h => by simp at h
  ln := rfl
  nd := List.nodup_nil
  al := fun _ h => by simp at h
  fr := fun _ h => by simp at h
  ww := fun _ h => h
theorem SR.gr {X : Cx} {B : Bs} {F H : Hp} {σ : L2.St} {ρ : List SV} {μ : List MO} {as : List Addr} (R : SR X B F H σ ρ μ as) : Gr B.W B.F B.H F H := ⟨R.b1, fun p o n h => R.kp p o h n, R.kn, R.nm⟩
/-- a def over data -/
theorem fnok_pure {x : Str} {st : Stmt} {N ps : List Str} {k : Nat} {Rl : List PyData → PyData → Prop} {f : Addr} {fd : FuncData} (F : Fun K x x st f fd) (S : FnScope N ps (defScope st)) (hl : ∀ ds d, Rl ds d → ds.length = ps.length)
    (h : ∀ f cdv A outer s H E ds d, Room k (DX P w K mg base N x st f cdv A outer s H E).A → Rl ds d → ∃ μ, BJ (DX P w K mg base N x st f cdv A outer s H E) 0 (defBody st) (ds.map SV.d ++ List.replicate (N.length - ds.length) SV.u) [] (.rt d μ)) : FnOk P w K mg base CX0 (k + 1) f fd ps (spP K Rl) := by
  refine F.ok S (fun vs H Q E z => ?_) (fun cdv A outer s H vs Q E hr z => ?_)
  · obtain ⟨F', ds, d, _, h2, h3, _⟩ := z
    rw [h2.len]
    exact hl ds d h3
  · obtain ⟨F', ds, d, h4, h2, h3, q⟩ := z
    obtain ⟨μ, hB⟩ := h f cdv A outer s H E ds d hr h3
    exact ⟨_, pbW, hB.run _ F' H _ [] (start_sr h4 h2) (fun a ha => by cases ha) _ fun v F1 H1 σ1 ρ1 as1 R1 _ dv => q v F1 H1 R1.gr R1.fh dv⟩
theorem fn_pure {x : Str} {st : Stmt} {N ps : List Str} {k : Nat} {Rl : List PyData → PyData → Prop} (D : Df K mg x st) (S : FnScope N ps (defScope st)) (hl : ∀ ds d, Rl ds d → ds.length = ps.length)
    (hb : ∀ (kV doc pm : Value) (an : Option Addr) (cdv ct : Value) (us : List Value), us.length = ps.length → bindArgs (PySem.W.fnOf x x (defArgs st) (defBody st) (defScope st) .none kV doc pm an cdv ct) ⟨us, []⟩ = pure (ps.zip us))
    (h : ∀ f cdv A outer s H E ds d, Room k (DX P w K mg base N x st f cdv A outer s H E).A → Rl ds d → ∃ μ, BJ (DX P w K mg base N x st f cdv A outer s H E) 0 (defBody st) (ds.map SV.d ++ List.replicate (N.length - ds.length) SV.u) [] (.rt d μ)) : Fn P w K mg base (k + 1) x (spP K Rl) := by
  obtain ⟨f, fd, h1, F⟩ := D.ex
  exact ⟨f, fd, ps, h1, F.kp, F.binds hb, fnok_pure F S hl h⟩
/-- a def that gives a new list -/
theorem fn_list {x : Str} {st : Stmt} {N ps : List Str} {k : Nat} {Rl : List PyData → List PyData → Prop} (D : Df K mg x st) (S : FnScope N ps (defScope st)) (hl : ∀ ds d, Rl ds d → ds.length = ps.length)
    (hb : ∀ (kV doc pm : Value) (an : Option Addr) (cdv ct : Value) (us : List Value), us.length = ps.length → bindArgs (PySem.W.fnOf x x (defArgs st) (defBody st) (defScope st) .none kV doc pm an cdv ct) ⟨us, []⟩ = pure (ps.zip us))
    (h : ∀ f cdv A outer s H E ds xs, Room k (DX P w K mg base N x st f cdv A outer s H E).A → Rl ds xs → BJ (DX P w K mg base N x st f cdv A outer s H E) 0 (defBody st) (ds.map SV.d ++ List.replicate (N.length - ds.length) SV.u) [] (.rf xs)) : Fn P w K mg base (k + 1) x (spL K Rl) := by
  obtain ⟨f, fd, h1, F⟩ := D.ex
  refine ⟨f, fd, ps, h1, F.kp, F.binds hb, F.ok S (fun vs H Q E z => ?_) (fun cdv A outer s H vs Q E hr z => ?_)⟩
  · obtain ⟨F', ds, d, _, h2, h3, _⟩ := z
    rw [h2.len]
    exact hl ds d h3
  · obtain ⟨F', ds, xs, h4, h2, h3, q⟩ := z
    have hB := h f cdv A outer s H E ds xs hr h3
    exact ⟨_, pbW, hB.run _ F' H _ [] (start_sr h4 h2) (fun a ha => by cases ha) _ fun p vs F1 H1 σ1 ρ1 μ1 as1 R1 _ k1 k2 k3 k4 => q p vs F1 H1 R1.gr R1.fh k1 k2 k3 k4⟩
/-- a def that changes its first argument's list -/
theorem fn_urn {x : Str} {st : Stmt} {N ps : List Str} {k : Nat} {Rl : List PyData → List PyData → PyData → List PyData → Prop} (D : Df K mg x st) (S : FnScope N ps (defScope st)) (hl : ∀ us ds d us', Rl us ds d us' → ds.length + 1 = ps.length)
    (hb : ∀ (kV doc pm : Value) (an : Option Addr) (cdv ct : Value) (us : List Value), us.length = ps.length → bindArgs (PySem.W.fnOf x x (defArgs st) (defBody st) (defScope st) .none kV doc pm an cdv ct) ⟨us, []⟩ = pure (ps.zip us))
    (h : ∀ f cdv A outer s H E us ds d us', Room k (DX P w K mg base N x st f cdv A outer s H E).A → Rl us ds d us' → ∃ μ, μ[0]? = some (.l us') ∧ BJ (DX P w K mg base N x st f cdv A outer s H E) 1 (defBody st) (.h 0 :: (ds.map SV.d ++ List.replicate (N.length - (ds.length + 1)) SV.u)) [.l us] (.rt d μ)) :
    Fn P w K mg base (k + 1) x (spU K Rl) := by
  obtain ⟨f, fd, h1, F⟩ := D.ex
  refine ⟨f, fd, ps, h1, F.kp, F.binds hb, F.ok S (fun vs H Q E z => ?_) (fun cdv A outer s H vs Q E hr z => ?_)⟩
  · obtain ⟨F', a, ws, vs', us, ds, d, us', rfl, _, _, _, _, h2, h3, _⟩ := z
    rw [List.length_cons, h2.len]
    exact hl us ds d us' h3
  · obtain ⟨F', a, ws, vs', us, ds, d, us', rfl, h4, h5, h6, h7, h2, h3, q⟩ := z
    obtain ⟨μ, hμ, hB⟩ := h f cdv A outer s H E us ds d us' hr h3
    have hW : ∀ b ∈ ([a] : List Addr), ∃ i, i < 1 ∧ ([a] : List Addr)[i]? = some b := fun b hb => by
      have e : b = a := by simpa using hb
      exact ⟨0, Nat.zero_lt_one, by rw [e]; rfl⟩
    refine ⟨_, pbW, hB.run ⟨[a], F', H⟩ F' H _ [a] ?_ hW _ fun v F1 H1 σ1 ρ1 as1 R1 pf dv => ?_⟩
    · refine ⟨same_refl, h4, fun _ _ h _ => h, fun _ h => h, fun _ _ h => h, fun i sv z => ?_, ?_, fun i m z => ?_, rfl, by simp, fun b hb => ?_, fun b hb => .inl hb, fun b hb => hb⟩
      · cases i with
        | zero =>
          have z' : SV.h 0 = sv := Option.some.inj z
          subst z'
          exact ⟨a, rfl, rfl⟩
        | succ i =>
          have e : L2.start N (.ref a :: vs') = some (.ref a) :: (vs'.map some ++ List.replicate (N.length - (ds.length + 1)) none) := by
            unfold L2.start
            rw [List.length_cons, h2.len]
            rfl
          rw [e]
          exact slots_data h2 i sv z
      · unfold L2.start
        simp [h2.len]
      · cases i with
        | zero =>
          have z' : MO.l us = m := Option.some.inj z
          subst z'
          exact ⟨a, rfl, h5, ws, h6, h7⟩
        | succ i => simp at z
      · have e : b = a := by simpa using hb
        rw [e, h6]
        simp
    · obtain ⟨a', e1, k1, ws', k2, k3⟩ := R1.mu 0 _ hμ
      obtain ⟨t, rfl⟩ := pf
      have e2 : a = a' := Option.some.inj e1
      subst e2
      exact q v ws' F1 H1 R1.gr R1.fh k1 k2 k3 dv
end
end DW

/-! Dw10: own dicts with nested tuples as keys. -/
namespace DW
open PySem PySem.Spec PyProof.Rows L2

/-! ### keys -/
mutual
theorem nested_of {X : Cx} {F H : Hp} {pins : List (Addr × Obj)} {σ : L2.St} {s : Shared} (I : Inv X pins σ H s) (fh : Same F H) : ∀ (k : NestedKey) (v : V) (u : Value), Dp X.K F v k.data → RelV v u → NestedIs s.heap k u
  | .none, v, u, h, r => by
    cases h
    have e : u = Value.none := r
    subst e
    exact .none
  | .num i, v, u, h, r => by
    have h' : Dp X.K F v (.int i) := h
    rw [h'.int_inv] at r
    obtain ⟨t, rfl⟩ := r
    exact .int i t
  | .text x, v, u, h, r => by
    cases h
    obtain ⟨t, rfl⟩ := r
    exact .text x t
  | .tup ks, v, u, h, r => by
    have h' : Dp X.K F v (.tuple (NestedKey.datas ks)) := h
    obtain ⟨a, xs, rfl, h1, h2⟩ := h'.tup_inv
    have e : u = Value.ref a := r
    subst e
    obtain ⟨its, rv, ⟨o, ho, hc, n, hd⟩, hz⟩ := I.tuple (sqt_mono fh h1)
    exact .tup ho hc hd (by simpa using nested_all I fh ks xs its h2 rv)
theorem nested_all {X : Cx} {F H : Hp} {pins : List (Addr × Obj)} {σ : L2.St} {s : Shared} (I : Inv X pins σ H s) (fh : Same F H) : ∀ (ks : List NestedKey) (vs : List V) (us : List Value), DpAll X.K F vs (NestedKey.datas ks) → Vals vs us → NestedAll s.heap ks us
  | [], vs, us, h, r => by
    have h' : DpAll X.K F vs [] := h
    cases h'
    cases r
    exact .nil
  | k :: ks, vs, us, h, r => by
    have h' : DpAll X.K F vs (k.data :: NestedKey.datas ks) := h
    cases h' with
    | cons h1 h2 =>
      cases r with
      | cons r1 r2 => exact .cons (nested_of I fh k _ _ h1 r1) (nested_all I fh ks _ _ h2 r2)
end

/-! ### entries -/
abbrev KV := List (NestedKey × PyData)
def kvGet (kvs : KV) (k : NestedKey) : Option PyData := (kvs.find? fun p => decide (p.1 = k)).map (·.2)
def kvSet (kvs : KV) (k : NestedKey) (d : PyData) : KV := if (kvGet kvs k).isSome then kvs.map fun p => if p.1 = k then (p.1, d) else p else kvs ++ [(k, d)]
def esGet (es : List DE) (k : NestedKey) : Option (Addr × V) := (es.find? fun p => decide (p.1 = k)).map (·.2)
def esSet (es : List DE) (k : NestedKey) (a : Addr) (v : V) : List DE := if (esGet es k).isSome then es.map fun p => if p.1 = k then (p.1, p.2.1, v) else p else es ++ [(k, a, v)]
section
variable {α β γ δ : Type} {R : NestedKey × α → NestedKey × β → Prop}
theorem find_pair {l : List (NestedKey × α)} {m : List (NestedKey × β)} (k : NestedKey) (h : Paired R l m) (hk : ∀ p q, R p q → p.1 = q.1) : (l.find? (fun p => decide (p.1 = k)) = none ∧ m.find? (fun p => decide (p.1 = k)) = none) ∨ ∃ p q, l.find? (fun p => decide (p.1 = k)) = some p ∧ m.find? (fun p => decide (p.1 = k)) = some q ∧ R p q := by
  induction h with
  | nil => exact .inl ⟨rfl, rfl⟩
  | @cons p q l m r t ih =>
    have e := hk p q r
    by_cases hp : p.1 = k
    · have hq : q.1 = k := e ▸ hp
      exact .inr ⟨p, q, by simp [List.find?_cons, hp], by simp [List.find?_cons, hq], r⟩
    · have hq : ¬ q.1 = k := e ▸ hp
      simp only [List.find?_cons, hp, hq, decide_false]
      exact ih
theorem paired_app {G : α → β → Prop} {l l' : List α} {m m' : List β} (h : Paired G l m) (h' : Paired G l' m') : Paired G (l ++ l') (m ++ m') := by
  induction h with
  | nil => exact h'
  | cons r t ih => exact .cons r ih
theorem paired_map {G : γ → δ → Prop} {G0 : α → β → Prop} {f : α → γ} {g : β → δ} {l : List α} {m : List β} (h : Paired G0 l m) (hfg : ∀ p q, G0 p q → G (f p) (g q)) : Paired G (l.map f) (m.map g) := by
  induction h with
  | nil => exact .nil
  | cons r t ih => exact .cons (hfg _ _ r) ih
theorem paired_len {G0 : α → β → Prop} {l : List α} {m : List β} (h : Paired G0 l m) : l.length = m.length := by
  induction h with
  | nil => rfl
  | cons r t ih => rw [List.length_cons, List.length_cons, ih]
end
/-- an entry and what stands in the heap -/
abbrev EnR (p : DE) (q : NestedKey × Addr × Value) : Prop := p.1 = q.1 ∧ p.2.1 = q.2.1 ∧ RelV p.2.2 q.2.2
theorem es_get {es : List DE} {xs : List (NestedKey × Addr × Value)} (h : Paired EnR es xs) (k : NestedKey) : (esGet es k = none ∧ atKey xs k = none) ∨ ∃ a v u, esGet es k = some (a, v) ∧ atKey xs k = some (a, u) ∧ RelV v u := by
  rcases find_pair k h (fun p q r => r.1) with ⟨h1, h2⟩ | ⟨p, q, h1, h2, r⟩
  · exact .inl ⟨by unfold esGet; rw [h1]; rfl, by unfold atKey; rw [h2]; rfl⟩
  · obtain ⟨k1, a1, v1⟩ := p
    obtain ⟨k2, a2, v2⟩ := q
    obtain ⟨r1, r2, r3⟩ := r
    have r2' : a1 = a2 := r2
    subst r2'
    exact .inr ⟨a1, v1, v2, by unfold esGet; rw [h1]; rfl, by unfold atKey; rw [h2]; rfl, r3⟩
theorem es_set {es : List DE} {xs : List (NestedKey × Addr × Value)} (h : Paired EnR es xs) (k : NestedKey) {a : Addr} {v : V} {u : Value} (r : RelV v u) : Paired EnR (esSet es k a v) (storedH xs k a u) := by
  unfold esSet storedH
  rcases es_get h k with ⟨h1, h2⟩ | ⟨a1, v1, u1, h1, h2, r1⟩
  · rw [h1, h2]
    exact paired_app h (.cons ⟨rfl, rfl, r⟩ .nil)
  · rw [h1, h2]
    refine paired_map h fun p q z => ?_
    unfold putAt
    have e : p.1 = q.1 := z.1
    by_cases hp : p.1 = k
    · rw [if_pos hp, if_pos (e ▸ hp)]
      exact ⟨e, z.2.1, r⟩
    · rw [if_neg hp, if_neg (e ▸ hp)]
      exact z
section
variable {K : PySem.W.Frag} {F : Hp} {es : List DE} {kvs : KV}
theorem kv_get (h : Paired (EntOk K F) es kvs) (k : NestedKey) : (esGet es k = none ∧ kvGet kvs k = none) ∨ ∃ a v d, esGet es k = some (a, v) ∧ kvGet kvs k = some d ∧ Dp K F v d := by
  rcases find_pair k h (fun p q r => r.1) with ⟨h1, h2⟩ | ⟨p, q, h1, h2, r⟩
  · exact .inl ⟨by unfold esGet; rw [h1]; rfl, by unfold kvGet; rw [h2]; rfl⟩
  · exact .inr ⟨p.2.1, p.2.2, q.2, by unfold esGet; rw [h1]; rfl, by unfold kvGet; rw [h2]; rfl, r.2.2.2⟩
theorem kv_set (h : Paired (EntOk K F) es kvs) {k : NestedKey} {a : Addr} {v : V} {d : PyData} (hd : k.depth ≤ 8) (h1 : Dp K F (.ref a) k.data) (h2 : Dp K F v d) : Paired (EntOk K F) (esSet es k a v) (kvSet kvs k d) := by
  unfold esSet kvSet
  rcases kv_get h k with ⟨e1, e2⟩ | ⟨a1, v1, d1, e1, e2, _⟩
  · rw [e1, e2]
    exact paired_app h (.cons ⟨rfl, hd, h1, h2⟩ .nil)
  · rw [e1, e2]
    refine paired_map h fun p q z => ?_
    have e : p.1 = q.1 := z.1
    by_cases hp : p.1 = k
    · rw [if_pos hp, if_pos (e ▸ hp)]
      exact ⟨e, z.2.1, z.2.2.1, h2⟩
    · rw [if_neg hp, if_neg (e ▸ hp)]
      exact z
theorem esSet_len (es : List DE) (k : NestedKey) (a : Addr) (v : V) : (esSet es k a v).length ≤ es.length + 1 := by
  unfold esSet
  split
  · rw [List.length_map]; omega
  · simp
theorem esSet_nodup {es : List DE} (h : (es.map (·.1)).Nodup) (k : NestedKey) (a : Addr) (v : V) : ((esSet es k a v).map (·.1)).Nodup := by
  unfold esSet
  split
  · rw [List.map_map]
    have e : ((fun (p : DE) => p.1) ∘ fun p => if p.1 = k then (p.1, p.2.1, v) else p) = fun p => p.1 := by
      funext p
      show (if p.1 = k then (p.1, p.2.1, v) else p).1 = p.1
      split <;> rfl
    rw [e]
    exact h
  · rename_i hn
    rw [List.map_append, List.nodup_append]
    refine ⟨h, by simp, fun x hx y hy e => hn ?_⟩
    have hy' : y = k := by simpa using hy
    subst hy'
    subst e
    obtain ⟨p, hp, e⟩ := List.mem_map.mp hx
    unfold esGet
    rw [Option.isSome_map, List.find?_isSome]
    exact ⟨p, hp, by simp [e]⟩
end

theorem keys_eq {es : List DE} {xs : List (NestedKey × Addr × Value)} (h : Paired EnR es xs) : xs.map (·.1) = es.map (·.1) := by
  induction h with
  | nil => rfl
  | cons r t ih => rw [List.map_cons, List.map_cons, ih, r.1]

/-! ### the dict in the heap -/
section
variable {X : Cx} {pins : List (Addr × Obj)} {σ : L2.St} {F H : Hp} {s : Shared} {D : Addr} {es : List DE} {kvs : KV}
theorem dict_at (I : Inv X pins σ H s) (fh : Same F H) (h : H D = some (dictHO X.prog X.w D es)) (he : Paired (EntOk X.K F) es kvs) : (D == sysModules) = false ∧ es.length ≤ sizeLine ∧ ∃ xs, Paired EnR es xs ∧ s.heap.DictOfH (nestedKind X.prog X.w) D xs := by
  have x : ObjOk X.prog X.w H s.heap D (.ext (dictPhi X.prog X.w D es)) := I.hok D _ h
  obtain ⟨⟨h1, h2, h3, xs, h4, o, ents, ep, h5, h6, h7, h8⟩, _⟩ := x
  refine ⟨h1, h2, xs, h4, o, ents, ep, h5, h6, h7, h8, fun y hy => ?_, ?_⟩
  · have go : ∀ {es : List DE} {xs : List (NestedKey × Addr × Value)} {kvs : KV}, Paired EnR es xs → Paired (EntOk X.K F) es kvs → ∀ y ∈ xs, (nestedKind X.prog X.w).is s.heap y.1 y.2.1 := by
      intro es xs kvs h4 he
      induction h4 generalizing kvs with
      | nil => intro y hy; cases hy
      | @cons p q l m r t ih =>
        cases he with
        | cons z1 z2 =>
          intro y hy
          rcases List.mem_cons.mp hy with e | hy
          · subst e
            obtain ⟨k1, k2, k3, k4⟩ := z1
            have e1 : p.1 = y.1 := r.1
            have e2 : p.2.1 = y.2.1 := r.2.1
            refine ⟨?_, ?_⟩
            · rw [← e1, ← e2, k1]
              exact nested_of I fh _ _ _ k3 rfl
            · rw [← e1, k1]; exact k2
          · exact ih z2 y hy
    exact go h4 he y hy
  · rw [keys_eq h4]
    exact h3
theorem dict_ok {Hn : Hp} {h' : Heap} {xs : List (NestedKey × Addr × Value)} (h1 : (D == sysModules) = false) (h2 : es.length ≤ sizeLine) (h3 : (es.map (·.1)).Nodup) (h4 : Paired EnR es xs) (h5 : h'.DictOfH (nestedKind X.prog X.w) D xs) : ObjOk X.prog X.w Hn h' D (dictHO X.prog X.w D es) := by
  obtain ⟨o, ents, ep, k1, k2, k3, k4, k5, k6⟩ := h5
  refine ⟨⟨h1, h2, h3, xs, h4, o, ents, ep, k1, k2, k3, k4⟩, ⟨o, k1⟩, fun g1 g2 φ keep => ?_⟩
  obtain ⟨z1, z2, z3, xs', z4, o', ents', ep', z5, z6, z7, z8⟩ := φ
  exact ⟨z1, z2, z3, xs', z4, o', ents', ep', keep _ z5, z6, z7, z8⟩
end

/-! ### rules -/
section
variable {X : Cx}
/-- D holds es, which say kvs of F -/
def HasD (X : Cx) (H : Hp) (F : Hp) (D : Addr) (es : List DE) (kvs : KV) : Prop := H D = some (dictHO X.prog X.w D es) ∧ Same F H ∧ Paired (EntOk X.K F) es kvs
def KeyD (K : PySem.W.Frag) (F : Hp) (v : V) (k : NestedKey) : Prop := ∃ a, v = .ref a ∧ k.depth ≤ 8 ∧ Dp K F v k.data
theorem key_is {pins : List (Addr × Obj)} {σ : L2.St} {F H : Hp} {s : Shared} {v : V} {u : Value} {k : NestedKey} (I : Inv X pins σ H s) (fh : Same F H) (h : KeyD X.K F v k) (r : RelV v u) : ∃ a, v = .ref a ∧ u = .ref a ∧ (nestedKind X.prog X.w).is s.heap k a := by
  obtain ⟨a, rfl, h1, h2⟩ := h
  have e : u = Value.ref a := r
  subst e
  exact ⟨a, rfl, rfl, nested_of I fh k _ _ h2 rfl, h1⟩
theorem room_nk (hu : X.A.units + 100 < cLine) : (nestedKind X.prog X.w).room X.A.in1 := by
  show X.A.in1.units + 8 < cLine
  have e : X.A.in1.units = X.A.units + 1 := rfl
  omega
def rSetN (X : Cx) : TSet := fun o i v H Q => ∃ D F es kvs k d, o = .ref D ∧ HasD X H F D es kvs ∧ KeyD X.K F i k ∧ Dp X.K F v d ∧ es.length < sizeLine ∧ ∀ es', Paired (EntOk X.K F) es' (kvSet kvs k d) → Q (upd H D (dictHO X.prog X.w D es'))
theorem set_N (hu : X.A.units + 100 < cLine) : PSet X (rSetN X) := by
  intro pins s σ H o i v ov iv u Q I ro ri rv h
  obtain ⟨D, F, es, kvs, k, d, rfl, ⟨h1, h2, h3⟩, hk, hd, hz, q⟩ := h
  have e : ov = Value.ref D := ro
  subst e
  obtain ⟨a, rfl, rfl, hkey⟩ := key_is I h2 hk ri
  obtain ⟨n1, n2, xs, n3, n4⟩ := dict_at I h2 h1 h3
  have hnd : (es.map (·.1)).Nodup := by
    rw [← keys_eq n3]
    obtain ⟨_, _, _, _, _, _, _, _, z⟩ := id n4
    exact z
  have hl : xs.length = es.length := (paired_len n3).symm
  refine wpAny_setItem_heap (room_nk hu) hkey n4 (fun h' hm sb => ?_) (by omega)
  have hk2 := hk
  obtain ⟨a', ea, hk1, hk3⟩ := hk
  cases ea
  have new := dict_ok (X := X) (Hn := upd H D (dictHO X.prog X.w D (esSet es k a v))) (es := esSet es k a v) n1 (Nat.le_trans (esSet_len es k a v) hz) (esSet_nodup hnd k a v) (es_set n3 k rv) hm
  obtain ⟨o', _, _, ho', _⟩ := id hm
  exact ⟨_, I.write (x := D) (e := D) (t' := s.toks + (nestedKind X.prog X.w).draws k) (by rw [h1]; trivial) (.inl rfl) (fun b ob hb e => (sb.2 b hb).trans e) ⟨o', ho'⟩ new, q _ (kv_set h3 hk1 hk3 hd)⟩
def rIxN (X : Cx) : R2 := fun o i H Q => ∃ D F es kvs k d, o = .ref D ∧ HasD X H F D es kvs ∧ KeyD X.K F i k ∧ kvGet kvs k = some d ∧ ∀ v, Dp X.K F v d → Q v H
theorem ix_N (hu : X.A.units + 100 < cLine) : IxR X (rIxN X) := by
  intro value slice pins s σ H x y v u Q I rx ry h hs
  obtain ⟨D, F, es, kvs, k, d, rfl, ⟨h1, h2, h3⟩, hk, hg, q⟩ := h
  have e : v = Value.ref D := rx
  subst e
  obtain ⟨a, rfl, rfl, hkey⟩ := key_is I h2 hk ry
  obtain ⟨n1, n2, xs, n3, n4⟩ := dict_at I h2 h1 h3
  rcases kv_get h3 k with ⟨_, z⟩ | ⟨a1, v1, d1, z1, z2, z3⟩
  · rw [hg] at z; cases z
  · rw [hg] at z2
    cases z2
    rcases es_get n3 k with ⟨z, _⟩ | ⟨a2, v2, u2, y1, y2, y3⟩
    · rw [z1] at z; cases z
    · rw [z1] at y1
      cases y1
      refine tail_any (ops := [.ref D, .ref a]) n4.typeIs PySem.F.slot_dict_getitem.lookup ?_ hs
      exact wpAny_getItem_heap (room_nk hu) hkey n4 y2 ⟨v1, H, I.tok _, y3, q v1 z3⟩
theorem pc_notinN (hu : X.A.units + 100 < cLine) {i o : Expr} {ti to : TE} (hi : PE X i ti) (ho : PE X o to) : PC X .NotIn i o (fun σ H Q => ti σ H fun y H1 => to σ H1 fun x H2 => ∃ D F es kvs k, x = .ref D ∧ HasD X H2 F D es kvs ∧ KeyD X.K F y k ∧ Q (.bl (!(kvGet kvs k).isSome)) H2) := by
  refine ⟨fun pins s σ H Q I h => ?_⟩
  refine thn (hi.run pins s σ H _ I h) fun iv s1 ⟨y, H1, I1, ry, q1⟩ => thn (ho.run pins s1 σ H1 _ I1 q1) fun u s2 ⟨x, H2, I2, rx, q2⟩ => ?_
  obtain ⟨D, F, es, kvs, k, rfl, ⟨h1, h2, h3⟩, hk, q⟩ := q2
  have e : u = Value.ref D := rx
  subst e
  obtain ⟨a, rfl, rfl, hkey⟩ := key_is I2 h2 hk ry
  obtain ⟨n1, n2, xs, n3, n4⟩ := dict_at I2 h2 h1 h3
  show wpAny _ _ (do return Value.bool (!(← contains (.ref D) (.ref a)))) _ _ s2
  refine wpAny_bind (wpAny_contains_heap (room_nk hu) hkey n1 n4 (wpAny_pure ?_))
  refine ⟨.bl (!(kvGet kvs k).isSome), H2, I2.tok _, ?_, q⟩
  show Value.bool (!(atKey xs k).isSome) = Value.bool (!(kvGet kvs k).isSome)
  have e2 : (atKey xs k).isSome = (kvGet kvs k).isSome := by
    rcases kv_get h3 k with ⟨z1, z2⟩ | ⟨a1, v1, d1, z1, z2, z3⟩
    · rcases es_get n3 k with ⟨y1, y2⟩ | ⟨a2, v2, u2, y1, y2, y3⟩
      · rw [z2, y2] <;> rfl
      · rw [z1] at y1; cases y1
    · rcases es_get n3 k with ⟨y1, y2⟩ | ⟨a2, v2, u2, y1, y2, y3⟩
      · rw [z1] at y1; cases y1
      · rw [z2, y2] <;> rfl
  rw [e2]
theorem pe_getN (hu : X.A.units + 100 < cLine) {o e f : Expr} {to te tf : TE} {apos cpos : Pos} (ho : PE X o to) (he : PE X e te) (hf : PE X f tf) (m : M2 X o "get" apos e f cpos) :
    PE X (.Call (.Attribute o "get" apos) [e, f] [] cpos) (fun σ H Q => to σ H fun x H1 => ∃ D, x = .ref D ∧ (∃ F es kvs, HasD X H1 F D es kvs) ∧ te σ H1 fun y H2 => tf σ H2 fun z H3 => ∃ F es kvs k d, HasD X H3 F D es kvs ∧ KeyD X.K F y k ∧ Dp X.K F z d ∧ ∀ v, Dp X.K F v ((kvGet kvs k).getD d) → Q v H3) := by
  refine ⟨fun pins s σ H Q I h => ?_⟩
  refine wpAny_Call_method m.base m.few m.line PySem.F.plainAttrs_dict PySem.F.slot_dict_get PySem.F.type_dict_get (thn (ho.run pins s σ H _ I h) fun u s1 ⟨x, H1, I1, rx, D, ex, hasD, q1⟩ => ?_)
  subst ex
  have eu : u = Value.ref D := rx
  subst eu
  obtain ⟨F, es, kvs, h1, h2, h3⟩ := hasD
  obtain ⟨n1, n2, xs, n3, n4⟩ := dict_at I1 h2 h1 h3
  refine ⟨n4.typeIs, fun b q => ?_, ?_⟩
  · cases q
    obtain ⟨ob, _, _, k1, k2, _⟩ := n4
    exact ⟨ob, k1, k2.2.1⟩
  rw [m.trees]
  refine Calls.callWith_builtin rfl (Calls.evalArgs_plain (Calls.spliced_cons (thn (he.run pins s1 σ H1 _ I1 q1) fun iv s2 ⟨y, H2, I2, ry, q2⟩ =>
    Calls.spliced_cons (thn (hf.run pins s2 σ H2 _ I2 q2) fun fv s3 ⟨z, H3, I3, rz, F', es', kvs', k, d, ⟨g1, g2, g3⟩, hk, hd, q3⟩ => Calls.spliced_nil ?_))))
  obtain ⟨a, rfl, rfl, hkey⟩ := key_is I3 g2 hk ry
  obtain ⟨m1, m2, ys, m3, m4⟩ := dict_at I3 g2 g1 g3
  refine call_meetsIn PySem.F.slot_dict_get m4.typeIs PySem.F.entry_dict_get (PySem.F.args_dict_get_3 _ _ _) (meetsH_dict_get_default (nestedKind X.prog X.w) D a m1 fv) ⟨room_nk hu, k, ys, hkey, m4, ?_⟩
  rcases kv_get g3 k with ⟨z1, z2⟩ | ⟨a1, v1, d1, z1, z2, z3⟩
  · rcases es_get m3 k with ⟨y1, y2⟩ | ⟨a2, v2, u2, y1, y2, y3⟩
    · rw [z2] at q3
      rw [y2]
      exact ⟨z, H3, I3.tok _, rz, q3 z hd⟩
    · rw [z1] at y1; cases y1
  · rcases es_get m3 k with ⟨y1, y2⟩ | ⟨a2, v2, u2, y1, y2, y3⟩
    · rw [z1] at y1; cases y1
    · rw [z1] at y1
      cases y1
      rw [z2] at q3
      rw [y2]
      exact ⟨v1, H3, I3.tok _, y3, q3 v1 z3⟩
theorem pe_newN {pos : Pos} : PE X (.Dict [] [] pos) (fun _ H Q => ∀ D, H D = none → Q (.ref D) (upd H D (dictHO X.prog X.w D []))) := ⟨fun pins s σ H Q I h =>
  wpAny_Dict_empty ⟨.ref s.heap.objs.size, _, I.laid (a := s.heap.objs.size) (o := dictHO X.prog X.w s.heap.objs.size []) (t' := s.toks) (fun _ _ q => Heap.get?_push_of_some _ q) (Nat.le_refl _)
    (dict_ok (xs := []) (beq_eq_false_iff_ne.mpr (Ne.symm (Nat.ne_of_lt I.big))) (Nat.zero_le _) List.nodup_nil .nil (Heap.DictOfH.new s.heap)), rfl, h _ (I.hok.fresh (Nat.le_refl _))⟩⟩
end
section
variable {X : Cx} {u k : Nat} {e a b c o : Expr} {ρ ρ' : List SV} {μ μ1 μ2 μ3 μ' : List MO} {d d1 d2 d3 : PyData} {pos p p2 p3 q : Pos} {x y z : Str} {kvs : KV} {key : NestedKey} {as : List Addr}
theorem hasD_of {B : Bs} {F H : Hp} {σ : L2.St} {kk : Nat} {D : Addr} (R : SR X B F H σ ρ μ as) (e1 : as[kk]? = some D) (hm : μ[kk]? = some (.m kvs)) : F D = none ∧ ∃ es, HasD X H F D es kvs := by
  obtain ⟨a', e3, h1, es, h2, h3⟩ := R.mu kk _ hm
  rw [e1] at e3
  have e3' := Option.some.inj e3
  subst e3'
  exact ⟨h1, es, h2, R.fh, h3⟩
theorem keyD_of {F : Hp} {v : V} {ks : List NestedKey} (h : Dp X.K F v d) (e : (NestedKey.tup ks).data = d) (hd : (NestedKey.tup ks).depth ≤ 8) : KeyD X.K F v (.tup ks) := by
  subst e
  have h' : Dp X.K F v (.tuple (NestedKey.datas ks)) := h
  obtain ⟨a, xs, rfl, _, _⟩ := h'.tup_inv
  exact ⟨a, rfl, hd, h⟩
theorem room100 (hr : Room k X.A) : X.A.units + 100 < cLine := by
  have := hr.un
  omega
/-- d.get(k, x) -/
theorem ev_dget (i : Nat) {kk : Nat} {ks : List NestedKey} {apos cpos : Pos} (hr : Room k X.A) (hρ : ρ[i]? = some (.h kk)) (hm0 : μ[kk]? = some (.m kvs)) (ha : EV X a ρ μ d1 μ) (hb : EV X b ρ μ d2 μ) (hk : (NestedKey.tup ks).data = d1) (hd : (NestedKey.tup ks).depth ≤ 8) (hN : X.N[i]? = some x := by kernel_rfl) (hv : visB X.env.scope x = true := by kernel_rfl)
    (h1 : attributeBase (.Name x p) "get" X.env (eval (.Name x p) X.env) = eval (.Name x p) X.env := by kernel_rfl)
    (h2 : ((backTo cpos (starEach [a, b] X.env)).all (fun x => !x.1) && (backToKw cpos (keywordEach [] X.env)).all (fun x => x.1.isSome) && decide (([a, b] : List Expr).length + ([] : List Keyword).length + (if ([] : List Keyword).isEmpty then 0 else 1) < 30)) = true := by kernel_rfl)
    (h3 : (apos.endLine == cpos.line) = true := by kernel_rfl) (h4 : backTo cpos (starEach [a, b] X.env) = [(false, eval a X.env), (false, eval b X.env)] := by kernel_rfl) :
    EV X (.Call (.Attribute (.Name x p) "get" apos) [a, b] [] cpos) ρ μ ((kvGet kvs (.tup ks)).getD d2) μ := .mk fun B F H σ as R Q q => by
  obtain ⟨D, e1, e2⟩ := R.sl i _ hρ
  obtain ⟨hF, es, hD⟩ := hasD_of R e1 hm0
  refine wpE_of (pe_getN (room100 hr) (pe_var hN (visB_vis hv) (visB_d hv) (visB_c hv)) (peW (e := a)) (peW (e := b)) ⟨h1, h2, h3, h4⟩) ⟨_, e2, D, rfl, ⟨F, es, kvs, hD⟩, ha.run B F H σ as R _ fun v F1 H1 R1 g1 dv => hb.run B F1 H1 σ as R1 _ fun w F2 H2 R2 g2 dw => ?_⟩
  obtain ⟨_, es2, hD2⟩ := hasD_of R2 e1 hm0
  exact ⟨F2, es2, kvs, .tup ks, d2, hD2, keyD_of (dv.up g2.ff) hk hd, dw, fun v' z => q v' F2 H2 R2 (g1.trans g2) z⟩
/-- d[k] -/
theorem ev_dix (i : Nat) {kk : Nat} {ks : List NestedKey} (hr : Room k X.A) (hρ : ρ[i]? = some (.h kk)) (ha : EV X a ρ μ d1 μ1) (hm : μ1[kk]? = some (.m kvs)) (hk : (NestedKey.tup ks).data = d1) (hd : (NestedKey.tup ks).depth ≤ 8) (hg : kvGet kvs (.tup ks) = some d) (hN : X.N[i]? = some x := by kernel_rfl) (hv : visB X.env.scope x = true := by kernel_rfl)
    (hs : PlainIx a := by exact fun _ _ => rfl) : EV X (.Subscript (.Name x p) a pos) ρ μ d μ1 := .mk fun B F H σ as R Q q => by
  obtain ⟨D, e1, e2⟩ := R.sl i _ hρ
  refine wpE_of (pe_ix (ix_N (room100 hr)) (pe_var hN (visB_vis hv) (visB_d hv) (visB_c hv)) (peW (e := a)) hs) ⟨_, e2, ha.run B F H σ as R _ fun v F1 H1 R1 g1 dv => ?_⟩
  obtain ⟨_, es2, hD2⟩ := hasD_of R1 e1 hm
  exact ⟨D, F1, es2, kvs, .tup ks, d, rfl, hD2, keyD_of dv hk hd, hg, fun v' z => q v' F1 H1 R1 g1 z⟩
/-- k not in d -/
theorem tv_dnotin (i : Nat) {kk : Nat} {ks : List NestedKey} (hr : Room k X.A) (hρ : ρ[i]? = some (.h kk)) (ha : EV X a ρ μ d1 μ1) (hm : μ1[kk]? = some (.m kvs)) (hk : (NestedKey.tup ks).data = d1) (hd : (NestedKey.tup ks).depth ≤ 8) (hN : X.N[i]? = some x := by kernel_rfl) (hv : visB X.env.scope x = true := by kernel_rfl)
    (h1 : behindInMarks .NotIn (.Name x p) = false := by kernel_rfl) : TV X (.Compare a [.NotIn] [.Name x p] pos) ρ μ (!(kvGet kvs (.tup ks)).isSome) μ1 := .mk fun B F H σ as R Q q => by
  obtain ⟨D, e1, e2⟩ := R.sl i _ hρ
  refine wpT_of (pt_cmp (pc_notinN (room100 hr) (peW (e := a)) (pe_var hN (visB_vis hv) (visB_d hv) (visB_c hv))) h1) (ha.run B F H σ as R _ fun v F1 H1 R1 g1 dv => ⟨_, e2, ?_⟩)
  obtain ⟨_, es2, hD2⟩ := hasD_of R1 e1 hm
  exact ⟨D, F1, es2, kvs, .tup ks, rfl, hD2, keyD_of dv hk hd, _, rfl, q F1 H1 R1 g1⟩
/-- d[k] = e -/
theorem sj_dset (i : Nat) {kk : Nat} {ks : List NestedKey} (hr : Room k X.A) (he : EV X e ρ μ d μ1) (hρ : ρ[i]? = some (.h kk)) (ha : EV X a ρ μ1 d1 μ2) (hm : μ2[kk]? = some (.m kvs)) (hk : (NestedKey.tup ks).data = d1) (hd : (NestedKey.tup ks).depth ≤ 8) (hz : kvs.length ≤ 1000000) (hN : X.N[i]? = some x := by kernel_rfl) (hv : visB X.env.scope x = true := by kernel_rfl)
    (hA : ∀ v, assign (.Subscript (.Name x p) a p2) X.env v = (do
      let ov ← holding [v] (eval (.Name x p) X.env)
      let iv ← holding [v, ov] (eval a X.env)
      standAt p2
      holding [v, ov, iv] (setItem ov iv v)
      release [v, ov, iv] []) := by intro _; kernel_rfl)
    (hs : swapsWithSole [.Subscript (.Name x p) a p2] e pos.line X.env = pure false := by kernel_rfl) (hw : swappedStores [.Subscript (.Name x p) a p2] e X.env = pure none := by kernel_rfl) (h1 : (assignEach [.Subscript (.Name x p) a p2] X.env).map (·.2) = [assign (.Subscript (.Name x p) a p2) X.env] := by kernel_rfl) :
    SJ X u (.Assign [.Subscript (.Name x p) a p2] e pos) ρ μ (.nx ρ (μ2.set kk (.m (kvSet kvs (.tup ks) d)))) := .mk fun B F H σ as R hW D q => by
  obtain ⟨r, e1, e2⟩ := R.sl i _ hρ
  refine wpS_of (ps_asg (peW (e := e)) (pg_sub (pe_var hN (visB_vis hv) (visB_d hv) (visB_c hv)) (peW (e := a)) (set_N (room100 hr)) hA) hs hw h1) (he.run B F H σ as R _ fun v F1 H1 R1 g1 dv => ⟨_, e2, ha.run B F1 H1 σ as R1 _ fun w F2 H2 R2 g2 dw => ?_⟩)
  obtain ⟨hF, es2, hD2⟩ := hasD_of R2 e1 hm
  refine ⟨r, F2, es2, kvs, .tup ks, d, rfl, hD2, keyD_of dw hk hd, dv.up g2.ff, ?_, fun es' z => q F2 _ σ as (R2.change e1 hF ⟨hF, es', upd_same, z⟩) (List.prefix_refl _)⟩
  have := paired_len hD2.2.2
  rw [sizeLine_eq]
  omega
theorem SR.ownm {B : Bs} {F1 H1 : Hp} {σ : L2.St} {i : Nat} {D : Addr} (R1 : SR X B F1 H1 σ ρ μ' as) (hD : H1 D = none) :
    SR X B F1 (upd H1 D (dictHO X.prog X.w D [])) (σ.set i (some (.ref D))) (ρ.set i (.h μ'.length)) (μ' ++ [.m []]) (as ++ [D]) :=
  (R1.up (same_new hD)).own (by rw [upd_same]; simp) (R1.freeB hD) (R1.freeA hD) ⟨R1.freeF hD, [], upd_same, .nil⟩
/-- x = {} -/
theorem sj_dict (i : Nat) (nd : X.N.Nodup) (hi : X.N[i]? = some x := by kernel_rfl) (hx : locB X.fn X.env.scope x = true := by kernel_rfl) (hs : swapsWith (.Dict [] [] p2) (some (.Name x p)) pos.line X.env = pure false := by kernel_rfl) :
    SJ X u (.Assign [.Name x p] (.Dict [] [] p2) pos) ρ μ (.nx (ρ.set i (.h μ.length)) (μ ++ [.m []])) := .mk fun B F H σ as R hW D q =>
  wpS_of (ps_set nd hi (locB_loc hx) pe_newN hs (locB_fn hx)) fun D' hD => q F _ _ _ (SR.ownm R hD) (List.prefix_append _ _)
/-- x, y, z = a, {}, c -/
theorem sj_par3M (i j l : Nat) {px py pz pt : Pos} {kt k2 pt2} (nd : X.N.Nodup) (h : EV X a ρ μ d1 μ1) (hc3 : EV X c ρ μ1 d3 μ1) (hij : i ≠ j := by decide) (hil : i ≠ l := by decide) (hjl : j ≠ l := by decide) (hw : swappedStores [.Tuple [.Name x px, .Name y py, .Name z pz] kt pt] (.Tuple [a, .Dict [] [] p2, c] k2 pt2) X.env = pure (some [x, y, z]) := by kernel_rfl)
    (hi : X.N[i]? = some x := by kernel_rfl) (hj : X.N[j]? = some y := by kernel_rfl) (hl : X.N[l]? = some z := by kernel_rfl) (hx : X.env.scope.names.lookup x = some .local := by kernel_rfl) (hy : X.env.scope.names.lookup y = some .local := by kernel_rfl) (hz : X.env.scope.names.lookup z = some .local := by kernel_rfl) (hc : X.calm = true := by kernel_rfl)
    (hs : swapsWithSole [.Tuple [.Name x px, .Name y py, .Name z pz] kt pt] (.Tuple [a, .Dict [] [] p2, c] k2 pt2) pos.line X.env = pure false := by kernel_rfl)
    (he : starEach [a, .Dict [] [] p2, c] X.env = (false, eval a X.env) :: starEach [.Dict [] [] p2, c] X.env := by kernel_rfl) (he2 : starEach [.Dict [] [] p2, c] X.env = (false, eval (.Dict [] [] p2) X.env) :: starEach [c] X.env := by kernel_rfl) (he3 : starEach [c] X.env = (false, eval c X.env) :: starEach [] X.env := by kernel_rfl) :
    SJ X u (.Assign [.Tuple [.Name x px, .Name y py, .Name z pz] kt pt] (.Tuple [a, .Dict [] [] p2, c] k2 pt2) pos) ρ μ (.nx (((ρ.set i (.d d1)).set l (.d d3)).set j (.h μ1.length)) (μ1 ++ [.m []])) := .mk fun B F H σ as R hW D q =>
  wpS_of (ps_par3 hc nd hi hj hl hij hil hjl hx hy hz (pa_cons (peW (e := a)) (pa_cons pe_newN (pa_cons (peW (e := c)) pa_nil he3) he2) he) hw hs) (h.run B F H σ as R _ fun v F1 H1 R1 g1 dv => fun D' hD =>
    hc3.run B F1 _ σ as (R1.up (same_new hD)) _ fun w F2 H2 R2 g2 dw => ⟨v, _, w, rfl, by
      have hA := R1.freeA hD
      have h2 : H2 D' = some (dictHO X.prog X.w D' []) := g2.hk D' _ hA upd_same
      have h3 : F2 D' = none := g2.nm D' (by rw [upd_same]; simp) (R1.freeF hD)
      have R3 := ((R2.store (i := i) (dv.up g2.ff)).store (i := l) dw).own (i := j) (p := D') (m := .m []) (by rw [h2]; simp) (R1.freeB hD) hA ⟨h3, [], h2, .nil⟩
      rw [List.set_comm _ _ (Ne.symm hjl)] at R3
      exact q F2 H2 _ _ R3 (List.prefix_append _ _)⟩)
end
end DW

/-! Dw11: sorted over lists and own dicts, tuples at any depth, empty ones too. -/
namespace DW
open PySem PySem.Spec PyProof.Rows L2

/-! ### tuples as sorting compares them, empty ones too -/
section
variable {prog : Program} {w : World} {A : Around} {E : Value → Shared → Prop} {s : Shared}
theorem call_tuple_ltX {Q : Value → Shared → Prop} {l b : Addr} {items items2 : Array Value} {e r : Nat → Bool} (hl : s.heap.IsTuple l items) (hb : s.heap.IsTuple b items2)
    (he : ∀ j (h1 : j < items.size) (h2 : j < items2.size), SeqAt.EqAt A.in1 s items[j] items2[j] (e j)) (hr : ∀ j (h1 : j < items.size) (h2 : j < items2.size), e j = false → SeqAt.RcLt A.in1 s items[j] items2[j] (r j))
    (h : Q (.bool (SeqAt.firstLt e r (decide (items.size < items2.size)) (List.range (min items.size items2.size)))) s) : wpAny (model prog w) A (call (.builtin "tuple.__lt__") [.ref l, .ref b]) Q E s := by
  obtain ⟨⟨cls, dd, data, sl⟩, ho, hc, n, hd⟩ := id hl
  obtain ⟨⟨cls2, dd2, data2, sl2⟩, ho2, hc2, n2, hd2⟩ := id hb
  simp only at hc hd hc2 hd2
  subst hc hd hc2 hd2
  exact call_meets F.slot_tuple_lt ⟨_, ho, rfl⟩ F.entry_tuple_lt (F.args_tuple_lt_2 _ _) (SeqAt.tuple_ltAt l b items items2 n n2 dd dd2 sl sl2 e r) ⟨ho, ho2, he, hr, h⟩
theorem oneLt_tup {xs ys : List PyData} {a b : Value} {as bs : List Addr} {Q : Bool → Shared → Prop} (ra : Reads s.heap a (.tuple xs) as) (rb : Reads s.heap b (.tuple ys) bs) (h : W.alike (.tuple xs) (.tuple ys) = true)
    (hu : A.units + min (PyData.tuple xs).depth (PyData.tuple ys).depth < cLine) (hq : Q (W.dataLt (.tuple xs) (.tuple ys)) s) : wpAny (model prog w) A (oneLt' true a b) Q E s := by
  have hal : W.alikeAll xs ys = true := by simpa [W.alike] using h
  cases ra with
  | @tuple l o vs n _ as₁ h1 h2 h3 h4 =>
    cases rb with
    | @tuple l' o' vs' n' _ bs₁ k1 k2 k3 k4 =>
      have n1 : vs.size = xs.length := by simpa using SeqAt.ReadsAll.length _ _ _ h4
      have n2 : vs'.size = ys.length := by simpa using SeqAt.ReadsAll.length _ _ _ k4
      rw [W.dataLt_tuple, ← W.firstLt_toks xs ys hal, ← n1, ← n2] at hq
      rw [oneLt'_eq]
      simp only [if_true]
      refine wpAny_bind (wpAny_cRoomFor (SeqAt.room_here hu) ?_)
      refine wpAny_bind (wpAny_callSpecialIfBound?_slot (T := "tuple") ⟨_, h1, h2⟩ F.slot_tuple_lt (call_tuple_ltX (e := SeqAt.pairEq xs ys) (r := fun j => W.dataLt (xs.getD j .none) (ys.getD j .none)) ⟨_, h1, h2, _, h3⟩ ⟨_, k1, k2, _, k3⟩ (fun j j1 j2 => ?_) (fun j j1 j2 hj => ?_) ?_))
      · have := W.eqAt_alikeAll xs ys A.in1 s vs.toList vs'.toList _ _ h4 k4 hal (SeqAt.room_in hu) j (by simpa using j1) (by simpa using j2)
        simpa using this
      · have := W.rcLt_alikeAll xs ys A.in1 s vs.toList vs'.toList _ _ h4 k4 hal (SeqAt.room_in hu) j (by simpa using j1) (by simpa using j2) hj
        simpa using this
      · exact wpAny_truthy_bool hq
def tupFull : PyData → Bool
  | .tuple (_ :: _) => true
  | _ => false
theorem firsts_any {M : Model} : ∀ {vs : List Value} {ds : List PyData}, PySem.W.EachIs (fun v d => ∃ as, Reads s.heap v d as) vs ds → (∀ d ∈ ds, ∃ xs, d = .tuple xs) → ∃ fs : List (Option Value), fs.map (·.isSome) = ds.map tupFull ∧ ∀ {Q : List (Option Value) → Shared → Prop}, Q fs s → wpAny M A (vs.mapM firstOfTuple') Q E s
  | _, _, .nil, _ => ⟨[], rfl, fun {Q} h => by rw [List.mapM_nil]; exact wpAny_pure h⟩
  | v :: vs, d :: ds, .cons ⟨as, r⟩ t, ht => by
    obtain ⟨fs, h1, h2⟩ := firsts_any t fun d hd => ht d (List.mem_cons_of_mem _ hd)
    obtain ⟨xs, rfl⟩ := ht d (List.mem_cons_self ..)
    cases r with
    | @tuple a o its n _ _ ho hc hd hr =>
      refine ⟨its[0]? :: fs, ?_, fun {Q} h => ?_⟩
      · rw [List.map_cons, List.map_cons, h1]
        have e : (its[0]?).isSome = tupFull (.tuple xs) := by
          rw [← Array.getElem?_toList]
          cases q : its.toList with
          | nil => rw [q] at hr; cases hr; rfl
          | cons f fr => rw [q] at hr; cases hr; rfl
        rw [e]
      · rw [List.mapM_cons]
        refine wpAny_bind ?_
        rw [W.kas_first_eq]
        refine wpAny_bind (PySem.W.Looks.here (show PySem.W.Looks M s.heap (typeOf (.ref a)) o.cls from (PySem.W.Looks.ld ho).andThen .now) ?_)
        rw [hc, if_neg (by first | decide | simp)]
        exact wpAny_bind (listItems_at ho hd (wpAny_pure (wpAny_bind (h2 (Q := fun bs s' => wpAny M A (pure (its[0]? :: bs)) Q E s') (wpAny_pure h)))))
/-- tuples of alike data can be sorted -/
theorem sortsAt_tups {vs : List Value} {ds : List PyData} (e : PySem.W.EachIs (fun v d => ∃ as, Reads s.heap v d as) vs ds) (hal : W.AllAlike ds) (ht : ∀ d ∈ ds, ∃ xs, d = .tuple xs) (hu : ∀ d, d ∈ ds → A.units + d.depth < cLine) : W.SortsAt prog w A s (W.dataKind s.heap ds) vs := by
  by_cases hf : ds.all tupFull = true
  · refine W.SortsAt.data e hal (.inl fun d hd => ?_) hu
    obtain ⟨xs, rfl⟩ := ht d hd
    have q := List.all_eq_true.mp hf _ hd
    cases xs with
    | nil => cases q
    | cons x r => exact ⟨x, r, rfl⟩
  · have room : ∀ {d d' : PyData}, d ∈ ds → A.units + min d.depth d'.depth < cLine := fun {d d'} hd => Nat.lt_of_le_of_lt (Nat.add_le_add_left (Nat.min_le_left _ _) _) (hu d hd)
    have keys : ∀ v, v ∈ vs → ∃ a, (W.dataKind s.heap ds).keyOf v = some a := fun v hv => by
      obtain ⟨d, hd, as, r⟩ := e.left v hv
      exact ⟨_, W.dataKind_some hal hd r⟩
    have hnone : ∀ xs : List PyData, PyData.tuple xs ≠ .none := fun xs z => by cases z
    refine ⟨keys, ?_⟩
    by_cases h1 : (ds.map tupFull)[0]? = some true
    · refine ⟨general', fun E x y a b Q ha hb hq => ?_, fun h2 E Q hq => ?_⟩
      · obtain ⟨d, as, hd, ra, rfl⟩ := W.dataKind_inv ha
        obtain ⟨d', as', hd', rb, rfl⟩ := W.dataKind_inv hb
        obtain ⟨xs, rfl⟩ := ht d hd
        exact W.oneLt_alike (f := false) (fun z => by cases z) ra rb (hal _ hd d' hd') (hnone xs) (room hd) hq
      · obtain ⟨fs, g1, g2⟩ := firsts_any (M := model prog w) (A := A) (E := E) e ht
        rw [keyKind'_eq, List.mapM_toArray, map_eq_pure_bind]
        refine wpAny_bind (wpAny_bind (g2 (wpAny_pure ?_)))
        have a1 : (fs.toArray.all fun x => x.isSome) = false := by
          rw [List.all_toArray]
          have : (fs.map (·.isSome)).all id = ds.all tupFull := by rw [g1, List.all_map]; rfl
          rw [List.all_map] at this
          rw [show (fs.all fun x => x.isSome) = fs.all (id ∘ fun x => x.isSome) from rfl, this]
          simpa using hf
        rw [a1, if_neg Bool.false_ne_true]
        have a2 : ((fs.toArray[0]?).bind id).isSome = true := by
          rw [← g1, List.getElem?_map] at h1
          rw [List.getElem?_toArray]
          cases q : fs[0]? with
          | none => rw [q] at h1; cases h1
          | some o =>
            rw [q] at h1
            exact Option.some.inj h1
        rw [if_pos a2]
        exact wpAny_pure hq
    · refine ⟨oneType', fun E x y a b Q ha hb hq => ?_, fun h2 E Q hq => ?_⟩
      · obtain ⟨d, as, hd, ra, rfl⟩ := W.dataKind_inv ha
        obtain ⟨d', as', hd', rb, rfl⟩ := W.dataKind_inv hb
        obtain ⟨xs, rfl⟩ := ht d hd
        obtain ⟨ys, rfl⟩ := ht d' hd'
        exact oneLt_tup ra rb (hal _ hd _ hd') (room hd) hq
      · obtain ⟨fs, g1, g2⟩ := firsts_any (M := model prog w) (A := A) (E := E) e ht
        rw [keyKind'_eq, List.mapM_toArray, map_eq_pure_bind]
        refine wpAny_bind (wpAny_bind (g2 (wpAny_pure ?_)))
        have a1 : (fs.toArray.all fun x => x.isSome) = false := by
          rw [List.all_toArray]
          have : (fs.map (·.isSome)).all id = ds.all tupFull := by rw [g1, List.all_map]; rfl
          rw [List.all_map] at this
          rw [show (fs.all fun x => x.isSome) = fs.all (id ∘ fun x => x.isSome) from rfl, this]
          simpa using hf
        rw [a1, if_neg Bool.false_ne_true]
        have a2 : ¬ ((fs.toArray[0]?).bind id).isSome = true := fun z => by
          apply h1
          rw [← g1, List.getElem?_map]
          rw [List.getElem?_toArray] at z
          cases q : fs[0]? with
          | none => rw [q] at z; cases z
          | some o =>
            rw [q] at z
            exact congrArg some z
        rw [if_neg a2]
        obtain ⟨v₁, v₂, rest, rfl⟩ : ∃ v₁ v₂ rest, vs = v₁ :: v₂ :: rest := by
          match vs, h2 with
          | [], h2 => simp at h2
          | [_], h2 => simp at h2
          | v₁ :: v₂ :: rest, _ => exact ⟨v₁, v₂, rest, rfl⟩
        have hT : ∀ v ∈ v₁ :: v₂ :: rest, PySem.W.Looks (model prog w) s.heap (typeOf v) (.type "tuple") := fun v hv => by
          obtain ⟨d, hd, as, r⟩ := e.left v hv
          obtain ⟨xs, rfl⟩ := ht d hd
          exact W.looks_reads r
        rw [oneTypeOnly'_eq, List.mapM_toArray, map_eq_pure_bind]
        refine wpAny_bind (wpAny_bind (wpAny_bind (W.kas_mapM (r := .type "tuple") _ (fun v hv Q' hq => (hT v hv).here hq) (wpAny_pure ?_))))
        have hall : ((List.map (fun _ => Value.type "tuple") (v₁ :: v₂ :: rest)).toArray.all fun x => x == Value.type "tuple") = true := by
          simp only [List.all_toArray, List.all_map, List.all_eq_true]
          intro _ _
          exact beq_self_eq_true _
        have h0 : (List.map (fun _ => Value.type "tuple") (v₁ :: v₂ :: rest)).toArray[0]? = some (.type "tuple") := by simp
        rw [h0]
        simp only [hall, if_true]
        exact wpAny_pure (wpAny_pure hq)
end

/-! ### sorted, over data -/
/-- sorted data -/
def sortD (ds : List PyData) : List PyData := ds.mergeSort (PySem.W.dataLe false id)
structure TupsD (ds : List PyData) : Prop where
  al : PySem.W.AllAlike ds
  tu : ∀ d ∈ ds, ∃ xs, d = .tuple xs
  dp : ∀ d ∈ ds, d.depth ≤ 50
abbrev RvD (K : PySem.W.Frag) (F : Hp) (u : Value) (d : PyData) : Prop := ∃ x, RelV x u ∧ Dp K F x d
section
variable {K : PySem.W.Frag} {F : Hp}
theorem each_rv : ∀ {ds : List PyData} {vs : List V} {us : List Value}, DpAll K F vs ds → Vals vs us → PySem.W.EachIs (RvD K F) us ds
  | [], _, _, h, r => by cases h; cases r; exact .nil
  | _ :: ds, _, _, h, r => by
    cases h with
    | cons h1 h2 =>
      cases r with
      | cons r1 r2 => exact .cons ⟨_, r1, h1⟩ (each_rv h2 r2)
theorem rv_back : ∀ {us : List Value} {ds : List PyData}, PySem.W.EachIs (RvD K F) us ds → ∃ vs, Vals vs us ∧ DpAll K F vs ds
  | _, _, .nil => ⟨[], .nil, .nil⟩
  | _, _, .cons ⟨x, r, h⟩ t => by
    obtain ⟨vs, h1, h2⟩ := rv_back t
    exact ⟨x :: vs, .cons r h1, .cons h h2⟩
end
section
variable {X : Cx} {pins : List (Addr × Obj)} {σ : L2.St} {F H : Hp} {s : Shared}
theorem each_reads (I : Inv X pins σ H s) (fh : Same F H) {us : List Value} {ds : List PyData} (e : PySem.W.EachIs (RvD X.K F) us ds) : PySem.W.EachIs (fun v d => ∃ as, Reads s.heap v d as) us ds :=
  e.mono fun v d ⟨x, r, h⟩ => L2.Dp.reads I d x v (h.up fh) r
def rSortL (K : PySem.W.Frag) : List V → Hp → VK → Prop := fun vs H Q => ∃ F a xs ds, vs = [V.ref a] ∧ Same F H ∧ SqL K H a xs ∧ DpAll K F xs ds ∧ TupsD ds ∧ ∀ p ys, H p = none → DpAll K F ys (sortD ds) → Q (.ref p) (upd H p (.lst ys))
theorem room_sort {A : Around} (hu : A.units + 100 < cLine) {ds : List PyData} (t : TupsD ds) : ∀ d, d ∈ ds → A.units + 2 + d.depth < cLine := fun d hd => by
  have := t.dp d hd
  omega
theorem cr_sortL (hu : X.A.units + 100 < cLine) : CallR X (.builtin "sorted") (rSortL X.K) := by
  intro pins s σ H vs us Q I r h
  obtain ⟨F, a, xs, ds, rfl, fh, hs, hd, t, q⟩ := h
  obtain ⟨its, rv, hl, hz⟩ := I.list hs
  obtain ⟨u, rfl, ru⟩ := vals1 r
  obtain rfl : u = Value.ref a := ru
  have er := each_rv hd rv
  have e1 := each_reads I fh er
  have e2 : PySem.W.EachIs (fun v b => ∃ as, Reads (PySem.W.sortingHeap (PySem.W.copyHeap s.heap its) (s.heap.objs.size + 1) its) v b as) its ds := e1.mono fun _ _ ⟨as, r⟩ => ⟨as, PyProof.Rows.Reads.keeps (fun _ _ => PySem.W.sorting_copy_old) r⟩
  have S := sortsAt_tups (prog := X.prog) (w := X.w) (A := X.A.in1.in1) (s := { s with heap := PySem.W.sortingHeap (PySem.W.copyHeap s.heap its) (s.heap.objs.size + 1) its }) e2 t.al t.tu (fun d hd => by
    have := t.dp d hd
    have e : X.A.in1.in1.units = X.A.units + 2 := rfl
    omega)
  refine PySem.W.sorted_vals hl.isList S (by rw [← rv.length]; exact hz) ?_
  have er3 := PySem.W.sortVals_data (h' := PySem.W.sortingHeap (PySem.W.copyHeap s.heap its) (s.heap.objs.size + 1) its) (enc := fun d : PyData => d) false er e2 (by simpa using t.al)
  have er4 : PySem.W.EachIs (RvD X.K F) (PySem.W.sortVals (PySem.W.dataKind (PySem.W.sortingHeap (PySem.W.copyHeap s.heap its) (s.heap.objs.size + 1) its) ds) false its its) (sortD ds) := by
    have e : List.map (fun d : PyData => d) ds = ds := List.map_id' ds
    rw [e] at er3
    exact er3
  obtain ⟨ys, y1, y2⟩ := rv_back er4
  obtain ⟨n, hn⟩ := sortedAll_at s.heap its (PySem.W.sortVals (PySem.W.dataKind (PySem.W.sortingHeap (PySem.W.copyHeap s.heap its) (s.heap.objs.size + 1) its) ds) false its its).toArray
  have hd1 : s.heap.objs.size ≤ s.heap.objs.size + 1 := Nat.le_succ _
  refine ⟨.ref (s.heap.objs.size + 1), upd H (s.heap.objs.size + 1) (.lst ys), I.laid (t' := s.toks) (fun b o e => sortedAll_old e) hd1 ⟨?_, _, n, y1, hn⟩, rfl, q _ ys (I.hok.fresh hd1) y2⟩
  rw [y1.length, PySem.W.sortVals_length false rfl, ← rv.length]
  exact hz
/-- sorted(d), d an own dict -/
def rSortN (X : Cx) : List V → Hp → VK → Prop := fun vs H Q => ∃ F D es kvs, vs = [V.ref D] ∧ HasD X H F D es kvs ∧ TupsD (kvs.map fun p => p.1.data) ∧ ∀ p ys, H p = none → DpAll X.K F ys (sortD (kvs.map fun p => p.1.data)) → Q (.ref p) (upd H p (.lst ys))
theorem keys_rv {xs : List (NestedKey × Addr × Value)} {es : List DE} {kvs : KV} (h : Paired EnR es xs) (he : Paired (EntOk X.K F) es kvs) : PySem.W.EachIs (RvD X.K F) (xs.map fun x => Value.ref x.2.1) (kvs.map fun p => p.1.data) := by
  induction h generalizing kvs with
  | nil => cases he; exact .nil
  | @cons p q l m r t ih =>
    cases he with
    | cons z1 z2 =>
      refine .cons ⟨.ref p.2.1, ?_, z1.2.2.1⟩ (ih z2)
      have e : p.2.1 = q.2.1 := r.2.1
      show Value.ref q.2.1 = Value.ref p.2.1
      rw [e]
theorem cr_sortN (hu : X.A.units + 100 < cLine) (hc : X.calm = true) : CallR X (.builtin "sorted") (rSortN X) := by
  intro pins s σ H vs us Q I r h
  obtain ⟨F, D, es, kvs, rfl, ⟨h1, h2, h3⟩, t, q⟩ := h
  obtain ⟨u, rfl, ru⟩ := vals1 r
  obtain rfl : u = Value.ref D := ru
  obtain ⟨n1, n2, xs, n3, n4⟩ := dict_at I h2 h1 h3
  obtain ⟨o, ents, ep, k1, k2, k3, k4, k5, k6⟩ := id n4
  have hraw : s.heap.DictRaw D ents ep := ⟨o, k1, k2, k3⟩
  have hsz : ents.size = xs.length := by rw [← Array.length_toList, k4, List.length_map]
  have hlen : ents.size ≤ sizeLine := by rw [hsz, ← paired_len n3]; exact n2
  refine Calls.call_function_entry PyProof.Rows.kind_sorted PyProof.Rows.plain_sorted PyProof.Rows.entry_sorted (PyProof.Rows.args_sorted1 _) ?_
  unfold Builtin.«sorted»
  refine wpAny_bind (m := checkCount "sorted" 1 1 _) (wpAny_pure ?_)
  refine wpAny_bind (PySem.W.kdu_collect (A := X.A.in1) (KdlSrc.rawDict n1) (I.ok.hd hc) hraw hlen fun h' tk acc hk hacc => ?_)
  have eacc : acc.toList = xs.map fun x => Value.ref x.2.1 := by
    apply List.ext_getElem?
    intro j
    rw [Array.getElem?_toList]
    by_cases hj : j < acc.size
    · obtain ⟨hi, e⟩ := hacc.2 j acc[j] (by simp [hj])
      have e2 : ents[j]? = (xs[j]?).map (entryOfKey (nestedKind X.prog X.w)) := entry_at k4 j
      have hjx : j < xs.length := by rw [← hsz]; exact hi
      have e3 : ents[j] = entryOfKey (nestedKind X.prog X.w) xs[j] := by
        have : some ents[j] = some (entryOfKey (nestedKind X.prog X.w) xs[j]) := by
          rw [← Array.getElem?_eq_getElem hi, e2, List.getElem?_eq_getElem hjx] <;> rfl
        exact Option.some.inj this
      rw [Array.getElem?_eq_getElem hj, e, List.getElem?_map, List.getElem?_eq_getElem hjx, e3]
      rfl
    · rw [Array.getElem?_eq_none (by omega), List.getElem?_eq_none (by rw [List.length_map, ← hsz, ← hacc.1]; omega)]
  have I1 : Inv X pins σ H { s with heap := h', toks := tk } := I.kept hk
  have er0 : PySem.W.EachIs (RvD X.K F) acc.toList (kvs.map fun p => p.1.data) := by rw [eacc]; exact keys_rv n3 h3
  have hl : acc.toList.length ≤ sizeLine := by rw [Array.length_toList, hacc.1]; exact hlen
  generalize hits : acc.toList = its at er0 hl
  generalize hds : (kvs.map fun p => p.1.data) = ds at er0 t q
  refine wpAny_bind (wpAny_newList ?_ hl)
  have ho : (h'.push (seqObj "list" its.toArray 0)).get? h'.objs.size = some (seqObj "list" its.toArray 0) := Heap.get?_push_size _ rfl
  have e1 := each_reads I1 h2 er0
  have old : ∀ b ob, h'.get? b = some ob → (PySem.W.sortingHeap (h'.push (seqObj "list" its.toArray 0)) h'.objs.size its).get? b = some ob := fun b ob e => PySem.W.sortingHeap_old (Nat.ne_of_lt (Heap.lt_size e)) (Heap.get?_push_of_some _ e)
  have e2 : PySem.W.EachIs (fun v b => ∃ as, Reads (PySem.W.sortingHeap (h'.push (seqObj "list" its.toArray 0)) h'.objs.size its) v b as) its ds := e1.mono fun _ _ ⟨as, r⟩ => ⟨as, PyProof.Rows.Reads.keeps old r⟩
  have S := sortsAt_tups (prog := X.prog) (w := X.w) (A := X.A.in1.in1) (s := { s with heap := PySem.W.sortingHeap (h'.push (seqObj "list" its.toArray 0)) h'.objs.size its, toks := tk }) e2 t.al t.tu (fun d hd => by
    have := t.dp d hd
    have e : X.A.in1.in1.units = X.A.units + 2 := rfl
    omega)
  have er3 := PySem.W.sortVals_data (h' := PySem.W.sortingHeap (h'.push (seqObj "list" its.toArray 0)) h'.objs.size its) (enc := fun d : PyData => d) false er0 e2 (by simpa using t.al)
  have er4 : PySem.W.EachIs (RvD X.K F) (PySem.W.sortVals (PySem.W.dataKind (PySem.W.sortingHeap (h'.push (seqObj "list" its.toArray 0)) h'.objs.size its) ds) false its its) (sortD ds) := by
    have e : List.map (fun d : PyData => d) ds = ds := List.map_id' ds
    rw [e] at er3
    exact er3
  obtain ⟨ys, y1, y2⟩ := rv_back er4
  show wpAny _ _ _ _ _ { s with heap := h'.push (seqObj "list" its.toArray 0), toks := tk }
  refine wpAny_bind (wpAny_holding (wpAny_call_entry PySem.F.slot_list_sort ⟨_, ho, rfl⟩ PyProof.Rows.entry_list_sort (PySem.W.list_sort_vals (A := X.A.in1.in1) (s := { s with heap := h'.push (seqObj "list" its.toArray 0), toks := tk }) ho S hl ⟨_, rfl, ?_⟩) (PyProof.Rows.args_list_sort _)))
  refine wpAny_pure ⟨_, rfl, ?_⟩
  obtain ⟨n, hn⟩ := sortedHeap_at (vs := its) (out := (PySem.W.sortVals (PySem.W.dataKind (PySem.W.sortingHeap (h'.push (seqObj "list" its.toArray 0)) h'.objs.size its) ds) false its its).toArray) ho
  refine ⟨.ref h'.objs.size, upd H h'.objs.size (.lst ys), I1.laid (t' := tk) (fun b ob e => ?_) (Nat.le_refl _) ⟨?_, _, n, y1, hn⟩, rfl, q _ ys (I1.hok.fresh (Nat.le_refl _)) y2⟩
  · rw [sortedHeap_old (Nat.ne_of_lt (Heap.lt_size e)) (by rw [size_push']; exact Nat.lt_succ_of_lt (Heap.lt_size e))]
    exact Heap.get?_push_of_some _ e
  · rw [y1.length, PySem.W.sortVals_length false rfl]
    exact hl
end
section
variable {X : Cx} {k : Nat} {e a b : Expr} {ρ ρ' : List SV} {μ μ1 μ2 μ' : List MO} {d d1 d2 : PyData} {ds : List PyData} {pos p p2 : Pos} {x : Str} {kvs : KV} {as : List Addr}
theorem ef_sortL (hr : Room k X.A) (hm : X.mg "sorted" = none) (h : LV X e ρ μ ds μ') (t : TupsD ds) (hg : Gl X "sorted" := by unfold Gl; kernel_rfl) (he : starEach [e] X.env = (false, eval e X.env) :: starEach [] X.env := by kernel_rfl) : EF X (.Call (.Name "sorted" p) [e] [] pos) ρ μ (sortD ds) μ' := .mk fun B F H σ as R Q q =>
  wp_callB (he := he) (cr_sortL (room100 hr)) hg hm (by decide +kernel) (wp_one (h.run B F H σ as R _ fun a vs F1 H1 R1 g1 h1 h2 => ⟨F1, a, vs, ds, rfl, R1.fh, h1, h2, t, fun p ys hp hy => let z := done_lst R1 g1 hp; q p ys F1 _ z.1 z.2.1 z.2.2.1 z.2.2.2.1 z.2.2.2.2 hy⟩) he)
theorem ef_sortN (i : Nat) {kk : Nat} (hr : Room k X.A) (hm : X.mg "sorted" = none) (hρ : ρ[i]? = some (.h kk)) (hm0 : μ[kk]? = some (.m kvs)) (t : TupsD (kvs.map fun p => p.1.data)) (hN : X.N[i]? = some x := by kernel_rfl) (hv : visB X.env.scope x = true := by kernel_rfl) (hc : X.calm = true := by kernel_rfl)
    (hg : Gl X "sorted" := by unfold Gl; kernel_rfl) (he : starEach [.Name x p2] X.env = (false, eval (.Name x p2) X.env) :: starEach [] X.env := by kernel_rfl) : EF X (.Call (.Name "sorted" p) [.Name x p2] [] pos) ρ μ (sortD (kvs.map fun p => p.1.data)) μ := .mk fun B F H σ as R Q q => by
  obtain ⟨D, e1, e2⟩ := R.sl i _ hρ
  obtain ⟨hF, es, hD⟩ := hasD_of R e1 hm0
  refine wpE_of (pe_callB (he := he) (cr_sortN (room100 hr) hc) hg hm (by decide +kernel) (pa_cons (pe_var hN (visB_vis hv) (visB_d hv) (visB_c hv)) pa_nil he)) ⟨_, e2, F, D, es, kvs, rfl, hD, t, fun p ys hp hy => ?_⟩
  have z := done_lst R Gr.refl hp (vs := ys)
  exact q p ys F _ z.1 z.2.1 z.2.2.1 z.2.2.2.1 z.2.2.2.2 hy
end
end DW

/-! Dw12: list + list, list * k, tuple * k; sorted(set(tuples of ints)). -/
namespace DW
open PySem PySem.Spec PyProof.Rows L2
section
variable {X : Cx} {k : Nat} {e a b : Expr} {ρ ρ' : List SV} {μ μ1 μ2 μ' : List MO} {d d1 d2 : PyData} {ds xs ys : List PyData} {pos p p2 : Pos} {x : Str} {as : List Addr}
/-- list + list, as a new list -/
theorem ef_add (ha : EV X a ρ μ (.list xs) μ1) (hb : EV X b ρ μ1 (.list ys) μ2) (hz : xs.length + ys.length ≤ 1000000) : EF X (.BinOp a .Add b pos) ρ μ (xs ++ ys) μ2 :=
  ef_bin op_catLs (fun F H v1 v2 fh h1 h2 Q q => by
    obtain ⟨l, vs, rfl, h3, h4⟩ := h1.lst_inv
    obtain ⟨r, ws, rfl, h5, h6⟩ := h2.lst_inv
    exact ⟨l, r, vs, ws, rfl, rfl, sql_mono fh h3, sql_mono fh h5, by rw [h4.len, h6.len, sizeLine_eq]; omega, fun p hp => q p _ hp (h4.app h6)⟩) ha hb
theorem dp_flatten {K : PySem.W.Frag} {F : Hp} {vs : List V} (h : DpAll K F vs xs) : ∀ n : Nat, DpAll K F (List.replicate n vs).flatten (List.replicate n xs).flatten
  | 0 => .nil
  | n + 1 => by
    rw [List.replicate_succ, List.replicate_succ, List.flatten_cons, List.flatten_cons]
    exact h.app (dp_flatten h n)
theorem flat_len {α : Type} (ys : List α) : ∀ n : Nat, (List.replicate n ys).flatten.length = n * ys.length
  | 0 => by simp
  | n + 1 => by rw [List.replicate_succ, List.flatten_cons, List.length_append, flat_len ys n, Nat.succ_mul]; omega
/-- a new list * k -/
theorem ef_rep {n : Int} (ha : EF X a ρ μ xs μ1) (hb : EV X b ρ μ1 (.int n) μ1) (h0 : 0 ≤ n) (h1 : n ≤ 1000) (hz : xs.length ≤ 1000) : EF X (.BinOp a .Mult b pos) ρ μ (List.replicate n.toNat xs).flatten μ1 := .mk fun B F H σ as R Q q =>
  wpE_of (pe_op op_rep (peW (e := a)) (peW (e := b))) (ha.run B F H σ as R _ fun p vs F1 H1 R1 g1 z1 z2 z3 z4 => hb.run B F1 H1 σ as R1 _ fun w F2 H2 R2 g2 dw => by
    have hA : p ∉ as := R.freeA z1
    have h3 : H2 p = some (.lst vs) := g2.hk p _ hA z3
    refine ⟨p, n, vs, rfl, dw.int_inv, h3, by omega, by omega, ?_, fun l hl => ?_⟩
    · rw [z4.len, sizeLine_eq]
      have : xs.length * n.toNat ≤ 1000 * 1000 := Nat.mul_le_mul hz (by omega)
      omega
    · have z := done_lst R2 (g1.trans g2) hl (vs := (List.replicate n.toNat vs).flatten)
      exact q l _ F2 _ z.1 z.2.1 z.2.2.1 z.2.2.2.1 z.2.2.2.2 (dp_flatten (z4.up g2.ff) _))
/-- tuple * k -/
theorem ev_repT {n : Int} (ha : EV X a ρ μ (.tuple xs) μ1) (hb : EV X b ρ μ1 (.int n) μ2) (hne : xs ≠ []) (h0 : 0 ≤ n) (h1 : n ≤ 1000) (hz : xs.length ≤ 1000) : EV X (.BinOp a .Mult b pos) ρ μ (.tuple (List.replicate n.toNat xs).flatten) μ2 :=
  ev_bin op_repA (fun F H v1 v2 fh k1 k2 Q q => by
    obtain ⟨l, vs, rfl, h3, h4⟩ := k1.tup_inv
    refine ⟨l, n, vs, rfl, k2.int_inv, sqt_mono fh h3, fun e => hne ?_, h0, h1, by rw [h4.len]; exact hz, fun e => ?_, fun e p hp => ?_⟩
    · have := h4.len
      rw [e] at this
      exact List.eq_nil_of_length_eq_zero this.symm
    · subst e
      have e1 : (List.replicate (1 : Int).toNat xs).flatten = xs := by simp
      rw [e1] at q
      exact q _ F H New.refl (.tup h3 h4)
    · exact q _ _ _ (New.mk hp) (.tup (.inl (.inl upd_same)) ((dp_flatten h4 _).up (same_new (freeS fh hp))))) ha hb
end
end DW
namespace DW
open PySem PySem.Spec PyProof.Rows L2
/-! ### sorted(set(xs)), tuples of d ints in [0, B) -/
abbrev tI (ns : List Int) : PyData := .tuple (ns.map .int)
structure SetSort (B : Int) (zs ys : List (List Int)) : Prop where
  nd : ys.Nodup
  mem : ∀ k, k ∈ ys ↔ k ∈ zs
  srt : ys.Pairwise fun q r => TS.code B q ≤ TS.code B r
open Classical in
noncomputable def sortSet (B : Int) (zs : List (List Int)) : List (List Int) := if h : ∃ ys, SetSort B zs ys then h.choose else []
theorem sortSet_ok {B : Int} {zs ys : List (List Int)} (h : SetSort B zs ys) : SetSort B zs (sortSet B zs) := by
  have e : ∃ ys, SetSort B zs ys := ⟨ys, h⟩
  unfold sortSet
  rw [dif_pos e]
  exact e.choose_spec
theorem code_inj {B : Int} : ∀ {r q : List Int}, r.length = q.length → TS.Bd B r → TS.Bd B q → TS.code B r = TS.code B q → r = q
  | [], [], _, _, _, _ => rfl
  | [], _ :: _, h, _, _, _ => by simp at h
  | _ :: _, [], h, _, _, _ => by simp at h
  | d :: r, e :: q, hl, hr, hq, h => by
    have hl' : r.length = q.length := by simpa using hl
    have hr' : TS.Bd B r := fun m hm => hr m (List.mem_cons_of_mem _ hm)
    have hq' : TS.Bd B q := fun m hm => hq m (List.mem_cons_of_mem _ hm)
    rcases Int.lt_trichotomy d e with z | z | z
    · have := TS.code_lt hl' hr' hq' z
      omega
    · subst z
      have n1 : ¬ TS.code B r < TS.code B q := fun w => by have := (TS.code_same (B := B) (d := d) hl').mpr w; omega
      have n2 : ¬ TS.code B q < TS.code B r := fun w => by have := (TS.code_same (B := B) (d := d) hl'.symm).mpr w; omega
      rw [code_inj hl' hr' hq' (by omega)]
    · have := TS.code_lt hl'.symm hq' hr' z
      omega
theorem setSort_eq {B : Int} {d : Nat} {zs : List (List Int)} (hB : ∀ z ∈ zs, z.length = d ∧ TS.Bd B z) : ∀ {ys ys' : List (List Int)}, ys.Nodup → ys'.Nodup → (∀ k, k ∈ ys ↔ k ∈ ys') → (∀ k ∈ ys, k ∈ zs) → ys.Pairwise (fun q r => TS.code B q ≤ TS.code B r) → ys'.Pairwise (fun q r => TS.code B q ≤ TS.code B r) → ys = ys'
  | [], [], _, _, _, _, _, _ => rfl
  | [], y :: _, _, _, h, _, _, _ => absurd ((h y).mpr List.mem_cons_self) (by simp)
  | y :: _, [], _, _, h, _, _, _ => absurd ((h y).mp List.mem_cons_self) (by simp)
  | y :: ys, y' :: ys', n, n', h, hz, s, s' => by
    have le1 : TS.code B y ≤ TS.code B y' := by
      rcases List.mem_cons.mp ((h y').mpr List.mem_cons_self) with e | e
      · rw [e]; exact Int.le_refl _
      · exact (List.pairwise_cons.mp s).1 y' e
    have le2 : TS.code B y' ≤ TS.code B y := by
      rcases List.mem_cons.mp ((h y).mp List.mem_cons_self) with e | e
      · rw [e]; exact Int.le_refl _
      · exact (List.pairwise_cons.mp s').1 y e
    have m1 := hB y (hz y List.mem_cons_self)
    have m2 := hB y' (hz y' ((h y').mpr List.mem_cons_self))
    have e : y = y' := code_inj (m1.1.trans m2.1.symm) m1.2 m2.2 (by omega)
    subst e
    have e2 : ys = ys' := setSort_eq hB (List.nodup_cons.mp n).2 (List.nodup_cons.mp n').2 (fun k => ⟨fun hk => by
      rcases List.mem_cons.mp ((h k).mp (List.mem_cons_of_mem _ hk)) with e | e
      · subst e; exact absurd hk (List.nodup_cons.mp n).1
      · exact e, fun hk => by
      rcases List.mem_cons.mp ((h k).mpr (List.mem_cons_of_mem _ hk)) with e | e
      · subst e; exact absurd hk (List.nodup_cons.mp n').1
      · exact e⟩) (fun k hk => hz k (List.mem_cons_of_mem _ hk)) (List.pairwise_cons.mp s).2 (List.pairwise_cons.mp s').2
    rw [e2]
theorem sortSet_eq {B : Int} {d : Nat} {zs ys : List (List Int)} (hB : ∀ z ∈ zs, z.length = d ∧ TS.Bd B z) (h : SetSort B zs ys) : ys = sortSet B zs := by
  have h' := sortSet_ok h
  exact setSort_eq hB h.nd h'.nd (fun k => (h.mem k).trans (h'.mem k).symm) (fun k hk => (h.mem k).mp hk) h.srt h'.srt
/-- tuples of ints as they stand -/
theorem tups_at {K : PySem.W.Frag} {F : Hp} : ∀ {zs : List (List Int)} {vs : List V}, DpAll K F vs (zs.map tI) → ∃ ks : List (Addr × List Int), vs = ks.map (fun p => V.ref p.1) ∧ ks.map (·.2) = zs ∧ ∀ p ∈ ks, SqT K F p.1 (p.2.map V.int)
  | [], _, h => by
    cases h
    exact ⟨[], rfl, rfl, fun p hp => by cases hp⟩
  | z :: zs, _, h => by
    cases h with
    | cons h1 h2 =>
      obtain ⟨ks, e1, e2, e3⟩ := tups_at h2
      obtain ⟨a, xs, rfl, h3, h4⟩ := h1.tup_inv
      have e := h4.ints_inv
      subst e
      refine ⟨(a, z) :: ks, by rw [e1]; rfl, by rw [← e2]; rfl, fun p hp => ?_⟩
      rcases List.mem_cons.mp hp with q | hp
      · subst q; exact h3
      · exact e3 p hp
section
variable {X : Cx} {k : Nat} {e a b : Expr} {ρ ρ' : List SV} {μ μ1 μ2 μ' : List MO} {pos p p2 p3 : Pos} {as : List Addr}
theorem ef_sortSet {zs : List (List Int)} {B : Int} {d : Nat} (hr : Room k X.A) (hm : X.mg "sorted" = none) (hm2 : X.mg "set" = none) (h : LV X e ρ μ (zs.map tI) μ') (hz : zs.length < 64) (hd : 1 ≤ d) (hB : ∀ z ∈ zs, z.length = d ∧ TS.Bd B z) (hc : X.calm = true := by kernel_rfl)
    (hg : Gl X "sorted" := by unfold Gl; kernel_rfl) (hg2 : Gl X "set" := by unfold Gl; kernel_rfl) (he : starEach [.Call (.Name "set" p2) [e] [] p3] X.env = (false, eval (.Call (.Name "set" p2) [e] [] p3) X.env) :: starEach [] X.env := by kernel_rfl) (he2 : starEach [e] X.env = (false, eval e X.env) :: starEach [] X.env := by kernel_rfl) :
    EF X (.Call (.Name "sorted" p) [.Call (.Name "set" p2) [e] [] p3] [] pos) ρ μ ((sortSet B zs).map tI) μ' := .mk fun Bs F H σ as R Q q =>
  wp_callB (he := he) (cr_sortedT hc) hg hm (by decide +kernel) (wp_one (wp_callT (he := he2) (cr_setOfT hc (by have := room100 hr; omega)) hg2 hm2 (by decide +kernel) (wp_one (h.run Bs F H σ as R _ fun l vs F1 H1 R1 g1 h1 h2 => by
    obtain ⟨ks, e1, e2, e3⟩ := tups_at h2
    subst e1
    refine ⟨l, ks, rfl, h1, fun p hp => sqt_mono R1.fh (e3 p hp), by rw [← List.length_map (f := Prod.snd), e2]; exact hz, fun a L hn hs hall => ?_⟩
    have R2 := R1.up (same_new (o := SetTO X.prog X.w a L) hn)
    have hL : ∀ p ∈ L, p.2 ∈ zs := fun p hp => by rw [← e2]; exact List.mem_map.mpr ⟨p, hs p hp, rfl⟩
    refine ⟨a, L, d, B, rfl, upd_same, fun p hp => sqt_mono R2.fh (e3 p (hs p hp)), hd, fun p hp => hB _ (hL p hp), fun L' r pm nd few srt hr' => ?_⟩
    have hmem : ∀ k, k ∈ L'.map (·.2) ↔ k ∈ zs := fun k => by
      constructor
      · intro hk
        obtain ⟨p, hp, rfl⟩ := List.mem_map.mp hk
        exact hL p (pm.mem_iff.mp hp)
      · intro hk
        rw [← e2] at hk
        obtain ⟨p, hp, rfl⟩ := List.mem_map.mp hk
        obtain ⟨p', hp', e⟩ := List.mem_map.mp (hall p hp)
        exact List.mem_map.mpr ⟨p', pm.mem_iff.mpr hp', e⟩
    have eS : L'.map (·.2) = sortSet B zs := sortSet_eq hB ⟨nd, hmem, List.pairwise_map.mpr srt⟩
    have g2 : Gr as F1 H1 F1 (upd H1 a (SetTO X.prog X.w a L)) := ⟨same_refl, fun r o _ z => same_new hn r o z, fun r z => by
      cases u : H1 r with
      | none => exact absurd u z
      | some u' => rw [same_new hn r u' u]; simp, fun _ _ z => z⟩
    have z := done_lst R2 (g1.trans g2) hr' (vs := L'.map fun q => V.ref q.1)
    refine q r _ F1 _ z.1 z.2.1 z.2.2.1 z.2.2.2.1 z.2.2.2.2 ?_
    rw [← eS]
    have go : ∀ l : List (Addr × List Int), (∀ p ∈ l, p ∈ ks) → DpAll X.K F1 (l.map fun q => V.ref q.1) ((l.map (·.2)).map tI) := by
      intro l
      induction l with
      | nil => intro _; exact .nil
      | cons p l ih =>
        intro hl
        exact .cons (.tup (e3 p (hl p List.mem_cons_self)) (DpAll.ints _)) (ih fun p hp => hl p (List.mem_cons_of_mem _ hp))
    exact go L' fun p hp => hs p (pm.mem_iff.mp hp)) he2)) he)
end
end DW

/-! Dw13a: the two iterators, plain facts. -/
namespace DW
open PySem PySem.Spec PyProof.Rows L2
theorem mro_comb : mroOf (.type "itertools.combinations") = pure [.type "itertools.combinations", .type "object"] := by rw [mroOf_type]; kernel_rfl
theorem new_comb : typeLookup (.type "itertools.combinations") "__new__" = pure (some (.builtin "itertools.combinations.__new__")) := by rw [typeLookup_type, builtinLookup_eq_fast]; kernel_rfl
theorem sub_comb : isSubtype (.type "itertools.combinations") (.type "itertools.combinations") = pure true := by rw [isSubtype_type]; kernel_rfl
theorem init_comb : Slot "itertools.combinations" "__init__" "object.__init__" :=
  .of (owner := "object") (n := "__init__") (by rw [typeLookup_type, builtinLookup_eq_fast]; kernel_rfl) (by decide +kernel) (by decide +kernel) (by decide +kernel) (by first | exact .inl (by decide +kernel) | exact .inr (by decide +kernel)) (by rw [isSubtype_type]; kernel_rfl)
theorem iter_comb : Slot "itertools.combinations" "__iter__" "itertools.combinations.__iter__" :=
  .of (owner := "itertools.combinations") (n := "__iter__") (by rw [typeLookup_type, builtinLookup_eq_fast]; kernel_rfl) (by decide +kernel) (by decide +kernel) (by decide +kernel) (by first | exact .inl (by decide +kernel) | exact .inr (by decide +kernel)) sub_comb
theorem next_comb : Slot "itertools.combinations" "__next__" "itertools.combinations.__next__" :=
  .of (owner := "itertools.combinations") (n := "__next__") (by rw [typeLookup_type, builtinLookup_eq_fast]; kernel_rfl) (by decide +kernel) (by decide +kernel) (by decide +kernel) (by first | exact .inl (by decide +kernel) | exact .inr (by decide +kernel)) sub_comb
theorem tcall_comb (a b : Value) : checkTypeCall "itertools.combinations" ⟨[a, b], []⟩ = pure () := by kernel_rfl
theorem ncall_comb (a b : Value) : checkBuiltinCall "itertools.combinations.__new__" ⟨[.type "itertools.combinations", a, b], []⟩ = pure () := by kernel_rfl
theorem made_comb : entryFor table "itertools.combinations.__new__" = some Builtin.«itertools.combinations.__new__» := entryFor_of_tree (by kernel_rfl)
theorem step_comb : entryFor table "itertools.combinations.__next__" = some Builtin.«itertools.combinations.__next__» := entryFor_of_tree (by kernel_rfl)
theorem same_comb : entryFor table "itertools.combinations.__iter__" = some Builtin.«dict_keyiterator.__iter__» :=
  entryFor_alias (id' := "dict_keyiterator.__iter__") (by kernel_rfl) (by first | rfl | decide +kernel | (unfold String.splitOn; simp +decide [String.splitOnAux])) (by decide +kernel) (by kernel_rfl)
theorem own_comb : Manifest.owners.lookup (String.ofList (['s', 'n', 'o', 'i', 't', 'a', 'n', 'i', 'b', 'm', 'o', 'c', '.', 's', 'l', 'o', 'o', 't', 'r', 'e', 't', 'i'] : List Char).reverse) = some Manifest.sig_itertools_combinations := by kernel_rfl
theorem aiter_comb (a : Value) : argsOk "itertools.combinations.__iter__" ⟨[a], []⟩ := by
  unfold argsOk; rw [signature?_of (id := "itertools.combinations.__iter__") (n := ['_', '_', 'r', 'e', 't', 'i', '_', '_']) (o := ['s', 'n', 'o', 'i', 't', 'a', 'n', 'i', 'b', 'm', 'o', 'c', '.', 's', 'l', 'o', 'o', 't', 'r', 'e', 't', 'i']) (by kernel_rfl) own_comb]; kernel_rfl
theorem anext_comb (a : Value) : argsOk "itertools.combinations.__next__" ⟨[a], []⟩ := by
  unfold argsOk; rw [signature?_of (id := "itertools.combinations.__next__") (n := ['_', '_', 't', 'x', 'e', 'n', '_', '_']) (o := ['s', 'n', 'o', 'i', 't', 'a', 'n', 'i', 'b', 'm', 'o', 'c', '.', 's', 'l', 'o', 'o', 't', 'r', 'e', 't', 'i']) (by kernel_rfl) own_comb]; kernel_rfl
theorem bare_comb : typeHasDict (.type "itertools.combinations") = false := by decide +kernel
theorem plain_comb : plainId "itertools.combinations.__new__" = true := by decide +kernel
theorem called_comb : TypeCalled "itertools.combinations" "itertools.combinations.__new__" "object.__init__" :=
  ⟨by decide +kernel, by decide +kernel, ⟨_, _, mro_comb⟩, madeBy_type mro_comb new_comb (by decide +kernel), by decide +kernel, sub_comb, init_comb⟩
theorem nolen_comb : typeLookup (.type "itertools.combinations") "__len__" = pure none := by rw [typeLookup_type, builtinLookup_eq_fast]; kernel_rfl
theorem nohint_comb : typeLookup (.type "itertools.combinations") "__length_hint__" = pure none := by rw [typeLookup_type, builtinLookup_eq_fast]; kernel_rfl
theorem mro_perm : mroOf (.type "itertools.permutations") = pure [.type "itertools.permutations", .type "object"] := by rw [mroOf_type]; kernel_rfl
theorem new_perm : typeLookup (.type "itertools.permutations") "__new__" = pure (some (.builtin "itertools.permutations.__new__")) := by rw [typeLookup_type, builtinLookup_eq_fast]; kernel_rfl
theorem sub_perm : isSubtype (.type "itertools.permutations") (.type "itertools.permutations") = pure true := by rw [isSubtype_type]; kernel_rfl
theorem init_perm : Slot "itertools.permutations" "__init__" "object.__init__" :=
  .of (owner := "object") (n := "__init__") (by rw [typeLookup_type, builtinLookup_eq_fast]; kernel_rfl) (by decide +kernel) (by decide +kernel) (by decide +kernel) (by first | exact .inl (by decide +kernel) | exact .inr (by decide +kernel)) (by rw [isSubtype_type]; kernel_rfl)
theorem iter_perm : Slot "itertools.permutations" "__iter__" "itertools.permutations.__iter__" :=
  .of (owner := "itertools.permutations") (n := "__iter__") (by rw [typeLookup_type, builtinLookup_eq_fast]; kernel_rfl) (by decide +kernel) (by decide +kernel) (by decide +kernel) (by first | exact .inl (by decide +kernel) | exact .inr (by decide +kernel)) sub_perm
theorem next_perm : Slot "itertools.permutations" "__next__" "itertools.permutations.__next__" :=
  .of (owner := "itertools.permutations") (n := "__next__") (by rw [typeLookup_type, builtinLookup_eq_fast]; kernel_rfl) (by decide +kernel) (by decide +kernel) (by decide +kernel) (by first | exact .inl (by decide +kernel) | exact .inr (by decide +kernel)) sub_perm
theorem tcall_perm (a b : Value) : checkTypeCall "itertools.permutations" ⟨[a, b], []⟩ = pure () := by kernel_rfl
theorem ncall_perm (a b : Value) : checkBuiltinCall "itertools.permutations.__new__" ⟨[.type "itertools.permutations", a, b], []⟩ = pure () := by kernel_rfl
theorem made_perm : entryFor table "itertools.permutations.__new__" = some Builtin.«itertools.permutations.__new__» := entryFor_of_tree (by kernel_rfl)
theorem step_perm : entryFor table "itertools.permutations.__next__" = some Builtin.«itertools.permutations.__next__» := entryFor_of_tree (by kernel_rfl)
theorem same_perm : entryFor table "itertools.permutations.__iter__" = some Builtin.«dict_keyiterator.__iter__» :=
  entryFor_alias (id' := "dict_keyiterator.__iter__") (by kernel_rfl) (by first | rfl | decide +kernel | (unfold String.splitOn; simp +decide [String.splitOnAux])) (by decide +kernel) (by kernel_rfl)
theorem own_perm : Manifest.owners.lookup (String.ofList (['s', 'n', 'o', 'i', 't', 'a', 't', 'u', 'm', 'r', 'e', 'p', '.', 's', 'l', 'o', 'o', 't', 'r', 'e', 't', 'i'] : List Char).reverse) = some Manifest.sig_itertools_permutations := by kernel_rfl
theorem aiter_perm (a : Value) : argsOk "itertools.permutations.__iter__" ⟨[a], []⟩ := by
  unfold argsOk; rw [signature?_of (id := "itertools.permutations.__iter__") (n := ['_', '_', 'r', 'e', 't', 'i', '_', '_']) (o := ['s', 'n', 'o', 'i', 't', 'a', 't', 'u', 'm', 'r', 'e', 'p', '.', 's', 'l', 'o', 'o', 't', 'r', 'e', 't', 'i']) (by kernel_rfl) own_perm]; kernel_rfl
theorem anext_perm (a : Value) : argsOk "itertools.permutations.__next__" ⟨[a], []⟩ := by
  unfold argsOk; rw [signature?_of (id := "itertools.permutations.__next__") (n := ['_', '_', 't', 'x', 'e', 'n', '_', '_']) (o := ['s', 'n', 'o', 'i', 't', 'a', 't', 'u', 'm', 'r', 'e', 'p', '.', 's', 'l', 'o', 'o', 't', 'r', 'e', 't', 'i']) (by kernel_rfl) own_perm]; kernel_rfl
theorem bare_perm : typeHasDict (.type "itertools.permutations") = false := by decide +kernel
theorem plain_perm : plainId "itertools.permutations.__new__" = true := by decide +kernel
theorem called_perm : TypeCalled "itertools.permutations" "itertools.permutations.__new__" "object.__init__" :=
  ⟨by decide +kernel, by decide +kernel, ⟨_, _, mro_perm⟩, madeBy_type mro_perm new_perm (by decide +kernel), by decide +kernel, sub_perm, init_perm⟩
theorem nolen_perm : typeLookup (.type "itertools.permutations") "__len__" = pure none := by rw [typeLookup_type, builtinLookup_eq_fast]; kernel_rfl
theorem nohint_perm : typeLookup (.type "itertools.permutations") "__length_hint__" = pure none := by rw [typeLookup_type, builtinLookup_eq_fast]; kernel_rfl
end DW

/-! Dw13b: the two iterators, a turn. -/
namespace DW
open PySem PySem.Spec PyProof.Rows L2
def combT : Nat → Nat → List (List Nat)
  | _, 0 => [[]]
  | d, 1 => (List.range d).map fun n => [n]
  | 2, 2 => [[0, 1]]
  | _, _ => []
def permT : Nat → Nat → List (List Nat)
  | _, 0 => [[]]
  | d, 1 => (List.range d).map fun n => [n]
  | 2, 2 => [[0, 1], [1, 0]]
  | _, _ => []
/-- the numbers that stand in the iterator at turn i -/
def numsC (r i : Nat) : List Nat := if i ≤ 1 then List.range r else [1]
def numsP (d r i : Nat) : List Nat := if i ≤ 1 then List.range d ++ (List.range r).map (d - ·) else if r = 1 then [1, 0, 1] else [1, 0, 1, 1]
def recC (r i : Nat) (pl : Addr) (last : Value) : Obj := { cls := .type "itertools.combinations", data := .fields (.ref pl :: rawInt (if i = 0 then 0 else 1) :: last :: (numsC r i).map fun n => rawInt (n : Nat)).toArray }
def recP (d r i : Nat) (pl : Addr) (last : Value) : Obj := { cls := .type "itertools.permutations", data := .fields (.ref pl :: rawInt (if i = 0 then 0 else 1) :: rawInt (r : Nat) :: last :: (numsP d r i).map fun n => rawInt (n : Nat)).toArray }
def poolO (vs : List Value) : Obj := { cls := .type "tuple", data := .seq vs.toArray }
/-- one turn: a new tuple is out, the iterator stands on -/
def Took (s : Shared) (it : Addr) (o' : Obj) (us : List Value) (Q : Option Value → Shared → Prop) : Prop :=
  ∀ h', h'.get? it = some o' → h'.get? s.heap.objs.size = some (poolO us) → h'.objs.size = s.heap.objs.size + 1 → (∀ b o, b ≠ it → s.heap.get? b = some o → h'.get? b = some o) → Q (some (.ref s.heap.objs.size)) { s with heap := h' }
theorem ne_rec {h : Heap} {a b : Addr} {o o' : Obj} {c c' : String} (h1 : h.get? a = some o) (h2 : h.get? b = some o') (k : o.cls = .type c) (k' : o'.cls = .type c') (n : c ≠ c') : a ≠ b := fun e => by
  rw [e, h2] at h1
  have e1 := Option.some.inj h1
  rw [← e1, k'] at k
  exact n (Value.type.inj k).symm
theorem turn_fin {M : Model} {A : Around} {E : Value → Shared → Prop} {s : Shared} {it : Addr} {o : Obj} {f : Array Value → Array Value} {c b : Value} {fs1 : Array Value} {k : Nat} {o' : Value → Obj} {us : List Value} {Q : Option Value → Shared → Prop} (hi : s.heap.get? it = some o) (e1 : Obj.mapFields f o = { cls := c, data := .fields fs1 })
    (hk : k < fs1.size) (hb : fs1[k]? = some b) (e2 : ∀ v, ({ cls := c, data := .fields (fs1.setIfInBounds k v) } : Obj) = o' v) (hz : us.length ≤ 2) (hQ : Took s it (o' (.ref s.heap.objs.size)) us Q) :
    wpAny M A (newTuple us) (fun t s' => wpAny M A (field (.ref it) k >>= fun b => setField (.ref it) k t >>= fun _ => letGo [b] [t] >>= fun _ => ret t) (fun fin s' => ∃ v, fin = Fin.done (Flow.ret v) ∧ Q (some v) s') E s') E { s with heap := s.heap.update it (Obj.mapFields f) } := by
  refine wpAny_newTuple ?_ (by rw [sizeLine_eq]; omega)
  have z : (s.heap.update it (Obj.mapFields f)).objs.size = s.heap.objs.size := Heap.size_after_update ..
  have g0 := Heap.get?_update_self (Obj.mapFields f) hi (by rw [e1]; rfl)
  rw [e1] at g0
  have g1 := Heap.get?_push_of_some (poolO us) g0
  have l := Heap.lt_size hi
  refine wpAny_bind (wpAny_field g1 rfl hb ?_)
  refine wpAny_bind (wpAny_setField g1 rfl hk (wpAny_bind (wpAny_letGo (wpAny_pure ⟨_, rfl, ?_⟩))))
  have q : ∀ n, n = s.heap.objs.size → (∀ h', h'.get? it = some (o' (.ref n)) → h'.get? n = some (poolO us) → h'.objs.size = s.heap.objs.size + 1 → (∀ b o, b ≠ it → s.heap.get? b = some o → h'.get? b = some o) → Q (some (.ref n)) { s with heap := h' }) := by
    intro n hn
    subst hn
    exact hQ
  refine q _ z _ ?_ ?_ ?_ fun b o hb q => ?_
  · rw [← e2]
    exact Heap.get?_update_self _ g1 rfl
  · exact Heap.get?_update_of_ne _ (Nat.ne_of_lt (by rw [z]; exact l)) (Heap.get?_push_size (s.heap.update it (Obj.mapFields f)) rfl)
  · rw [Heap.size_after_update, Heap.size_push, z]
  · exact Heap.get?_update_of_ne _ (Ne.symm hb) (Heap.get?_push_of_some _ (Heap.get?_update_of_ne _ (Ne.symm hb) q))
theorem pool_at {M : Model} {A : Around} {E : Value → Shared → Prop} {s : Shared} {pl : Addr} {c : Value} {us : Array Value} {n : Nat} (hp : s.heap.get? pl = some { cls := c, data := .seq us n }) {Q : Array Value → Shared → Prop} (h : Q us s) : wpAny M A (Builtin.Itertools.itPoolItems (.ref pl)) Q E s := by
  unfold Builtin.Itertools.itPoolItems
  exact wpAny_bind (wpAny_seqItems hp rfl (wpAny_pure h))
theorem put_at {M : Model} {A : Around} {E : Value → Shared → Prop} {s : Shared} {it : Addr} {c : Value} {fs : Array Value} {k : Nat} {L : List Nat} (hi : s.heap.get? it = some { cls := c, data := .fields fs }) (hz : (fs.extract 0 k ++ (L.map fun (n : Nat) => rawInt n).toArray).size ≤ 10)
    {Q : Unit → Shared → Prop} (h : Q () { s with heap := s.heap.update it (Obj.mapFields fun fs => fs.extract 0 k ++ (L.map fun (n : Nat) => rawInt n).toArray) }) : wpAny M A (Builtin.Itertools.itSetNumbersFrom (.ref it) k L) Q E s := by
  unfold Builtin.Itertools.itSetNumbersFrom
  exact wpAny_updateFields hi rfl h (by rw [sizeLine_eq]; omega)
theorem end_fin {M : Model} {A : Around} {E : Value → Shared → Prop} {s : Shared} {it : Addr} {c : Value} {fs : Array Value} {Q : Fin → Shared → Prop} (hh : A.handled = none) (hi : s.heap.get? it = some { cls := c, data := .fields fs }) (hz : 1 < fs.size)
    (hQ : ∀ e h', CpRep.StopE e h' → Heap.ExtBut it s.heap h' → E e { s with heap := h' }) : wpAny M A (setField (.ref it) 1 (rawInt 2) >>= fun _ => Builtin.Itertools.itStop) Q E s := by
  refine wpAny_bind (wpAny_setField hi rfl hz ?_)
  obtain ⟨h0, g, dd, tk, os⟩ := s
  wp_walk
  simp only [raiseNew]
  refine wpAny_bind (wpAny_handled ?_)
  rw [hh]
  refine wpAny_bind (wpAny_pure (wpAny_throw ?_))
  exact hQ _ _ ⟨_, _, _, rfl, Heap.get?_push_size _ rfl, rfl, rfl, by kernel_rfl⟩ fun b o hb e => Heap.get?_push_of_some _ (Heap.get?_push_of_some _ (Heap.get?_update_of_ne _ (Ne.symm hb) e))
theorem num_at {M : Model} {A : Around} {E : Value → Shared → Prop} {s : Shared} {it : Addr} {c : Value} {fs : Array Value} {k : Nat} {L : List Nat} (hi : s.heap.get? it = some { cls := c, data := .fields fs })
    (e : ((fs.toList.drop k).map fun | .int n _ => n.toNat | _ => 0) = L) {Q : List Nat → Shared → Prop} (h : Q L s) : wpAny M A (Builtin.Itertools.itNumbersFrom (.ref it) k) Q E s := by
  unfold Builtin.Itertools.itNumbersFrom
  refine wpAny_bind (wpAny_load hi ?_)
  show wpAny M A (pure ((fs.toList.drop k).map fun | .int n _ => n.toNat | _ => 0)) Q E s
  rw [e]
  exact wpAny_pure h
theorem int_at {M : Model} {A : Around} {E : Value → Shared → Prop} {s : Shared} {it : Addr} {c : Value} {fs : Array Value} {k : Nat} {n : Int} {t : Tok} (hi : s.heap.get? it = some { cls := c, data := .fields fs })
    (e : fs[k]? = some (.int n t)) {Q : Int → Shared → Prop} (h : Q n s) : wpAny M A (Builtin.Itertools.itIntField (.ref it) k) Q E s := by
  unfold Builtin.Itertools.itIntField
  exact wpAny_bind (wpAny_field hi rfl e (wpAny_pure h))
section
variable {prog : Program} {w : World} {A : Around} {E : Value → Shared → Prop} {s : Shared} {it pl : Addr} {vs : List Value} {last : Value} {d r i : Nat}
theorem comb000 {Q : Option Value → Shared → Prop} (hi : s.heap.get? it = some (recC 0 0 pl last)) (hp : s.heap.get? pl = some (poolO []))
    (hQ : Took s it (recC 0 1 pl (.ref s.heap.objs.size)) [] Q) : wpAny (model prog w) A (callSpecial? (.ref it) "__next__") Q E s := by
  have hT : s.TypeIs (.ref it) "itertools.combinations" := ⟨_, hi, rfl⟩
  refine wpAny_callSpecial?_slot (name := Str.ofString "__next__") hT next_comb (wpAny_call_entry next_comb hT step_comb ?_ (anext_comb _))
  have hi' : s.heap.get? it = some { cls := .type "itertools.combinations", dict := none, data := .fields #[Value.ref pl, rawInt 0, last], slots := #[] } := hi
  have hp' : s.heap.get? pl = some { cls := .type "tuple", dict := none, data := .seq #[] 0, slots := #[] } := hp
  show wpAny _ _ (field (.ref it) 0 >>= _) _ _ s
  refine wpAny_bind (wpAny_field hi' rfl (x := .ref pl) rfl ?_)
  refine wpAny_bind (num_at (L := []) hi' rfl ?_)
  show wpAny _ _ (Builtin.Itertools.itIntField (.ref it) 1 >>= _) _ _ s
  refine wpAny_bind (int_at (n := 0) (t := 0) hi' rfl ?_)
  show wpAny _ _ (setField (.ref it) 1 (rawInt 1) >>= fun _ => (Builtin.Itertools.itPoolItems (.ref pl) >>= fun xs => newTuple (([] : List Nat).map fun i => xs.getD i .none)) >>= fun t => field (.ref it) 2 >>= fun b => setField (.ref it) 2 t >>= fun _ => letGo [b] [t] >>= fun _ => ret t) _ _ s
  refine wpAny_bind (wpAny_setField hi' rfl (Nat.le_of_ble_eq_true rfl) ?_)
  refine wpAny_bind (wpAny_bind (pool_at (Heap.get?_update_of_ne _ (ne_rec hi' hp' rfl rfl (by decide)) hp') ?_))
  exact turn_fin (fs1 := #[Value.ref pl, rawInt 1, last]) (us := []) hi' rfl (Nat.le_of_ble_eq_true rfl) rfl (fun _ => rfl) (Nat.le_of_ble_eq_true rfl) hQ
theorem comb00e {Q : Option Value → Shared → Prop} (hh : A.handled = none) (hi : s.heap.get? it = some (recC 0 1 pl last)) (hp : s.heap.get? pl = some (poolO []))
    (hQ : ∀ e h', CpRep.StopE e h' → Heap.ExtBut it s.heap h' → E e { s with heap := h' }) : wpAny (model prog w) A (callSpecial? (.ref it) "__next__") Q E s := by
  have hT : s.TypeIs (.ref it) "itertools.combinations" := ⟨_, hi, rfl⟩
  refine wpAny_callSpecial?_slot (name := Str.ofString "__next__") hT next_comb (wpAny_call_entry next_comb hT step_comb ?_ (anext_comb _))
  have hi' : s.heap.get? it = some { cls := .type "itertools.combinations", dict := none, data := .fields #[Value.ref pl, rawInt 1, last], slots := #[] } := hi
  have hp' : s.heap.get? pl = some { cls := .type "tuple", dict := none, data := .seq #[] 0, slots := #[] } := hp
  show wpAny _ _ (field (.ref it) 0 >>= _) _ _ s
  refine wpAny_bind (wpAny_field hi' rfl (x := .ref pl) rfl ?_)
  refine wpAny_bind (num_at (L := []) hi' rfl ?_)
  show wpAny _ _ (Builtin.Itertools.itIntField (.ref it) 1 >>= _) _ _ s
  refine wpAny_bind (int_at (n := 1) (t := 0) hi' rfl ?_)
  show wpAny _ _ (Builtin.Itertools.itPoolItems (.ref pl) >>= _) _ _ s
  refine wpAny_bind (pool_at hp' ?_)
  show wpAny _ _ (setField (.ref it) 1 (rawInt 2) >>= fun _ => Builtin.Itertools.itStop) _ _ s
  exact end_fin hh hi' (Nat.le_of_ble_eq_true rfl) hQ
theorem comb100 {u0 : Value} {Q : Option Value → Shared → Prop} (hi : s.heap.get? it = some (recC 0 0 pl last)) (hp : s.heap.get? pl = some (poolO [u0]))
    (hQ : Took s it (recC 0 1 pl (.ref s.heap.objs.size)) [] Q) : wpAny (model prog w) A (callSpecial? (.ref it) "__next__") Q E s := by
  have hT : s.TypeIs (.ref it) "itertools.combinations" := ⟨_, hi, rfl⟩
  refine wpAny_callSpecial?_slot (name := Str.ofString "__next__") hT next_comb (wpAny_call_entry next_comb hT step_comb ?_ (anext_comb _))
  have hi' : s.heap.get? it = some { cls := .type "itertools.combinations", dict := none, data := .fields #[Value.ref pl, rawInt 0, last], slots := #[] } := hi
  have hp' : s.heap.get? pl = some { cls := .type "tuple", dict := none, data := .seq #[u0] 0, slots := #[] } := hp
  show wpAny _ _ (field (.ref it) 0 >>= _) _ _ s
  refine wpAny_bind (wpAny_field hi' rfl (x := .ref pl) rfl ?_)
  refine wpAny_bind (num_at (L := []) hi' rfl ?_)
  show wpAny _ _ (Builtin.Itertools.itIntField (.ref it) 1 >>= _) _ _ s
  refine wpAny_bind (int_at (n := 0) (t := 0) hi' rfl ?_)
  show wpAny _ _ (setField (.ref it) 1 (rawInt 1) >>= fun _ => (Builtin.Itertools.itPoolItems (.ref pl) >>= fun xs => newTuple (([] : List Nat).map fun i => xs.getD i .none)) >>= fun t => field (.ref it) 2 >>= fun b => setField (.ref it) 2 t >>= fun _ => letGo [b] [t] >>= fun _ => ret t) _ _ s
  refine wpAny_bind (wpAny_setField hi' rfl (Nat.le_of_ble_eq_true rfl) ?_)
  refine wpAny_bind (wpAny_bind (pool_at (Heap.get?_update_of_ne _ (ne_rec hi' hp' rfl rfl (by decide)) hp') ?_))
  exact turn_fin (fs1 := #[Value.ref pl, rawInt 1, last]) (us := []) hi' rfl (Nat.le_of_ble_eq_true rfl) rfl (fun _ => rfl) (Nat.le_of_ble_eq_true rfl) hQ
theorem comb10e {u0 : Value} {Q : Option Value → Shared → Prop} (hh : A.handled = none) (hi : s.heap.get? it = some (recC 0 1 pl last)) (hp : s.heap.get? pl = some (poolO [u0]))
    (hQ : ∀ e h', CpRep.StopE e h' → Heap.ExtBut it s.heap h' → E e { s with heap := h' }) : wpAny (model prog w) A (callSpecial? (.ref it) "__next__") Q E s := by
  have hT : s.TypeIs (.ref it) "itertools.combinations" := ⟨_, hi, rfl⟩
  refine wpAny_callSpecial?_slot (name := Str.ofString "__next__") hT next_comb (wpAny_call_entry next_comb hT step_comb ?_ (anext_comb _))
  have hi' : s.heap.get? it = some { cls := .type "itertools.combinations", dict := none, data := .fields #[Value.ref pl, rawInt 1, last], slots := #[] } := hi
  have hp' : s.heap.get? pl = some { cls := .type "tuple", dict := none, data := .seq #[u0] 0, slots := #[] } := hp
  show wpAny _ _ (field (.ref it) 0 >>= _) _ _ s
  refine wpAny_bind (wpAny_field hi' rfl (x := .ref pl) rfl ?_)
  refine wpAny_bind (num_at (L := []) hi' rfl ?_)
  show wpAny _ _ (Builtin.Itertools.itIntField (.ref it) 1 >>= _) _ _ s
  refine wpAny_bind (int_at (n := 1) (t := 0) hi' rfl ?_)
  show wpAny _ _ (Builtin.Itertools.itPoolItems (.ref pl) >>= _) _ _ s
  refine wpAny_bind (pool_at hp' ?_)
  show wpAny _ _ (setField (.ref it) 1 (rawInt 2) >>= fun _ => Builtin.Itertools.itStop) _ _ s
  exact end_fin hh hi' (Nat.le_of_ble_eq_true rfl) hQ
theorem comb110 {u0 : Value} {Q : Option Value → Shared → Prop} (hi : s.heap.get? it = some (recC 1 0 pl last)) (hp : s.heap.get? pl = some (poolO [u0]))
    (hQ : Took s it (recC 1 1 pl (.ref s.heap.objs.size)) [u0] Q) : wpAny (model prog w) A (callSpecial? (.ref it) "__next__") Q E s := by
  have hT : s.TypeIs (.ref it) "itertools.combinations" := ⟨_, hi, rfl⟩
  refine wpAny_callSpecial?_slot (name := Str.ofString "__next__") hT next_comb (wpAny_call_entry next_comb hT step_comb ?_ (anext_comb _))
  have hi' : s.heap.get? it = some { cls := .type "itertools.combinations", dict := none, data := .fields #[Value.ref pl, rawInt 0, last, rawInt 0], slots := #[] } := hi
  have hp' : s.heap.get? pl = some { cls := .type "tuple", dict := none, data := .seq #[u0] 0, slots := #[] } := hp
  show wpAny _ _ (field (.ref it) 0 >>= _) _ _ s
  refine wpAny_bind (wpAny_field hi' rfl (x := .ref pl) rfl ?_)
  refine wpAny_bind (num_at (L := [0]) hi' rfl ?_)
  show wpAny _ _ (Builtin.Itertools.itIntField (.ref it) 1 >>= _) _ _ s
  refine wpAny_bind (int_at (n := 0) (t := 0) hi' rfl ?_)
  show wpAny _ _ (setField (.ref it) 1 (rawInt 1) >>= fun _ => (Builtin.Itertools.itPoolItems (.ref pl) >>= fun xs => newTuple (([0] : List Nat).map fun i => xs.getD i .none)) >>= fun t => field (.ref it) 2 >>= fun b => setField (.ref it) 2 t >>= fun _ => letGo [b] [t] >>= fun _ => ret t) _ _ s
  refine wpAny_bind (wpAny_setField hi' rfl (Nat.le_of_ble_eq_true rfl) ?_)
  refine wpAny_bind (wpAny_bind (pool_at (Heap.get?_update_of_ne _ (ne_rec hi' hp' rfl rfl (by decide)) hp') ?_))
  exact turn_fin (fs1 := #[Value.ref pl, rawInt 1, last, rawInt 0]) (us := [u0]) hi' rfl (Nat.le_of_ble_eq_true rfl) rfl (fun _ => rfl) (Nat.le_of_ble_eq_true rfl) hQ
theorem comb11e {u0 : Value} {Q : Option Value → Shared → Prop} (hh : A.handled = none) (hi : s.heap.get? it = some (recC 1 1 pl last)) (hp : s.heap.get? pl = some (poolO [u0]))
    (hQ : ∀ e h', CpRep.StopE e h' → Heap.ExtBut it s.heap h' → E e { s with heap := h' }) : wpAny (model prog w) A (callSpecial? (.ref it) "__next__") Q E s := by
  have hT : s.TypeIs (.ref it) "itertools.combinations" := ⟨_, hi, rfl⟩
  refine wpAny_callSpecial?_slot (name := Str.ofString "__next__") hT next_comb (wpAny_call_entry next_comb hT step_comb ?_ (anext_comb _))
  have hi' : s.heap.get? it = some { cls := .type "itertools.combinations", dict := none, data := .fields #[Value.ref pl, rawInt 1, last, rawInt 0], slots := #[] } := hi
  have hp' : s.heap.get? pl = some { cls := .type "tuple", dict := none, data := .seq #[u0] 0, slots := #[] } := hp
  show wpAny _ _ (field (.ref it) 0 >>= _) _ _ s
  refine wpAny_bind (wpAny_field hi' rfl (x := .ref pl) rfl ?_)
  refine wpAny_bind (num_at (L := [0]) hi' rfl ?_)
  show wpAny _ _ (Builtin.Itertools.itIntField (.ref it) 1 >>= _) _ _ s
  refine wpAny_bind (int_at (n := 1) (t := 0) hi' rfl ?_)
  show wpAny _ _ (Builtin.Itertools.itPoolItems (.ref pl) >>= _) _ _ s
  refine wpAny_bind (pool_at hp' ?_)
  show wpAny _ _ (setField (.ref it) 1 (rawInt 2) >>= fun _ => Builtin.Itertools.itStop) _ _ s
  exact end_fin hh hi' (Nat.le_of_ble_eq_true rfl) hQ
theorem comb200 {u0 u1 : Value} {Q : Option Value → Shared → Prop} (hi : s.heap.get? it = some (recC 0 0 pl last)) (hp : s.heap.get? pl = some (poolO [u0, u1]))
    (hQ : Took s it (recC 0 1 pl (.ref s.heap.objs.size)) [] Q) : wpAny (model prog w) A (callSpecial? (.ref it) "__next__") Q E s := by
  have hT : s.TypeIs (.ref it) "itertools.combinations" := ⟨_, hi, rfl⟩
  refine wpAny_callSpecial?_slot (name := Str.ofString "__next__") hT next_comb (wpAny_call_entry next_comb hT step_comb ?_ (anext_comb _))
  have hi' : s.heap.get? it = some { cls := .type "itertools.combinations", dict := none, data := .fields #[Value.ref pl, rawInt 0, last], slots := #[] } := hi
  have hp' : s.heap.get? pl = some { cls := .type "tuple", dict := none, data := .seq #[u0, u1] 0, slots := #[] } := hp
  show wpAny _ _ (field (.ref it) 0 >>= _) _ _ s
  refine wpAny_bind (wpAny_field hi' rfl (x := .ref pl) rfl ?_)
  refine wpAny_bind (num_at (L := []) hi' rfl ?_)
  show wpAny _ _ (Builtin.Itertools.itIntField (.ref it) 1 >>= _) _ _ s
  refine wpAny_bind (int_at (n := 0) (t := 0) hi' rfl ?_)
  show wpAny _ _ (setField (.ref it) 1 (rawInt 1) >>= fun _ => (Builtin.Itertools.itPoolItems (.ref pl) >>= fun xs => newTuple (([] : List Nat).map fun i => xs.getD i .none)) >>= fun t => field (.ref it) 2 >>= fun b => setField (.ref it) 2 t >>= fun _ => letGo [b] [t] >>= fun _ => ret t) _ _ s
  refine wpAny_bind (wpAny_setField hi' rfl (Nat.le_of_ble_eq_true rfl) ?_)
  refine wpAny_bind (wpAny_bind (pool_at (Heap.get?_update_of_ne _ (ne_rec hi' hp' rfl rfl (by decide)) hp') ?_))
  exact turn_fin (fs1 := #[Value.ref pl, rawInt 1, last]) (us := []) hi' rfl (Nat.le_of_ble_eq_true rfl) rfl (fun _ => rfl) (Nat.le_of_ble_eq_true rfl) hQ
theorem comb20e {u0 u1 : Value} {Q : Option Value → Shared → Prop} (hh : A.handled = none) (hi : s.heap.get? it = some (recC 0 1 pl last)) (hp : s.heap.get? pl = some (poolO [u0, u1]))
    (hQ : ∀ e h', CpRep.StopE e h' → Heap.ExtBut it s.heap h' → E e { s with heap := h' }) : wpAny (model prog w) A (callSpecial? (.ref it) "__next__") Q E s := by
  have hT : s.TypeIs (.ref it) "itertools.combinations" := ⟨_, hi, rfl⟩
  refine wpAny_callSpecial?_slot (name := Str.ofString "__next__") hT next_comb (wpAny_call_entry next_comb hT step_comb ?_ (anext_comb _))
  have hi' : s.heap.get? it = some { cls := .type "itertools.combinations", dict := none, data := .fields #[Value.ref pl, rawInt 1, last], slots := #[] } := hi
  have hp' : s.heap.get? pl = some { cls := .type "tuple", dict := none, data := .seq #[u0, u1] 0, slots := #[] } := hp
  show wpAny _ _ (field (.ref it) 0 >>= _) _ _ s
  refine wpAny_bind (wpAny_field hi' rfl (x := .ref pl) rfl ?_)
  refine wpAny_bind (num_at (L := []) hi' rfl ?_)
  show wpAny _ _ (Builtin.Itertools.itIntField (.ref it) 1 >>= _) _ _ s
  refine wpAny_bind (int_at (n := 1) (t := 0) hi' rfl ?_)
  show wpAny _ _ (Builtin.Itertools.itPoolItems (.ref pl) >>= _) _ _ s
  refine wpAny_bind (pool_at hp' ?_)
  show wpAny _ _ (setField (.ref it) 1 (rawInt 2) >>= fun _ => Builtin.Itertools.itStop) _ _ s
  exact end_fin hh hi' (Nat.le_of_ble_eq_true rfl) hQ
theorem comb210 {u0 u1 : Value} {Q : Option Value → Shared → Prop} (hi : s.heap.get? it = some (recC 1 0 pl last)) (hp : s.heap.get? pl = some (poolO [u0, u1]))
    (hQ : Took s it (recC 1 1 pl (.ref s.heap.objs.size)) [u0] Q) : wpAny (model prog w) A (callSpecial? (.ref it) "__next__") Q E s := by
  have hT : s.TypeIs (.ref it) "itertools.combinations" := ⟨_, hi, rfl⟩
  refine wpAny_callSpecial?_slot (name := Str.ofString "__next__") hT next_comb (wpAny_call_entry next_comb hT step_comb ?_ (anext_comb _))
  have hi' : s.heap.get? it = some { cls := .type "itertools.combinations", dict := none, data := .fields #[Value.ref pl, rawInt 0, last, rawInt 0], slots := #[] } := hi
  have hp' : s.heap.get? pl = some { cls := .type "tuple", dict := none, data := .seq #[u0, u1] 0, slots := #[] } := hp
  show wpAny _ _ (field (.ref it) 0 >>= _) _ _ s
  refine wpAny_bind (wpAny_field hi' rfl (x := .ref pl) rfl ?_)
  refine wpAny_bind (num_at (L := [0]) hi' rfl ?_)
  show wpAny _ _ (Builtin.Itertools.itIntField (.ref it) 1 >>= _) _ _ s
  refine wpAny_bind (int_at (n := 0) (t := 0) hi' rfl ?_)
  show wpAny _ _ (setField (.ref it) 1 (rawInt 1) >>= fun _ => (Builtin.Itertools.itPoolItems (.ref pl) >>= fun xs => newTuple (([0] : List Nat).map fun i => xs.getD i .none)) >>= fun t => field (.ref it) 2 >>= fun b => setField (.ref it) 2 t >>= fun _ => letGo [b] [t] >>= fun _ => ret t) _ _ s
  refine wpAny_bind (wpAny_setField hi' rfl (Nat.le_of_ble_eq_true rfl) ?_)
  refine wpAny_bind (wpAny_bind (pool_at (Heap.get?_update_of_ne _ (ne_rec hi' hp' rfl rfl (by decide)) hp') ?_))
  exact turn_fin (fs1 := #[Value.ref pl, rawInt 1, last, rawInt 0]) (us := [u0]) hi' rfl (Nat.le_of_ble_eq_true rfl) rfl (fun _ => rfl) (Nat.le_of_ble_eq_true rfl) hQ
theorem comb211 {u0 u1 : Value} {Q : Option Value → Shared → Prop} (hi : s.heap.get? it = some (recC 1 1 pl last)) (hp : s.heap.get? pl = some (poolO [u0, u1]))
    (hQ : Took s it (recC 1 2 pl (.ref s.heap.objs.size)) [u1] Q) : wpAny (model prog w) A (callSpecial? (.ref it) "__next__") Q E s := by
  have hT : s.TypeIs (.ref it) "itertools.combinations" := ⟨_, hi, rfl⟩
  refine wpAny_callSpecial?_slot (name := Str.ofString "__next__") hT next_comb (wpAny_call_entry next_comb hT step_comb ?_ (anext_comb _))
  have hi' : s.heap.get? it = some { cls := .type "itertools.combinations", dict := none, data := .fields #[Value.ref pl, rawInt 1, last, rawInt 0], slots := #[] } := hi
  have hp' : s.heap.get? pl = some { cls := .type "tuple", dict := none, data := .seq #[u0, u1] 0, slots := #[] } := hp
  show wpAny _ _ (field (.ref it) 0 >>= _) _ _ s
  refine wpAny_bind (wpAny_field hi' rfl (x := .ref pl) rfl ?_)
  refine wpAny_bind (num_at (L := [0]) hi' rfl ?_)
  show wpAny _ _ (Builtin.Itertools.itIntField (.ref it) 1 >>= _) _ _ s
  refine wpAny_bind (int_at (n := 1) (t := 0) hi' rfl ?_)
  show wpAny _ _ (Builtin.Itertools.itPoolItems (.ref pl) >>= _) _ _ s
  refine wpAny_bind (pool_at hp' ?_)
  show wpAny _ _ (Builtin.Itertools.itSetNumbersFrom (.ref it) 3 [1] >>= fun _ => (Builtin.Itertools.itPoolItems (.ref pl) >>= fun xs => newTuple (([1] : List Nat).map fun i => xs.getD i .none)) >>= fun t => field (.ref it) 2 >>= fun b => setField (.ref it) 2 t >>= fun _ => letGo [b] [t] >>= fun _ => ret t) _ _ s
  refine wpAny_bind (put_at hi' (Nat.le_of_ble_eq_true rfl) ?_)
  refine wpAny_bind (wpAny_bind (pool_at (Heap.get?_update_of_ne _ (ne_rec hi' hp' rfl rfl (by decide)) hp') ?_))
  exact turn_fin (fs1 := #[Value.ref pl, rawInt 1, last, rawInt 1]) (us := [u1]) hi' rfl (Nat.le_of_ble_eq_true rfl) rfl (fun _ => rfl) (Nat.le_of_ble_eq_true rfl) hQ
theorem comb21e {u0 u1 : Value} {Q : Option Value → Shared → Prop} (hh : A.handled = none) (hi : s.heap.get? it = some (recC 1 2 pl last)) (hp : s.heap.get? pl = some (poolO [u0, u1]))
    (hQ : ∀ e h', CpRep.StopE e h' → Heap.ExtBut it s.heap h' → E e { s with heap := h' }) : wpAny (model prog w) A (callSpecial? (.ref it) "__next__") Q E s := by
  have hT : s.TypeIs (.ref it) "itertools.combinations" := ⟨_, hi, rfl⟩
  refine wpAny_callSpecial?_slot (name := Str.ofString "__next__") hT next_comb (wpAny_call_entry next_comb hT step_comb ?_ (anext_comb _))
  have hi' : s.heap.get? it = some { cls := .type "itertools.combinations", dict := none, data := .fields #[Value.ref pl, rawInt 1, last, rawInt 1], slots := #[] } := hi
  have hp' : s.heap.get? pl = some { cls := .type "tuple", dict := none, data := .seq #[u0, u1] 0, slots := #[] } := hp
  show wpAny _ _ (field (.ref it) 0 >>= _) _ _ s
  refine wpAny_bind (wpAny_field hi' rfl (x := .ref pl) rfl ?_)
  refine wpAny_bind (num_at (L := [1]) hi' rfl ?_)
  show wpAny _ _ (Builtin.Itertools.itIntField (.ref it) 1 >>= _) _ _ s
  refine wpAny_bind (int_at (n := 1) (t := 0) hi' rfl ?_)
  show wpAny _ _ (Builtin.Itertools.itPoolItems (.ref pl) >>= _) _ _ s
  refine wpAny_bind (pool_at hp' ?_)
  show wpAny _ _ (setField (.ref it) 1 (rawInt 2) >>= fun _ => Builtin.Itertools.itStop) _ _ s
  exact end_fin hh hi' (Nat.le_of_ble_eq_true rfl) hQ
theorem comb220 {u0 u1 : Value} {Q : Option Value → Shared → Prop} (hi : s.heap.get? it = some (recC 2 0 pl last)) (hp : s.heap.get? pl = some (poolO [u0, u1]))
    (hQ : Took s it (recC 2 1 pl (.ref s.heap.objs.size)) [u0, u1] Q) : wpAny (model prog w) A (callSpecial? (.ref it) "__next__") Q E s := by
  have hT : s.TypeIs (.ref it) "itertools.combinations" := ⟨_, hi, rfl⟩
  refine wpAny_callSpecial?_slot (name := Str.ofString "__next__") hT next_comb (wpAny_call_entry next_comb hT step_comb ?_ (anext_comb _))
  have hi' : s.heap.get? it = some { cls := .type "itertools.combinations", dict := none, data := .fields #[Value.ref pl, rawInt 0, last, rawInt 0, rawInt 1], slots := #[] } := hi
  have hp' : s.heap.get? pl = some { cls := .type "tuple", dict := none, data := .seq #[u0, u1] 0, slots := #[] } := hp
  show wpAny _ _ (field (.ref it) 0 >>= _) _ _ s
  refine wpAny_bind (wpAny_field hi' rfl (x := .ref pl) rfl ?_)
  refine wpAny_bind (num_at (L := [0, 1]) hi' rfl ?_)
  show wpAny _ _ (Builtin.Itertools.itIntField (.ref it) 1 >>= _) _ _ s
  refine wpAny_bind (int_at (n := 0) (t := 0) hi' rfl ?_)
  show wpAny _ _ (setField (.ref it) 1 (rawInt 1) >>= fun _ => (Builtin.Itertools.itPoolItems (.ref pl) >>= fun xs => newTuple (([0, 1] : List Nat).map fun i => xs.getD i .none)) >>= fun t => field (.ref it) 2 >>= fun b => setField (.ref it) 2 t >>= fun _ => letGo [b] [t] >>= fun _ => ret t) _ _ s
  refine wpAny_bind (wpAny_setField hi' rfl (Nat.le_of_ble_eq_true rfl) ?_)
  refine wpAny_bind (wpAny_bind (pool_at (Heap.get?_update_of_ne _ (ne_rec hi' hp' rfl rfl (by decide)) hp') ?_))
  exact turn_fin (fs1 := #[Value.ref pl, rawInt 1, last, rawInt 0, rawInt 1]) (us := [u0, u1]) hi' rfl (Nat.le_of_ble_eq_true rfl) rfl (fun _ => rfl) (Nat.le_of_ble_eq_true rfl) hQ
theorem comb22e {u0 u1 : Value} {Q : Option Value → Shared → Prop} (hh : A.handled = none) (hi : s.heap.get? it = some (recC 2 1 pl last)) (hp : s.heap.get? pl = some (poolO [u0, u1]))
    (hQ : ∀ e h', CpRep.StopE e h' → Heap.ExtBut it s.heap h' → E e { s with heap := h' }) : wpAny (model prog w) A (callSpecial? (.ref it) "__next__") Q E s := by
  have hT : s.TypeIs (.ref it) "itertools.combinations" := ⟨_, hi, rfl⟩
  refine wpAny_callSpecial?_slot (name := Str.ofString "__next__") hT next_comb (wpAny_call_entry next_comb hT step_comb ?_ (anext_comb _))
  have hi' : s.heap.get? it = some { cls := .type "itertools.combinations", dict := none, data := .fields #[Value.ref pl, rawInt 1, last, rawInt 0, rawInt 1], slots := #[] } := hi
  have hp' : s.heap.get? pl = some { cls := .type "tuple", dict := none, data := .seq #[u0, u1] 0, slots := #[] } := hp
  show wpAny _ _ (field (.ref it) 0 >>= _) _ _ s
  refine wpAny_bind (wpAny_field hi' rfl (x := .ref pl) rfl ?_)
  refine wpAny_bind (num_at (L := [0, 1]) hi' rfl ?_)
  show wpAny _ _ (Builtin.Itertools.itIntField (.ref it) 1 >>= _) _ _ s
  refine wpAny_bind (int_at (n := 1) (t := 0) hi' rfl ?_)
  show wpAny _ _ (Builtin.Itertools.itPoolItems (.ref pl) >>= _) _ _ s
  refine wpAny_bind (pool_at hp' ?_)
  show wpAny _ _ (setField (.ref it) 1 (rawInt 2) >>= fun _ => Builtin.Itertools.itStop) _ _ s
  exact end_fin hh hi' (Nat.le_of_ble_eq_true rfl) hQ
theorem perm000 {Q : Option Value → Shared → Prop} (hi : s.heap.get? it = some (recP 0 0 0 pl last)) (hp : s.heap.get? pl = some (poolO []))
    (hQ : Took s it (recP 0 0 1 pl (.ref s.heap.objs.size)) [] Q) : wpAny (model prog w) A (callSpecial? (.ref it) "__next__") Q E s := by
  have hT : s.TypeIs (.ref it) "itertools.permutations" := ⟨_, hi, rfl⟩
  refine wpAny_callSpecial?_slot (name := Str.ofString "__next__") hT next_perm (wpAny_call_entry next_perm hT step_perm ?_ (anext_perm _))
  have hi' : s.heap.get? it = some { cls := .type "itertools.permutations", dict := none, data := .fields #[Value.ref pl, rawInt 0, rawInt 0, last], slots := #[] } := hi
  have hp' : s.heap.get? pl = some { cls := .type "tuple", dict := none, data := .seq #[] 0, slots := #[] } := hp
  show wpAny _ _ (field (.ref it) 0 >>= _) _ _ s
  refine wpAny_bind (wpAny_field hi' rfl (x := .ref pl) rfl ?_)
  refine wpAny_bind (pool_at hp' ?_)
  show wpAny _ _ (Builtin.Itertools.itIntField (.ref it) 2 >>= _) _ _ s
  refine wpAny_bind (int_at (n := 0) (t := 0) hi' rfl ?_)
  refine wpAny_bind (num_at (L := []) hi' rfl ?_)
  show wpAny _ _ (Builtin.Itertools.itIntField (.ref it) 1 >>= _) _ _ s
  refine wpAny_bind (int_at (n := 0) (t := 0) hi' rfl ?_)
  show wpAny _ _ (setField (.ref it) 1 (rawInt 1) >>= fun _ => newTuple [] >>= fun t => field (.ref it) 3 >>= fun b => setField (.ref it) 3 t >>= fun _ => letGo [b] [t] >>= fun _ => ret t) _ _ s
  refine wpAny_bind (wpAny_setField hi' rfl (Nat.le_of_ble_eq_true rfl) ?_)
  refine wpAny_bind ?_
  exact turn_fin (fs1 := #[Value.ref pl, rawInt 1, rawInt 0, last]) (us := []) hi' rfl (Nat.le_of_ble_eq_true rfl) rfl (fun _ => rfl) (Nat.le_of_ble_eq_true rfl) hQ
theorem perm00e {Q : Option Value → Shared → Prop} (hh : A.handled = none) (hi : s.heap.get? it = some (recP 0 0 1 pl last)) (hp : s.heap.get? pl = some (poolO []))
    (hQ : ∀ e h', CpRep.StopE e h' → Heap.ExtBut it s.heap h' → E e { s with heap := h' }) : wpAny (model prog w) A (callSpecial? (.ref it) "__next__") Q E s := by
  have hT : s.TypeIs (.ref it) "itertools.permutations" := ⟨_, hi, rfl⟩
  refine wpAny_callSpecial?_slot (name := Str.ofString "__next__") hT next_perm (wpAny_call_entry next_perm hT step_perm ?_ (anext_perm _))
  have hi' : s.heap.get? it = some { cls := .type "itertools.permutations", dict := none, data := .fields #[Value.ref pl, rawInt 1, rawInt 0, last], slots := #[] } := hi
  have hp' : s.heap.get? pl = some { cls := .type "tuple", dict := none, data := .seq #[] 0, slots := #[] } := hp
  show wpAny _ _ (field (.ref it) 0 >>= _) _ _ s
  refine wpAny_bind (wpAny_field hi' rfl (x := .ref pl) rfl ?_)
  refine wpAny_bind (pool_at hp' ?_)
  show wpAny _ _ (Builtin.Itertools.itIntField (.ref it) 2 >>= _) _ _ s
  refine wpAny_bind (int_at (n := 0) (t := 0) hi' rfl ?_)
  refine wpAny_bind (num_at (L := []) hi' rfl ?_)
  show wpAny _ _ (Builtin.Itertools.itIntField (.ref it) 1 >>= _) _ _ s
  refine wpAny_bind (int_at (n := 1) (t := 0) hi' rfl ?_)
  show wpAny _ _ (setField (.ref it) 1 (rawInt 2) >>= fun _ => Builtin.Itertools.itStop) _ _ s
  exact end_fin hh hi' (Nat.le_of_ble_eq_true rfl) hQ
theorem perm100 {u0 : Value} {Q : Option Value → Shared → Prop} (hi : s.heap.get? it = some (recP 1 0 0 pl last)) (hp : s.heap.get? pl = some (poolO [u0]))
    (hQ : Took s it (recP 1 0 1 pl (.ref s.heap.objs.size)) [] Q) : wpAny (model prog w) A (callSpecial? (.ref it) "__next__") Q E s := by
  have hT : s.TypeIs (.ref it) "itertools.permutations" := ⟨_, hi, rfl⟩
  refine wpAny_callSpecial?_slot (name := Str.ofString "__next__") hT next_perm (wpAny_call_entry next_perm hT step_perm ?_ (anext_perm _))
  have hi' : s.heap.get? it = some { cls := .type "itertools.permutations", dict := none, data := .fields #[Value.ref pl, rawInt 0, rawInt 0, last, rawInt 0], slots := #[] } := hi
  have hp' : s.heap.get? pl = some { cls := .type "tuple", dict := none, data := .seq #[u0] 0, slots := #[] } := hp
  show wpAny _ _ (field (.ref it) 0 >>= _) _ _ s
  refine wpAny_bind (wpAny_field hi' rfl (x := .ref pl) rfl ?_)
  refine wpAny_bind (pool_at hp' ?_)
  show wpAny _ _ (Builtin.Itertools.itIntField (.ref it) 2 >>= _) _ _ s
  refine wpAny_bind (int_at (n := 0) (t := 0) hi' rfl ?_)
  refine wpAny_bind (num_at (L := [0]) hi' rfl ?_)
  show wpAny _ _ (Builtin.Itertools.itIntField (.ref it) 1 >>= _) _ _ s
  refine wpAny_bind (int_at (n := 0) (t := 0) hi' rfl ?_)
  show wpAny _ _ (setField (.ref it) 1 (rawInt 1) >>= fun _ => newTuple [] >>= fun t => field (.ref it) 3 >>= fun b => setField (.ref it) 3 t >>= fun _ => letGo [b] [t] >>= fun _ => ret t) _ _ s
  refine wpAny_bind (wpAny_setField hi' rfl (Nat.le_of_ble_eq_true rfl) ?_)
  refine wpAny_bind ?_
  exact turn_fin (fs1 := #[Value.ref pl, rawInt 1, rawInt 0, last, rawInt 0]) (us := []) hi' rfl (Nat.le_of_ble_eq_true rfl) rfl (fun _ => rfl) (Nat.le_of_ble_eq_true rfl) hQ
theorem perm10e {u0 : Value} {Q : Option Value → Shared → Prop} (hh : A.handled = none) (hi : s.heap.get? it = some (recP 1 0 1 pl last)) (hp : s.heap.get? pl = some (poolO [u0]))
    (hQ : ∀ e h', CpRep.StopE e h' → Heap.ExtBut it s.heap h' → E e { s with heap := h' }) : wpAny (model prog w) A (callSpecial? (.ref it) "__next__") Q E s := by
  have hT : s.TypeIs (.ref it) "itertools.permutations" := ⟨_, hi, rfl⟩
  refine wpAny_callSpecial?_slot (name := Str.ofString "__next__") hT next_perm (wpAny_call_entry next_perm hT step_perm ?_ (anext_perm _))
  have hi' : s.heap.get? it = some { cls := .type "itertools.permutations", dict := none, data := .fields #[Value.ref pl, rawInt 1, rawInt 0, last, rawInt 0], slots := #[] } := hi
  have hp' : s.heap.get? pl = some { cls := .type "tuple", dict := none, data := .seq #[u0] 0, slots := #[] } := hp
  show wpAny _ _ (field (.ref it) 0 >>= _) _ _ s
  refine wpAny_bind (wpAny_field hi' rfl (x := .ref pl) rfl ?_)
  refine wpAny_bind (pool_at hp' ?_)
  show wpAny _ _ (Builtin.Itertools.itIntField (.ref it) 2 >>= _) _ _ s
  refine wpAny_bind (int_at (n := 0) (t := 0) hi' rfl ?_)
  refine wpAny_bind (num_at (L := [0]) hi' rfl ?_)
  show wpAny _ _ (Builtin.Itertools.itIntField (.ref it) 1 >>= _) _ _ s
  refine wpAny_bind (int_at (n := 1) (t := 0) hi' rfl ?_)
  show wpAny _ _ (setField (.ref it) 1 (rawInt 2) >>= fun _ => Builtin.Itertools.itStop) _ _ s
  exact end_fin hh hi' (Nat.le_of_ble_eq_true rfl) hQ
theorem perm110 {u0 : Value} {Q : Option Value → Shared → Prop} (hi : s.heap.get? it = some (recP 1 1 0 pl last)) (hp : s.heap.get? pl = some (poolO [u0]))
    (hQ : Took s it (recP 1 1 1 pl (.ref s.heap.objs.size)) [u0] Q) : wpAny (model prog w) A (callSpecial? (.ref it) "__next__") Q E s := by
  have hT : s.TypeIs (.ref it) "itertools.permutations" := ⟨_, hi, rfl⟩
  refine wpAny_callSpecial?_slot (name := Str.ofString "__next__") hT next_perm (wpAny_call_entry next_perm hT step_perm ?_ (anext_perm _))
  have hi' : s.heap.get? it = some { cls := .type "itertools.permutations", dict := none, data := .fields #[Value.ref pl, rawInt 0, rawInt 1, last, rawInt 0, rawInt 1], slots := #[] } := hi
  have hp' : s.heap.get? pl = some { cls := .type "tuple", dict := none, data := .seq #[u0] 0, slots := #[] } := hp
  show wpAny _ _ (field (.ref it) 0 >>= _) _ _ s
  refine wpAny_bind (wpAny_field hi' rfl (x := .ref pl) rfl ?_)
  refine wpAny_bind (pool_at hp' ?_)
  show wpAny _ _ (Builtin.Itertools.itIntField (.ref it) 2 >>= _) _ _ s
  refine wpAny_bind (int_at (n := 1) (t := 0) hi' rfl ?_)
  refine wpAny_bind (num_at (L := [0, 1]) hi' rfl ?_)
  show wpAny _ _ (Builtin.Itertools.itIntField (.ref it) 1 >>= _) _ _ s
  refine wpAny_bind (int_at (n := 0) (t := 0) hi' rfl ?_)
  show wpAny _ _ (setField (.ref it) 1 (rawInt 1) >>= fun _ => newTuple [u0] >>= fun t => field (.ref it) 3 >>= fun b => setField (.ref it) 3 t >>= fun _ => letGo [b] [t] >>= fun _ => ret t) _ _ s
  refine wpAny_bind (wpAny_setField hi' rfl (Nat.le_of_ble_eq_true rfl) ?_)
  refine wpAny_bind ?_
  exact turn_fin (fs1 := #[Value.ref pl, rawInt 1, rawInt 1, last, rawInt 0, rawInt 1]) (us := [u0]) hi' rfl (Nat.le_of_ble_eq_true rfl) rfl (fun _ => rfl) (Nat.le_of_ble_eq_true rfl) hQ
theorem perm11e {u0 : Value} {Q : Option Value → Shared → Prop} (hh : A.handled = none) (hi : s.heap.get? it = some (recP 1 1 1 pl last)) (hp : s.heap.get? pl = some (poolO [u0]))
    (hQ : ∀ e h', CpRep.StopE e h' → Heap.ExtBut it s.heap h' → E e { s with heap := h' }) : wpAny (model prog w) A (callSpecial? (.ref it) "__next__") Q E s := by
  have hT : s.TypeIs (.ref it) "itertools.permutations" := ⟨_, hi, rfl⟩
  refine wpAny_callSpecial?_slot (name := Str.ofString "__next__") hT next_perm (wpAny_call_entry next_perm hT step_perm ?_ (anext_perm _))
  have hi' : s.heap.get? it = some { cls := .type "itertools.permutations", dict := none, data := .fields #[Value.ref pl, rawInt 1, rawInt 1, last, rawInt 0, rawInt 1], slots := #[] } := hi
  have hp' : s.heap.get? pl = some { cls := .type "tuple", dict := none, data := .seq #[u0] 0, slots := #[] } := hp
  show wpAny _ _ (field (.ref it) 0 >>= _) _ _ s
  refine wpAny_bind (wpAny_field hi' rfl (x := .ref pl) rfl ?_)
  refine wpAny_bind (pool_at hp' ?_)
  show wpAny _ _ (Builtin.Itertools.itIntField (.ref it) 2 >>= _) _ _ s
  refine wpAny_bind (int_at (n := 1) (t := 0) hi' rfl ?_)
  refine wpAny_bind (num_at (L := [0, 1]) hi' rfl ?_)
  show wpAny _ _ (Builtin.Itertools.itIntField (.ref it) 1 >>= _) _ _ s
  refine wpAny_bind (int_at (n := 1) (t := 0) hi' rfl ?_)
  show wpAny _ _ (setField (.ref it) 1 (rawInt 2) >>= fun _ => Builtin.Itertools.itStop) _ _ s
  exact end_fin hh hi' (Nat.le_of_ble_eq_true rfl) hQ
theorem perm200 {u0 u1 : Value} {Q : Option Value → Shared → Prop} (hi : s.heap.get? it = some (recP 2 0 0 pl last)) (hp : s.heap.get? pl = some (poolO [u0, u1]))
    (hQ : Took s it (recP 2 0 1 pl (.ref s.heap.objs.size)) [] Q) : wpAny (model prog w) A (callSpecial? (.ref it) "__next__") Q E s := by
  have hT : s.TypeIs (.ref it) "itertools.permutations" := ⟨_, hi, rfl⟩
  refine wpAny_callSpecial?_slot (name := Str.ofString "__next__") hT next_perm (wpAny_call_entry next_perm hT step_perm ?_ (anext_perm _))
  have hi' : s.heap.get? it = some { cls := .type "itertools.permutations", dict := none, data := .fields #[Value.ref pl, rawInt 0, rawInt 0, last, rawInt 0, rawInt 1], slots := #[] } := hi
  have hp' : s.heap.get? pl = some { cls := .type "tuple", dict := none, data := .seq #[u0, u1] 0, slots := #[] } := hp
  show wpAny _ _ (field (.ref it) 0 >>= _) _ _ s
  refine wpAny_bind (wpAny_field hi' rfl (x := .ref pl) rfl ?_)
  refine wpAny_bind (pool_at hp' ?_)
  show wpAny _ _ (Builtin.Itertools.itIntField (.ref it) 2 >>= _) _ _ s
  refine wpAny_bind (int_at (n := 0) (t := 0) hi' rfl ?_)
  refine wpAny_bind (num_at (L := [0, 1]) hi' rfl ?_)
  show wpAny _ _ (Builtin.Itertools.itIntField (.ref it) 1 >>= _) _ _ s
  refine wpAny_bind (int_at (n := 0) (t := 0) hi' rfl ?_)
  show wpAny _ _ (setField (.ref it) 1 (rawInt 1) >>= fun _ => newTuple [] >>= fun t => field (.ref it) 3 >>= fun b => setField (.ref it) 3 t >>= fun _ => letGo [b] [t] >>= fun _ => ret t) _ _ s
  refine wpAny_bind (wpAny_setField hi' rfl (Nat.le_of_ble_eq_true rfl) ?_)
  refine wpAny_bind ?_
  exact turn_fin (fs1 := #[Value.ref pl, rawInt 1, rawInt 0, last, rawInt 0, rawInt 1]) (us := []) hi' rfl (Nat.le_of_ble_eq_true rfl) rfl (fun _ => rfl) (Nat.le_of_ble_eq_true rfl) hQ
theorem perm20e {u0 u1 : Value} {Q : Option Value → Shared → Prop} (hh : A.handled = none) (hi : s.heap.get? it = some (recP 2 0 1 pl last)) (hp : s.heap.get? pl = some (poolO [u0, u1]))
    (hQ : ∀ e h', CpRep.StopE e h' → Heap.ExtBut it s.heap h' → E e { s with heap := h' }) : wpAny (model prog w) A (callSpecial? (.ref it) "__next__") Q E s := by
  have hT : s.TypeIs (.ref it) "itertools.permutations" := ⟨_, hi, rfl⟩
  refine wpAny_callSpecial?_slot (name := Str.ofString "__next__") hT next_perm (wpAny_call_entry next_perm hT step_perm ?_ (anext_perm _))
  have hi' : s.heap.get? it = some { cls := .type "itertools.permutations", dict := none, data := .fields #[Value.ref pl, rawInt 1, rawInt 0, last, rawInt 0, rawInt 1], slots := #[] } := hi
  have hp' : s.heap.get? pl = some { cls := .type "tuple", dict := none, data := .seq #[u0, u1] 0, slots := #[] } := hp
  show wpAny _ _ (field (.ref it) 0 >>= _) _ _ s
  refine wpAny_bind (wpAny_field hi' rfl (x := .ref pl) rfl ?_)
  refine wpAny_bind (pool_at hp' ?_)
  show wpAny _ _ (Builtin.Itertools.itIntField (.ref it) 2 >>= _) _ _ s
  refine wpAny_bind (int_at (n := 0) (t := 0) hi' rfl ?_)
  refine wpAny_bind (num_at (L := [0, 1]) hi' rfl ?_)
  show wpAny _ _ (Builtin.Itertools.itIntField (.ref it) 1 >>= _) _ _ s
  refine wpAny_bind (int_at (n := 1) (t := 0) hi' rfl ?_)
  show wpAny _ _ (setField (.ref it) 1 (rawInt 2) >>= fun _ => Builtin.Itertools.itStop) _ _ s
  exact end_fin hh hi' (Nat.le_of_ble_eq_true rfl) hQ
theorem perm210 {u0 u1 : Value} {Q : Option Value → Shared → Prop} (hi : s.heap.get? it = some (recP 2 1 0 pl last)) (hp : s.heap.get? pl = some (poolO [u0, u1]))
    (hQ : Took s it (recP 2 1 1 pl (.ref s.heap.objs.size)) [u0] Q) : wpAny (model prog w) A (callSpecial? (.ref it) "__next__") Q E s := by
  have hT : s.TypeIs (.ref it) "itertools.permutations" := ⟨_, hi, rfl⟩
  refine wpAny_callSpecial?_slot (name := Str.ofString "__next__") hT next_perm (wpAny_call_entry next_perm hT step_perm ?_ (anext_perm _))
  have hi' : s.heap.get? it = some { cls := .type "itertools.permutations", dict := none, data := .fields #[Value.ref pl, rawInt 0, rawInt 1, last, rawInt 0, rawInt 1, rawInt 2], slots := #[] } := hi
  have hp' : s.heap.get? pl = some { cls := .type "tuple", dict := none, data := .seq #[u0, u1] 0, slots := #[] } := hp
  show wpAny _ _ (field (.ref it) 0 >>= _) _ _ s
  refine wpAny_bind (wpAny_field hi' rfl (x := .ref pl) rfl ?_)
  refine wpAny_bind (pool_at hp' ?_)
  show wpAny _ _ (Builtin.Itertools.itIntField (.ref it) 2 >>= _) _ _ s
  refine wpAny_bind (int_at (n := 1) (t := 0) hi' rfl ?_)
  refine wpAny_bind (num_at (L := [0, 1, 2]) hi' rfl ?_)
  show wpAny _ _ (Builtin.Itertools.itIntField (.ref it) 1 >>= _) _ _ s
  refine wpAny_bind (int_at (n := 0) (t := 0) hi' rfl ?_)
  show wpAny _ _ (setField (.ref it) 1 (rawInt 1) >>= fun _ => newTuple [u0] >>= fun t => field (.ref it) 3 >>= fun b => setField (.ref it) 3 t >>= fun _ => letGo [b] [t] >>= fun _ => ret t) _ _ s
  refine wpAny_bind (wpAny_setField hi' rfl (Nat.le_of_ble_eq_true rfl) ?_)
  refine wpAny_bind ?_
  exact turn_fin (fs1 := #[Value.ref pl, rawInt 1, rawInt 1, last, rawInt 0, rawInt 1, rawInt 2]) (us := [u0]) hi' rfl (Nat.le_of_ble_eq_true rfl) rfl (fun _ => rfl) (Nat.le_of_ble_eq_true rfl) hQ
theorem perm211 {u0 u1 : Value} {Q : Option Value → Shared → Prop} (hi : s.heap.get? it = some (recP 2 1 1 pl last)) (hp : s.heap.get? pl = some (poolO [u0, u1]))
    (hQ : Took s it (recP 2 1 2 pl (.ref s.heap.objs.size)) [u1] Q) : wpAny (model prog w) A (callSpecial? (.ref it) "__next__") Q E s := by
  have hT : s.TypeIs (.ref it) "itertools.permutations" := ⟨_, hi, rfl⟩
  refine wpAny_callSpecial?_slot (name := Str.ofString "__next__") hT next_perm (wpAny_call_entry next_perm hT step_perm ?_ (anext_perm _))
  have hi' : s.heap.get? it = some { cls := .type "itertools.permutations", dict := none, data := .fields #[Value.ref pl, rawInt 1, rawInt 1, last, rawInt 0, rawInt 1, rawInt 2], slots := #[] } := hi
  have hp' : s.heap.get? pl = some { cls := .type "tuple", dict := none, data := .seq #[u0, u1] 0, slots := #[] } := hp
  show wpAny _ _ (field (.ref it) 0 >>= _) _ _ s
  refine wpAny_bind (wpAny_field hi' rfl (x := .ref pl) rfl ?_)
  refine wpAny_bind (pool_at hp' ?_)
  show wpAny _ _ (Builtin.Itertools.itIntField (.ref it) 2 >>= _) _ _ s
  refine wpAny_bind (int_at (n := 1) (t := 0) hi' rfl ?_)
  refine wpAny_bind (num_at (L := [0, 1, 2]) hi' rfl ?_)
  show wpAny _ _ (Builtin.Itertools.itIntField (.ref it) 1 >>= _) _ _ s
  refine wpAny_bind (int_at (n := 1) (t := 0) hi' rfl ?_)
  show wpAny _ _ (Builtin.Itertools.itSetNumbersFrom (.ref it) 4 [1, 0, 1] >>= fun _ => newTuple [u1] >>= fun t => field (.ref it) 3 >>= fun b => setField (.ref it) 3 t >>= fun _ => letGo [b] [t] >>= fun _ => ret t) _ _ s
  refine wpAny_bind (put_at hi' (Nat.le_of_ble_eq_true rfl) ?_)
  refine wpAny_bind ?_
  exact turn_fin (fs1 := #[Value.ref pl, rawInt 1, rawInt 1, last, rawInt 1, rawInt 0, rawInt 1]) (us := [u1]) hi' rfl (Nat.le_of_ble_eq_true rfl) rfl (fun _ => rfl) (Nat.le_of_ble_eq_true rfl) hQ
theorem perm21e {u0 u1 : Value} {Q : Option Value → Shared → Prop} (hh : A.handled = none) (hi : s.heap.get? it = some (recP 2 1 2 pl last)) (hp : s.heap.get? pl = some (poolO [u0, u1]))
    (hQ : ∀ e h', CpRep.StopE e h' → Heap.ExtBut it s.heap h' → E e { s with heap := h' }) : wpAny (model prog w) A (callSpecial? (.ref it) "__next__") Q E s := by
  have hT : s.TypeIs (.ref it) "itertools.permutations" := ⟨_, hi, rfl⟩
  refine wpAny_callSpecial?_slot (name := Str.ofString "__next__") hT next_perm (wpAny_call_entry next_perm hT step_perm ?_ (anext_perm _))
  have hi' : s.heap.get? it = some { cls := .type "itertools.permutations", dict := none, data := .fields #[Value.ref pl, rawInt 1, rawInt 1, last, rawInt 1, rawInt 0, rawInt 1], slots := #[] } := hi
  have hp' : s.heap.get? pl = some { cls := .type "tuple", dict := none, data := .seq #[u0, u1] 0, slots := #[] } := hp
  show wpAny _ _ (field (.ref it) 0 >>= _) _ _ s
  refine wpAny_bind (wpAny_field hi' rfl (x := .ref pl) rfl ?_)
  refine wpAny_bind (pool_at hp' ?_)
  show wpAny _ _ (Builtin.Itertools.itIntField (.ref it) 2 >>= _) _ _ s
  refine wpAny_bind (int_at (n := 1) (t := 0) hi' rfl ?_)
  refine wpAny_bind (num_at (L := [1, 0, 1]) hi' rfl ?_)
  show wpAny _ _ (Builtin.Itertools.itIntField (.ref it) 1 >>= _) _ _ s
  refine wpAny_bind (int_at (n := 1) (t := 0) hi' rfl ?_)
  show wpAny _ _ (setField (.ref it) 1 (rawInt 2) >>= fun _ => Builtin.Itertools.itStop) _ _ s
  exact end_fin hh hi' (Nat.le_of_ble_eq_true rfl) hQ
theorem perm220 {u0 u1 : Value} {Q : Option Value → Shared → Prop} (hi : s.heap.get? it = some (recP 2 2 0 pl last)) (hp : s.heap.get? pl = some (poolO [u0, u1]))
    (hQ : Took s it (recP 2 2 1 pl (.ref s.heap.objs.size)) [u0, u1] Q) : wpAny (model prog w) A (callSpecial? (.ref it) "__next__") Q E s := by
  have hT : s.TypeIs (.ref it) "itertools.permutations" := ⟨_, hi, rfl⟩
  refine wpAny_callSpecial?_slot (name := Str.ofString "__next__") hT next_perm (wpAny_call_entry next_perm hT step_perm ?_ (anext_perm _))
  have hi' : s.heap.get? it = some { cls := .type "itertools.permutations", dict := none, data := .fields #[Value.ref pl, rawInt 0, rawInt 2, last, rawInt 0, rawInt 1, rawInt 2, rawInt 1], slots := #[] } := hi
  have hp' : s.heap.get? pl = some { cls := .type "tuple", dict := none, data := .seq #[u0, u1] 0, slots := #[] } := hp
  show wpAny _ _ (field (.ref it) 0 >>= _) _ _ s
  refine wpAny_bind (wpAny_field hi' rfl (x := .ref pl) rfl ?_)
  refine wpAny_bind (pool_at hp' ?_)
  show wpAny _ _ (Builtin.Itertools.itIntField (.ref it) 2 >>= _) _ _ s
  refine wpAny_bind (int_at (n := 2) (t := 0) hi' rfl ?_)
  refine wpAny_bind (num_at (L := [0, 1, 2, 1]) hi' rfl ?_)
  show wpAny _ _ (Builtin.Itertools.itIntField (.ref it) 1 >>= _) _ _ s
  refine wpAny_bind (int_at (n := 0) (t := 0) hi' rfl ?_)
  show wpAny _ _ (setField (.ref it) 1 (rawInt 1) >>= fun _ => newTuple [u0, u1] >>= fun t => field (.ref it) 3 >>= fun b => setField (.ref it) 3 t >>= fun _ => letGo [b] [t] >>= fun _ => ret t) _ _ s
  refine wpAny_bind (wpAny_setField hi' rfl (Nat.le_of_ble_eq_true rfl) ?_)
  refine wpAny_bind ?_
  exact turn_fin (fs1 := #[Value.ref pl, rawInt 1, rawInt 2, last, rawInt 0, rawInt 1, rawInt 2, rawInt 1]) (us := [u0, u1]) hi' rfl (Nat.le_of_ble_eq_true rfl) rfl (fun _ => rfl) (Nat.le_of_ble_eq_true rfl) hQ
theorem perm221 {u0 u1 : Value} {Q : Option Value → Shared → Prop} (hi : s.heap.get? it = some (recP 2 2 1 pl last)) (hp : s.heap.get? pl = some (poolO [u0, u1]))
    (hQ : Took s it (recP 2 2 2 pl (.ref s.heap.objs.size)) [u1, u0] Q) : wpAny (model prog w) A (callSpecial? (.ref it) "__next__") Q E s := by
  have hT : s.TypeIs (.ref it) "itertools.permutations" := ⟨_, hi, rfl⟩
  refine wpAny_callSpecial?_slot (name := Str.ofString "__next__") hT next_perm (wpAny_call_entry next_perm hT step_perm ?_ (anext_perm _))
  have hi' : s.heap.get? it = some { cls := .type "itertools.permutations", dict := none, data := .fields #[Value.ref pl, rawInt 1, rawInt 2, last, rawInt 0, rawInt 1, rawInt 2, rawInt 1], slots := #[] } := hi
  have hp' : s.heap.get? pl = some { cls := .type "tuple", dict := none, data := .seq #[u0, u1] 0, slots := #[] } := hp
  show wpAny _ _ (field (.ref it) 0 >>= _) _ _ s
  refine wpAny_bind (wpAny_field hi' rfl (x := .ref pl) rfl ?_)
  refine wpAny_bind (pool_at hp' ?_)
  show wpAny _ _ (Builtin.Itertools.itIntField (.ref it) 2 >>= _) _ _ s
  refine wpAny_bind (int_at (n := 2) (t := 0) hi' rfl ?_)
  refine wpAny_bind (num_at (L := [0, 1, 2, 1]) hi' rfl ?_)
  show wpAny _ _ (Builtin.Itertools.itIntField (.ref it) 1 >>= _) _ _ s
  refine wpAny_bind (int_at (n := 1) (t := 0) hi' rfl ?_)
  show wpAny _ _ (Builtin.Itertools.itSetNumbersFrom (.ref it) 4 [1, 0, 1, 1] >>= fun _ => newTuple [u1, u0] >>= fun t => field (.ref it) 3 >>= fun b => setField (.ref it) 3 t >>= fun _ => letGo [b] [t] >>= fun _ => ret t) _ _ s
  refine wpAny_bind (put_at hi' (Nat.le_of_ble_eq_true rfl) ?_)
  refine wpAny_bind ?_
  exact turn_fin (fs1 := #[Value.ref pl, rawInt 1, rawInt 2, last, rawInt 1, rawInt 0, rawInt 1, rawInt 1]) (us := [u1, u0]) hi' rfl (Nat.le_of_ble_eq_true rfl) rfl (fun _ => rfl) (Nat.le_of_ble_eq_true rfl) hQ
theorem perm22e {u0 u1 : Value} {Q : Option Value → Shared → Prop} (hh : A.handled = none) (hi : s.heap.get? it = some (recP 2 2 2 pl last)) (hp : s.heap.get? pl = some (poolO [u0, u1]))
    (hQ : ∀ e h', CpRep.StopE e h' → Heap.ExtBut it s.heap h' → E e { s with heap := h' }) : wpAny (model prog w) A (callSpecial? (.ref it) "__next__") Q E s := by
  have hT : s.TypeIs (.ref it) "itertools.permutations" := ⟨_, hi, rfl⟩
  refine wpAny_callSpecial?_slot (name := Str.ofString "__next__") hT next_perm (wpAny_call_entry next_perm hT step_perm ?_ (anext_perm _))
  have hi' : s.heap.get? it = some { cls := .type "itertools.permutations", dict := none, data := .fields #[Value.ref pl, rawInt 1, rawInt 2, last, rawInt 1, rawInt 0, rawInt 1, rawInt 1], slots := #[] } := hi
  have hp' : s.heap.get? pl = some { cls := .type "tuple", dict := none, data := .seq #[u0, u1] 0, slots := #[] } := hp
  show wpAny _ _ (field (.ref it) 0 >>= _) _ _ s
  refine wpAny_bind (wpAny_field hi' rfl (x := .ref pl) rfl ?_)
  refine wpAny_bind (pool_at hp' ?_)
  show wpAny _ _ (Builtin.Itertools.itIntField (.ref it) 2 >>= _) _ _ s
  refine wpAny_bind (int_at (n := 2) (t := 0) hi' rfl ?_)
  refine wpAny_bind (num_at (L := [1, 0, 1, 1]) hi' rfl ?_)
  show wpAny _ _ (Builtin.Itertools.itIntField (.ref it) 1 >>= _) _ _ s
  refine wpAny_bind (int_at (n := 1) (t := 0) hi' rfl ?_)
  show wpAny _ _ (setField (.ref it) 1 (rawInt 2) >>= fun _ => Builtin.Itertools.itStop) _ _ s
  exact end_fin hh hi' (Nat.le_of_ble_eq_true rfl) hQ
end
end DW

/-! Dw13c: the two iterators walked, and gathered in a list. -/
namespace DW
open PySem PySem.Spec PyProof.Rows L2
theorem sml {d : Nat} (h : d ≤ 2) : d = 0 ∨ d = 1 ∨ d = 2 := by omega
theorem sm1 {d : Nat} (h : d ≤ 1) : d = 0 ∨ d = 1 := by omega
theorem two_of {vs : List Value} (h : vs.length = 2) : ∃ a b, vs = [a, b] := by
  match vs, h with
  | [a, b], _ => exact ⟨a, b, rfl⟩
/-- an iterator that makes new tuples of its pool's items -/
structure CIt (prog : Program) (w : World) (C : String) (rc : Addr → Nat → Value → Obj) (vs : List Value) (outs : List (List Value)) : Prop where
  shape : ∀ pl i l, ∃ fs, rc pl i l = { cls := .type C, data := .fields fs }
  self : ∀ (A : Around) (s : Shared) (it : Addr) (Q : Value → Shared → Prop) (E : Value → Shared → Prop), s.TypeIs (.ref it) C → Q (.ref it) s → wpAny (model prog w) A (pyIter (.ref it)) Q E s
  hint : ∀ (A : Around) (s : Shared) (it : Addr) (Q : Bool → Shared → Prop) (E : Value → Shared → Prop), s.TypeIs (.ref it) C → Q true s → wpAny (model prog w) A (Builtin.List.listLengthHint (.ref it)) Q E s
  item : ∀ (A : Around) (E : Value → Shared → Prop) (s : Shared) (it pl : Addr) (i : Nat) (last : Value) (Q : Option Value → Shared → Prop) (us : List Value), outs[i]? = some us → s.heap.get? it = some (rc pl i last) → s.heap.get? pl = some (poolO vs) →
    Took s it (rc pl (i + 1) (.ref s.heap.objs.size)) us Q → wpAny (model prog w) A (callSpecial? (.ref it) "__next__") Q E s
  done : ∀ (A : Around) (E : Value → Shared → Prop) (s : Shared) (it pl : Addr) (last : Value) (Q : Option Value → Shared → Prop), A.handled = none → s.heap.get? it = some (rc pl outs.length last) → s.heap.get? pl = some (poolO vs) →
    (∀ e h', CpRep.StopE e h' → Heap.ExtBut it s.heap h' → E e { s with heap := h' }) → wpAny (model prog w) A (callSpecial? (.ref it) "__next__") Q E s
section
variable {prog : Program} {w : World}
theorem cit_comb {d r : Nat} {vs : List Value} (hv : vs.length = d) (hd : d ≤ 2) (hr : r ≤ d) : CIt prog w "itertools.combinations" (fun pl i l => recC r i pl l) vs ((combT d r).map fun ns => ns.map fun n => vs.getD n .none) where
  shape := fun pl i l => ⟨_, rfl⟩
  self := fun A s it Q E hT h => wpAny_pyIter_slot hT iter_comb (wpAny_call_entry iter_comb hT same_comb (by
    show wpAny _ _ (ret (.ref it)) _ _ s
    exact wpAny_pure ⟨_, rfl, "itertools.combinations", _, hT, next_comb.lookup, h⟩) (aiter_comb _))
  hint := fun A s it Q E hT h => by
    unfold Builtin.List.listLengthHint
    refine wpAny_bind (wpAny_specialOf hT nolen_comb ?_)
    refine PySem.W.KFB.if_not rfl ?_
    refine PySem.W.KFB.if_not rfl ?_
    refine wpAny_bind (wpAny_specialOf hT nohint_comb ?_)
    exact wpAny_pure h
  item := by
    intro A E s it pl i last Q us hx hi hp hQ
    rcases sml hd with z | z | z <;> subst z
    · have e := List.eq_nil_of_length_eq_zero hv
      subst e
      obtain rfl : r = 0 := Nat.le_zero.mp hr
      match i, hx, hi, hQ with
        | 0, hx, hi, hQ => cases hx; exact comb000 hi hp hQ
        | i + 1, hx, hi, hQ => cases hx
    · obtain ⟨u0, e⟩ := List.length_eq_one_iff.mp hv
      subst e
      rcases sm1 hr with z | z <;> subst z
      · match i, hx, hi, hQ with
        | 0, hx, hi, hQ => cases hx; exact comb100 hi hp hQ
        | i + 1, hx, hi, hQ => cases hx
      · match i, hx, hi, hQ with
        | 0, hx, hi, hQ => cases hx; exact comb110 hi hp hQ
        | i + 1, hx, hi, hQ => cases hx
    · obtain ⟨u0, u1, e⟩ := two_of hv
      subst e
      rcases sml hr with z | z | z <;> subst z
      · match i, hx, hi, hQ with
        | 0, hx, hi, hQ => cases hx; exact comb200 hi hp hQ
        | i + 1, hx, hi, hQ => cases hx
      · match i, hx, hi, hQ with
        | 0, hx, hi, hQ => cases hx; exact comb210 hi hp hQ
        | 1, hx, hi, hQ => cases hx; exact comb211 hi hp hQ
        | i + 2, hx, hi, hQ => cases hx
      · match i, hx, hi, hQ with
        | 0, hx, hi, hQ => cases hx; exact comb220 hi hp hQ
        | i + 1, hx, hi, hQ => cases hx
  done := by
    intro A E s it pl last Q hh hi hp hQ
    rcases sml hd with z | z | z <;> subst z
    · have e := List.eq_nil_of_length_eq_zero hv
      subst e
      obtain rfl : r = 0 := Nat.le_zero.mp hr
      exact comb00e hh hi hp hQ
    · obtain ⟨u0, e⟩ := List.length_eq_one_iff.mp hv
      subst e
      rcases sm1 hr with z | z <;> subst z
      · exact comb10e hh hi hp hQ
      · exact comb11e hh hi hp hQ
    · obtain ⟨u0, u1, e⟩ := two_of hv
      subst e
      rcases sml hr with z | z | z <;> subst z
      · exact comb20e hh hi hp hQ
      · exact comb21e hh hi hp hQ
      · exact comb22e hh hi hp hQ
theorem cit_perm {d r : Nat} {vs : List Value} (hv : vs.length = d) (hd : d ≤ 2) (hr : r ≤ d) : CIt prog w "itertools.permutations" (fun pl i l => recP d r i pl l) vs ((permT d r).map fun ns => ns.map fun n => vs.getD n .none) where
  shape := fun pl i l => ⟨_, rfl⟩
  self := fun A s it Q E hT h => wpAny_pyIter_slot hT iter_perm (wpAny_call_entry iter_perm hT same_perm (by
    show wpAny _ _ (ret (.ref it)) _ _ s
    exact wpAny_pure ⟨_, rfl, "itertools.permutations", _, hT, next_perm.lookup, h⟩) (aiter_perm _))
  hint := fun A s it Q E hT h => by
    unfold Builtin.List.listLengthHint
    refine wpAny_bind (wpAny_specialOf hT nolen_perm ?_)
    refine PySem.W.KFB.if_not rfl ?_
    refine PySem.W.KFB.if_not rfl ?_
    refine wpAny_bind (wpAny_specialOf hT nohint_perm ?_)
    exact wpAny_pure h
  item := by
    intro A E s it pl i last Q us hx hi hp hQ
    rcases sml hd with z | z | z <;> subst z
    · have e := List.eq_nil_of_length_eq_zero hv
      subst e
      obtain rfl : r = 0 := Nat.le_zero.mp hr
      match i, hx, hi, hQ with
        | 0, hx, hi, hQ => cases hx; exact perm000 hi hp hQ
        | i + 1, hx, hi, hQ => cases hx
    · obtain ⟨u0, e⟩ := List.length_eq_one_iff.mp hv
      subst e
      rcases sm1 hr with z | z <;> subst z
      · match i, hx, hi, hQ with
        | 0, hx, hi, hQ => cases hx; exact perm100 hi hp hQ
        | i + 1, hx, hi, hQ => cases hx
      · match i, hx, hi, hQ with
        | 0, hx, hi, hQ => cases hx; exact perm110 hi hp hQ
        | i + 1, hx, hi, hQ => cases hx
    · obtain ⟨u0, u1, e⟩ := two_of hv
      subst e
      rcases sml hr with z | z | z <;> subst z
      · match i, hx, hi, hQ with
        | 0, hx, hi, hQ => cases hx; exact perm200 hi hp hQ
        | i + 1, hx, hi, hQ => cases hx
      · match i, hx, hi, hQ with
        | 0, hx, hi, hQ => cases hx; exact perm210 hi hp hQ
        | 1, hx, hi, hQ => cases hx; exact perm211 hi hp hQ
        | i + 2, hx, hi, hQ => cases hx
      · match i, hx, hi, hQ with
        | 0, hx, hi, hQ => cases hx; exact perm220 hi hp hQ
        | 1, hx, hi, hQ => cases hx; exact perm221 hi hp hQ
        | i + 2, hx, hi, hQ => cases hx
  done := by
    intro A E s it pl last Q hh hi hp hQ
    rcases sml hd with z | z | z <;> subst z
    · have e := List.eq_nil_of_length_eq_zero hv
      subst e
      obtain rfl : r = 0 := Nat.le_zero.mp hr
      exact perm00e hh hi hp hQ
    · obtain ⟨u0, e⟩ := List.length_eq_one_iff.mp hv
      subst e
      rcases sm1 hr with z | z <;> subst z
      · exact perm10e hh hi hp hQ
      · exact perm11e hh hi hp hQ
    · obtain ⟨u0, u1, e⟩ := two_of hv
      subst e
      rcases sml hr with z | z | z <;> subst z
      · exact perm20e hh hi hp hQ
      · exact perm21e hh hi hp hQ
      · exact perm22e hh hi hp hQ
end
section
variable {X : Cx} {C : String} {rc : Addr → Nat → Value → Obj} {vs : List Value} {outs : List (List Value)} {xss : List (List V)} {it pl : Addr} {pins : List (Addr × Obj)} {s : Shared} {σ : L2.St} {H : Hp} {i : Nat} {A : Around}
/-- the iterator stands at turn i -/
def CSt (rc : Addr → Nat → Value → Obj) (it pl : Addr) (vs : List Value) (i : Nat) (h : Heap) : Prop := (∃ last, h.get? it = some (rc pl i last)) ∧ h.get? pl = some (poolO vs) ∧ it ≠ pl
theorem CSt.type (c : CIt X.prog X.w C rc vs outs) (st : CSt rc it pl vs i s.heap) : s.TypeIs (.ref it) C := by
  obtain ⟨⟨last, hi⟩, _⟩ := st
  obtain ⟨fs, e⟩ := c.shape pl i last
  exact ⟨_, hi, by rw [e]⟩
theorem ci_item {E : Value → Shared → Prop} (c : CIt X.prog X.w C rc vs outs) (I : Inv X pins σ H s) (hf : FpOk X pins H it) (st : CSt rc it pl vs i s.heap) {xs : List V} {us : List Value} (hx : outs[i]? = some us) (rv : Vals xs us) (hz : xs.length ≤ 2) :
    wpAny (model X.prog X.w) A (pyNext (.ref it)) (fun r s1 => r = some (.ref s.heap.objs.size) ∧ Inv X pins σ (upd H s.heap.objs.size (.tup xs)) s1 ∧ CSt rc it pl vs (i + 1) s1.heap) E s := by
  obtain ⟨⟨last, hi⟩, hp, hne⟩ := st
  unfold pyNext
  refine wpAny_bind (wpAny_attempt (c.item _ _ s it pl i last _ us hx hi hp fun h' h1 h2 h3 h4 => wpAny_pure ⟨rfl, ?_, ⟨_, h1⟩, h4 pl _ (Ne.symm hne) hp, hne⟩))
  have new : ObjOk X.prog X.w (upd H s.heap.objs.size (.tup xs)) h' s.heap.objs.size (.tup xs) := ⟨by rw [sizeLine_eq]; omega, us, rv, ⟨_, h2, rfl, _, rfl⟩⟩
  exact I.turnedNew (t' := s.toks) (ch := [it]) (fun b ob hb q => h4 b ob (fun z => hb (by simp [z])) q) (fun b hb => by
    have e : b = it := by simpa using hb
    rw [e]; exact hf) (Nat.le_refl _) new
theorem ci_done {E : Value → Shared → Prop} (c : CIt X.prog X.w C rc vs outs) (hh : A.handled = none) (I : Inv X pins σ H s) (hf : FpOk X pins H it) (st : CSt rc it pl vs outs.length s.heap) :
    wpAny (model X.prog X.w) A (pyNext (.ref it)) (fun r s1 => r = none ∧ Inv X pins σ H s1) E s := by
  obtain ⟨⟨last, hi⟩, hp, hne⟩ := st
  obtain ⟨f0, f1, f2, f3, f4, f5⟩ := hf
  unfold pyNext
  refine wpAny_bind (wpAny_attempt (c.done _ _ s it pl last _ hh hi hp fun e h' he hk => ?_))
  obtain ⟨a, o, vs', rfl, ho, hc, _, _⟩ := he
  refine wpAny_bind (wpAny_isInstance (T := "StopIteration") (b := true) ⟨o, ho, hc⟩ isSubtype_stop ?_)
  exact wpAny_pure ⟨rfl, I.turned (t' := s.toks) (fun b ob hb q => hk b ob hb q) f0 f1 f3 f4 f5⟩
/-- what is walked -/
def CJ (xss : List (List V)) : It := ⟨fun i _ => i < xss.length, fun i H v H' => ∃ T xs, v = .ref T ∧ H T = none ∧ H' = upd H T (.tup xs) ∧ xss[i]? = some xs, fun i _ => i = xss.length⟩
theorem turn_ci {P : Program} {w : World} {K : PySem.W.Frag} {tg : Expr} (c : CIt P w C rc vs outs) (hC : ["enumerate", "zip", "dict_itemiterator", "dict_reverseitemiterator", "odict_iterator", "itertools.zip_longest", "itertools.pairwise"].contains C = false) (hl : xss.length = outs.length)
    (hv : ∀ (i : Nat) xs us, xss[i]? = some xs → outs[i]? = some us → Vals xs us ∧ xs.length ≤ 2) : Turn P w K tg (CJ xss) [it, pl] it (CSt rc it pl vs) where
  mem := by simp
  obj := fun i h st b hb => by
    obtain ⟨⟨last, hi⟩, hp, hne⟩ := st
    obtain ⟨fs, e⟩ := c.shape pl i last
    have e' : b = it ∨ b = pl := by simpa using hb
    rcases e' with z | z
    · rw [z]; exact ⟨_, hi, fun v q => by rw [e] at q; cases q⟩
    · rw [z]; exact ⟨_, hp, fun v q => by cases q⟩
  keep := fun i h h' st k => let ⟨⟨last, hi⟩, hp, hne⟩ := st; ⟨⟨last, k it (by simp) _ hi⟩, k pl (by simp) _ hp, hne⟩
  item := by
    intro X hP hw hK hc i pins s σ H E I hf st hg
    subst hP hw hK
    have hg' : i < xss.length := hg
    have hx : xss[i]? = some xss[i] := by simp [hg']
    have ho : outs[i]? = some (outs[i]'(by omega)) := by simp [← hl, hg']
    obtain ⟨rv, hz⟩ := hv i _ _ hx ho
    have n1 : s.heap.objs.size ≠ it := by
      obtain ⟨⟨last, hi⟩, _⟩ := id st
      exact Nat.ne_of_gt (Heap.lt_size hi)
    have n2 : s.heap.objs.size ≠ pl := by
      obtain ⟨_, hp, _⟩ := id st
      exact Nat.ne_of_gt (Heap.lt_size hp)
    refine thn (ci_item c I (hf it (by simp)) st ho rv hz) fun r s1 ⟨er, I1, st1⟩ => ⟨_, er, ?_⟩
    obtain ⟨⟨last, hi⟩, _⟩ := id st1
    obtain ⟨fs, e⟩ := c.shape pl (i + 1) last
    refine go_of hi (by rw [e]) (by rw [e]) hC ⟨.ref s.heap.objs.size, _, I1, rfl, ⟨_, _, rfl, I.hok.fresh (Nat.le_refl _), rfl, hx⟩, st1, fun b hb => ?_⟩
    have e' : b = it ∨ b = pl := by simpa using hb
    have nb : b ≠ s.heap.objs.size := by
      rcases e' with z | z
      · rw [z]; exact Ne.symm n1
      · rw [z]; exact Ne.symm n2
    rw [upd_ne nb]
    exact (hf b hb).1
  done := by
    intro X hP hw hK hc i pins s σ H E I hf st hg
    subst hP hw hK
    have hg' : i = xss.length := hg
    rw [hl] at hg'
    subst hg'
    exact ci_done c (I.ok.hd hc) I (hf it (by simp)) st
  self := fun A i s Q E st h => c.self A s it Q E (by
    obtain ⟨⟨last, hi⟩, _⟩ := st
    obtain ⟨fs, e⟩ := c.shape pl i last
    exact ⟨_, hi, by rw [e]⟩) h

/-! ### list(it) -/
theorem FpOk.upd {b : Addr} {T : Addr} {o : HO} (f : FpOk X pins H b) (n : b ≠ T) : FpOk X pins (upd H T o) b := ⟨by rw [upd_ne n]; exact f.1, f.2⟩
theorem upd_swap {H : Hp} {a b : Addr} {x y z : HO} (n : a ≠ b) : upd (upd (upd H a x) b y) a z = upd (upd H b y) a z := by
  funext c
  by_cases h1 : c = a
  · rw [h1, upd_same, upd_same]
  · rw [upd_ne h1, upd_ne h1]
    by_cases h2 : c = b
    · rw [h2, upd_same, upd_same]
    · rw [upd_ne h2, upd_ne h2, upd_ne h1]
theorem ci_loop {Rs : Result → Shared → Prop} {A1 : Around} {q : Addr} {W : Nat → List V → Hp → Prop} (c : CIt X.prog X.w C rc vs outs) (hh : A1.handled = none) (hl : xss.length = outs.length) (hv : ∀ (i : Nat) xs us, xss[i]? = some xs → outs[i]? = some us → Vals xs us ∧ xs.length ≤ 2) (hn : xss.length ≤ 2)
    (ws : ∀ i acc Hi T xs, xss[i]? = some xs → W i acc Hi → Hi T = none → W (i + 1) (acc ++ [.ref T]) (upd Hi T (.tup xs)))
    (hdone : ∀ acc Hi s, Inv X pins σ (upd Hi q (.lst acc)) s → Hi q = none → W xss.length acc Hi → Rs (.ok (.ret .none)) s) :
    ∀ (k i : Nat) (acc : List V) (Hi : Hp) (s : Shared), i + k = xss.length → acc.length = i → Inv X pins σ (upd Hi q (.lst acc)) s → Hi q = none → FpOk X pins (upd Hi q (.lst acc)) it → CSt rc it pl vs i s.heap → W i acc Hi →
      codeAny (model X.prog X.w) A1 (.builtin "list.extend.loop" ⟨[.ref q, .ref it, .none], []⟩) Rs s := by
  intro k
  induction k with
  | zero =>
    intro i acc Hi s hk ha I hq hf st hw
    have hi : i = xss.length := by omega
    refine codeAny_builtin PySem.F.entry_extend_loop ?_
    rw [Around.under_plainId PySem.F.plain_extend_loop _]
    show wpAny _ A1.in1 (pyNext (.ref it) >>= _) _ _ s
    rw [hi, hl] at st
    refine wpAny_bind (thn (ci_done c hh I hf st) fun r s1 ⟨er, I1⟩ => ?_)
    subst er
    rw [hi] at hw
    exact wpAny_pure (hdone acc Hi s1 I1 hq hw)
  | succ k ih =>
    intro i acc Hi s hk ha I hq hf st hw
    have hi : i < xss.length := by omega
    have hx : xss[i]? = some xss[i] := by simp [hi]
    have ho : outs[i]? = some (outs[i]'(by omega)) := by simp [← hl, hi]
    obtain ⟨rv, hz⟩ := hv i _ _ hx ho
    have hqs : q < s.heap.objs.size := by
      obtain ⟨_, its, n, _, _, e⟩ := I.lstM upd_same
      exact Heap.lt_size e
    have his : it < s.heap.objs.size := by
      obtain ⟨⟨last, h⟩, _⟩ := id st
      exact Heap.lt_size h
    refine codeAny_builtin PySem.F.entry_extend_loop ?_
    rw [Around.under_plainId PySem.F.plain_extend_loop _]
    show wpAny _ A1.in1 (pyNext (.ref it) >>= _) _ _ s
    refine wpAny_bind (thn (ci_item c I hf st ho rv hz) fun r s1 ⟨er, I1, st1⟩ => ?_)
    subst er
    have hT : upd Hi q (.lst acc) s.heap.objs.size = none := I.hok.fresh (Nat.le_refl _)
    have hT' : Hi s.heap.objs.size = none := by rw [upd_ne (Nat.ne_of_gt hqs)] at hT; exact hT
    have hq1 : upd (upd Hi q (.lst acc)) s.heap.objs.size (.tup xss[i]) q = some (.lst acc) := by rw [upd_ne (Nat.ne_of_lt hqs), upd_same]
    show wpAny _ A1.in1 (updateSeq q (·.push (Value.ref s.heap.objs.size)) >>= _) _ _ _
    obtain ⟨z, its, n, r2, hl2, e⟩ := I1.lstM hq1
    refine wpAny_bind (wpAny_updateSeq e rfl (wpAny_pure ⟨plainId_quiet PySem.F.plain_extend_loop _, ?_⟩) (by rw [List.size_toArray, sizeLine_eq]; omega) (by show (its.toArray.push (Value.ref s.heap.objs.size)).size ≤ sizeLine + 1; rw [Array.size_push, List.size_toArray, sizeLine_eq]; omega))
    have I2 := I1.lset (f := (·.push (Value.ref s.heap.objs.size))) (its' := its ++ [Value.ref s.heap.objs.size]) (ys := acc ++ [.ref s.heap.objs.size]) (t' := s1.toks) hq1 e (by simp) (r2.append (show Vals [V.ref s.heap.objs.size] [Value.ref s.heap.objs.size] from .cons rfl .nil)) (by rw [List.length_append, List.length_singleton, sizeLine_eq]; omega)
    rw [upd_swap (Nat.ne_of_lt hqs)] at I2
    refine ih (i + 1) (acc ++ [.ref s.heap.objs.size]) (upd Hi s.heap.objs.size (.tup xss[i])) _ (by omega) (by rw [List.length_append, ha]; rfl) I2 (by rw [upd_ne (Nat.ne_of_lt hqs)]; exact hq) ?_ ?_ (ws i acc Hi _ _ hx hw hT')
    · have hq2 : it ≠ q := fun e => by
        have := hf.1
        rw [e, upd_same] at this
        cases this
      have f0 : FpOk X pins Hi it := ⟨by have := hf.1; rw [upd_ne hq2] at this; exact this, hf.2⟩
      exact FpOk.upd (FpOk.upd f0 (Nat.ne_of_lt his)) hq2
    · obtain ⟨⟨last, h1⟩, h2, h3⟩ := st1
      have hq2 : it ≠ q := fun e => by
        have := hf.1
        rw [e, upd_same] at this
        cases this
      have hq3 : pl ≠ q := fun e2 => by
        rw [e2] at h2
        rw [h2] at e
        have := congrArg (fun o => Obj.cls (Option.getD o default)) e
        exact absurd this (by simp [poolO])
      exact ⟨⟨last, Heap.get?_update_of_ne _ (Ne.symm hq2) h1⟩, Heap.get?_update_of_ne _ (Ne.symm hq3) h2, h3⟩
theorem ci_list {W : Nat → List V → Hp → Prop} {Q : VK} (c : CIt X.prog X.w C rc vs outs) (hC : C ≠ "list" ∧ C ≠ "tuple") (hh : X.A.handled = none) (hl : xss.length = outs.length) (hv : ∀ (i : Nat) xs us, xss[i]? = some xs → outs[i]? = some us → Vals xs us ∧ xs.length ≤ 2) (hn : xss.length ≤ 2)
    (ws : ∀ i acc Hi T xs, xss[i]? = some xs → W i acc Hi → Hi T = none → W (i + 1) (acc ++ [.ref T]) (upd Hi T (.tup xs)))
    (wq : ∀ acc Hi q, H q = none → Hi q = none → W xss.length acc Hi → Q (.ref q) (upd Hi q (.lst acc)))
    (I : Inv X pins σ H s) (hf : FpOk X pins H it) (st : CSt rc it pl vs 0 s.heap) (w0 : W 0 [] H) :
    wpAny (model X.prog X.w) X.A (call (.type "list") [.ref it]) (EP X pins σ Q) X.xe s := by
  have hT := st.type c
  have hTn : it < s.heap.objs.size := by
    obtain ⟨⟨last, h⟩, _⟩ := id st
    exact Heap.lt_size h
  have fr : H s.heap.objs.size = none := I.hok.fresh (Nat.le_refl _)
  refine callType_codes (Q₁ := fun obj s₁ => obj = .ref s.heap.objs.size ∧ s₁ = { s with heap := s.heap.push { cls := .type "list", data := .seq #[] } }) PySem.F.called_list (PySem.F.typeCall_list_1 _) PySem.F.entry_list_init
    (code_list_new _ ⟨rfl, rfl⟩) fun obj s₁ h₁ => ?_
  obtain ⟨rfl, rfl⟩ := h₁
  have hS : (s.heap.push { cls := .type "list", data := .seq #[] }).get? s.heap.objs.size = some { cls := .type "list", data := .seq #[] } := Heap.get?_push_size _ rfl
  refine ⟨⟨_, hS, rfl⟩, PySem.F.args_list_init_2 _ _, ?_⟩
  have I1 : Inv X pins σ (upd H s.heap.objs.size (.lst [])) { s with heap := s.heap.push { cls := .type "list", data := .seq #[] } } := I.lnew (its := []) (t' := s.toks) .nil (Nat.zero_le _)
  show wpAny _ _ (do let old ← Builtin.List.listItems (.ref s.heap.objs.size); Builtin.List.listUpdate (.ref s.heap.objs.size) (fun _ => #[]); letGo old.toList.reverse; Builtin.List.listExtendWith (.ref s.heap.objs.size) (.ref it) .none) _ _ _
  refine wpAny_bind ?_
  unfold Builtin.List.listItems
  refine wpAny_bind (wpAny_seqItems hS rfl (wpAny_pure ?_))
  show wpAny _ _ (updateSeq s.heap.objs.size (fun _ => #[]) >>= fun _ => letGo (#[] : Array Value).toList.reverse >>= fun _ => Builtin.List.listExtendWith (.ref s.heap.objs.size) (.ref it) .none) _ _ _
  refine wpAny_bind (wpAny_updateSeq hS rfl ?_)
  have I2 := I1.lset (f := fun _ => #[]) (its := []) (its' := []) (ys := []) (t' := s.toks) upd_same hS rfl .nil (Nat.zero_le _)
  rw [upd_upd] at I2
  refine wpAny_bind (wpAny_letGo ?_)
  have keep : ∀ b o, b ≠ s.heap.objs.size → s.heap.get? b = some o → ((s.heap.push { cls := .type "list", data := .seq #[] }).update s.heap.objs.size (Obj.mapSeq fun _ => #[])).get? b = some o := fun b o hb e => Heap.get?_update_of_ne _ (Ne.symm hb) (Heap.get?_push_of_some _ e)
  have stK : ∀ {h h' : Heap}, CSt rc it pl vs 0 h → (∀ b o, b ≠ s.heap.objs.size → h.get? b = some o → h'.get? b = some o) → CSt rc it pl vs 0 h' := fun x k => let ⟨⟨last, a⟩, b, n⟩ := x
    ⟨⟨last, k _ _ (Nat.ne_of_lt hTn) a⟩, k _ _ (by
      obtain ⟨_, p, _⟩ := st
      exact Nat.ne_of_lt (Heap.lt_size p)) b, n⟩
  have st2 := stK st keep
  have hf2 : FpOk X pins (upd H s.heap.objs.size (.lst [])) it := FpOk.upd hf (Nat.ne_of_lt hTn)
  have goL : ∀ s', Inv X pins σ (upd H s.heap.objs.size (.lst [])) s' → CSt rc it pl vs 0 s'.heap → codeAny (model X.prog X.w) X.A.in1 (.builtin "list.extend.loop" ⟨[.ref s.heap.objs.size, .ref it, .none], []⟩) (wants (fun r s₂ => r = .none ∧ EP X pins σ Q (.ref s.heap.objs.size) s₂) X.xe) s' := fun s' I' st' =>
    ci_loop (A1 := X.A.in1) (W := W) c hh hl hv hn ws (fun acc Hi s'' I'' hq hw => ⟨rfl, .ref s.heap.objs.size, _, I'', rfl, wq acc Hi _ fr hq hw⟩) xss.length 0 [] H s' (Nat.zero_add _) rfl I' fr hf2 st' w0
  generalize hs2 : ({ heap := (s.heap.push { cls := .type "list", data := .seq #[] }).update s.heap.objs.size (Obj.mapSeq fun _ => #[]), gens := s.gens, drawn := s.drawn, toks := s.toks, os := s.os } : Shared) = s2 at I2
  have st2' : CSt rc it pl vs 0 s2.heap := by rw [← hs2]; exact st2
  show wpAny _ _ (Builtin.List.listExtendWith (.ref s.heap.objs.size) (.ref it) .none) _ _ s2
  have hT2 := st2'.type c
  unfold Builtin.List.listExtendWith
  refine wpAny_bind (wpAny_typeOf hT2 ?_)
  have h1 : Builtin.List.listSameRef (.ref s.heap.objs.size) (.ref it) = false := by simp [Builtin.List.listSameRef, Nat.ne_of_gt hTn]
  have h2 : (Value.type C == Value.type "list") = false := by simp [hC.1]
  have h3 : (Value.type C == Value.type "tuple") = false := by simp [hC.2]
  simp only [h1, h2, h3, Bool.or_false, Bool.false_eq_true, if_false]
  refine wpAny_bind (c.self _ _ _ _ _ hT2 ?_)
  refine wpAny_bind (wpAny_holding (c.hint _ _ _ _ _ hT2 ?_))
  obtain ⟨z, its, k, r3, hl3, e3⟩ := I2.lstM upd_same
  cases r3
  refine wpAny_ite_split (fun _ => ?_) (fun _ => wpAny_pure ⟨plainId_quiet PySem.F.plain_extend_loop _, goL s2 I2 st2'⟩)
  refine wpAny_bind (wpAny_rule ?_)
  refine wpAny_bind ?_
  show wpAny _ _ (updateSeq s.heap.objs.size (·.push .none) >>= fun _ => updateSeq s.heap.objs.size (·.pop)) _ _ _
  refine wpAny_bind (wpAny_updateSeq e3 rfl ?_)
  have I3 := I2.lset (f := (·.push Value.none)) (its' := [Value.none]) (ys := [.non]) (t' := s2.toks) upd_same e3 (by simp) (.cons rfl .nil) (by rw [List.length_singleton, sizeLine_eq]; decide)
  obtain ⟨z4, its4, k4, r4, hl4, e4⟩ := I3.lstM upd_same
  obtain ⟨u4, rfl, ru4⟩ := r4.one
  refine wpAny_updateSeq e4 rfl ?_ (by show 1 ≤ sizeLine; rw [sizeLine_eq]; decide) (by show 0 ≤ sizeLine + 1; exact Nat.zero_le _)
  have I4 := I3.lset (f := (·.pop)) (its := [u4]) (its' := []) (ys := []) (t' := s2.toks) upd_same e4 (by rfl) .nil (Nat.zero_le _)
  rw [upd_upd, upd_upd] at I4
  exact wpAny_pure ⟨plainId_quiet PySem.F.plain_extend_loop _, goL _ I4 (stK (stK st2' fun b o hb e => Heap.get?_update_of_ne _ (Ne.symm hb) e) fun b o hb e => Heap.get?_update_of_ne _ (Ne.symm hb) e)⟩
end
end DW

/-! Dw13d: combinations(range(d), r) and permutations(range(d), r) made. -/
namespace DW
open PySem PySem.Spec PyProof.Rows L2
section
variable {prog : Program} {w : World} {A : Around} {E : Value → Shared → Prop} {s : Shared} {rg : Addr} {d r : Nat} {t u v t' : Tok} {a b : Value}
/-- the pool's items -/
theorem items_of {acc : Array Value} {d : Nat} (h : ItemsOf (fun i v => ∃ t, v = .int ((0 : Int) + i * 1) t) acc d) : Vals ((List.range d).map fun n => V.int (n : Nat)) acc.toList := by
  have h' : ItemsOf (fun i v => ∃ t, v = .int ((0 : Int) + i * 1) t) acc ((d : Int) - 0).toNat := by simpa using h
  have := vals_rg (a := 0) (b := d) h'
  simpa [rgV] using this
theorem cls_comb {Q : Value × List Value → Shared → Prop} (h : Q (.type "itertools.combinations", [a, b]) s) : wpAny (model prog w) A (Builtin.Itertools.itClassAndRest "combinations" ⟨[.type "itertools.combinations", a, b], []⟩) Q E s := by
  have e : ("itertools." ++ "combinations" : String) = "itertools.combinations" := by decide
  have hsub : isSubtype (.type "itertools.combinations") (.type ("itertools." ++ "combinations")) = pure true := by rw [e]; exact sub_comb
  wp_walk
  exact h
theorem cls_perm {Q : Value × List Value → Shared → Prop} (h : Q (.type "itertools.permutations", [a, b]) s) : wpAny (model prog w) A (Builtin.Itertools.itClassAndRest "permutations" ⟨[.type "itertools.permutations", a, b], []⟩) Q E s := by
  have e : ("itertools." ++ "permutations" : String) = "itertools.permutations" := by decide
  have hsub : isSubtype (.type "itertools.permutations") (.type ("itertools." ++ "permutations")) = pure true := by rw [e]; exact sub_perm
  wp_walk
  exact h
theorem bind_comb : Builtin.Itertools.itBindNamed "combinations" ["iterable", "r"] 2 2 [a, b] [] = pure [some a, some b] := by kernel_rfl
theorem bind_perm : Builtin.Itertools.itBindNamed "permutations" ["iterable", "r"] 1 2 [a, b] [] = pure [some a, some b] := by kernel_rfl
theorem size_arg {Q : Int → Shared → Prop} (hr : r ≤ 2) (h : Q r s) : wpAny (model prog w) A (Builtin.Itertools.itSsizeArg (.int r t)) Q E s := by
  have f1 := AutoSeq1.idx_int
  unfold Builtin.Itertools.itSsizeArg
  refine wpAny_bind ?_
  wp_walk
  have c : (decide ((r : Int) < -2 ^ 63) || decide ((r : Int) ≥ 2 ^ 63)) = false := by
    rw [decide_eq_false (by omega), decide_eq_false (by omega)]
    rfl
  rw [c, if_neg Bool.false_ne_true]
  exact wpAny_pure h
theorem small_one' {d : Nat} (hd : d ≤ 2) : Builtin.Range.small 0 (d : Int) 1 = true := small_one (by omega) (by omega) (by omega) (by omega)
theorem size_nat (d : Nat) : Builtin.Range.rangeSize 0 (d : Int) 1 = d := by
  have := rangeSize_nat 0 (d : Int)
  rw [this]
  omega
theorem many_no (hr : r ≤ 2) : Builtin.Itertools.itTooMany (r : Nat) = false := decide_eq_false (by omega)
theorem rec_new {C : String} {fs : List Value} {Q : Value → Shared → Prop} (hb : typeHasDict (.type C) = false) (hz : fs.length ≤ 10) (h : Q (.ref s.heap.objs.size) { s with heap := s.heap.push { cls := .type C, data := .fields fs.toArray } }) :
    wpAny (model prog w) A (Builtin.Itertools.itNewRecord (.type C) fs) Q E s := by
  unfold Builtin.Itertools.itNewRecord
  rw [hb]
  show wpAny _ _ (newObj (.type C) (.fields fs.toArray) none) _ _ _
  exact wpAny_newObj_type h (by first | trivial | size_fits)
theorem code_comb {Q₁ : Value → Shared → Prop} (hh : A.handled = none) (hd : d ≤ 2) (hr' : r ≤ d) (hr : IsRange s.heap rg 0 (d : Nat) 1 t u v)
    (h : ∀ (h' : Heap) (tk : Nat) (vs : List Value), (∀ b o, s.heap.get? b = some o → h'.get? b = some o) → Vals ((List.range d).map fun n => V.int (n : Nat)) vs →
      Q₁ (.ref (h'.push (poolO vs)).objs.size) { s with heap := (h'.push (poolO vs)).push (recC r 0 h'.objs.size .none), toks := tk }) :
    codeAny (model prog w) A (.call (.builtin "itertools.combinations.__new__") ⟨[.type "itertools.combinations", .ref rg, .int (r : Nat) t'], []⟩) (wants Q₁ E) s := by
  refine codeAny_of_tree ?_
  show wpAny _ A.in1 (do checkBuiltinCall "itertools.combinations.__new__" ⟨[.type "itertools.combinations", .ref rg, .int (r : Nat) t'], []⟩; again (.builtin "itertools.combinations.__new__" ⟨[.type "itertools.combinations", .ref rg, .int (r : Nat) t'], []⟩)) _ _ s
  refine wpAny_bind (wpAny_of_eq (ncall_comb _ _) (wpAny_pure ⟨plainId_quiet plain_comb _, codeAny_builtin made_comb ?_⟩))
  rw [Around.under_plainId plain_comb _]
  have hh1 : A.in1.handled = none := hh
  unfold Builtin.«itertools.combinations.__new__»
  refine wpAny_bind ?_
  wp_delta
  refine wpAny_bind (cls_comb ?_)
  show wpAny _ _ (Builtin.Itertools.itBindNamed "combinations" ["iterable", "r"] 2 2 [.ref rg, .int (r : Nat) t'] [] >>= _) _ _ _
  refine wpAny_bind (wpAny_of_eq bind_comb ?_)
  show wpAny _ _ (Builtin.Itertools.itSsizeArg (.int (r : Nat) t') >>= _) _ _ _
  refine wpAny_bind (size_arg (by omega) ?_)
  refine wpAny_bind (collect_range (A := A.in1) hh1 hr (small_one' hd) (size_nat d) (by omega) fun h' tk acc hk hi => ?_)
  show wpAny _ _ (if ((r : Nat) : Int) < 0 then _ else _) _ _ _
  rw [if_neg (by omega)]
  show wpAny _ _ (if Builtin.Itertools.itTooMany (r : Nat) = true then _ else _) _ _ _
  rw [many_no (by omega), if_neg Bool.false_ne_true]
  have hv := items_of hi
  have hl : acc.toList.length = d := by rw [← hv.length, List.length_map, List.length_range]
  refine wpAny_bind (wpAny_newTuple ?_ (by rw [hl, sizeLine_eq]; omega))
  refine wpAny_pure ?_
  show wpAny _ _ (Builtin.Itertools.itNewRecord (.type "itertools.combinations") ([.ref h'.objs.size, rawInt (if (((r : Nat) : Int).toNat) > acc.toList.length then 2 else 0), .none] ++ (List.range (((r : Nat) : Int).toNat)).map fun (i : Nat) => rawInt i) >>= _) _ _ _
  rw [Int.toNat_natCast, if_neg (by omega)]
  refine wpAny_bind (rec_new bare_comb (by simp; omega) (wpAny_pure ?_))
  exact h h' tk acc.toList hk hv
theorem code_perm {Q₁ : Value → Shared → Prop} (hh : A.handled = none) (hd : d ≤ 2) (hr' : r ≤ d) (hr : IsRange s.heap rg 0 (d : Nat) 1 t u v)
    (h : ∀ (h' : Heap) (tk : Nat) (vs : List Value), (∀ b o, s.heap.get? b = some o → h'.get? b = some o) → Vals ((List.range d).map fun n => V.int (n : Nat)) vs →
      Q₁ (.ref (h'.push (poolO vs)).objs.size) { s with heap := (h'.push (poolO vs)).push (recP d r 0 h'.objs.size .none), toks := tk }) :
    codeAny (model prog w) A (.call (.builtin "itertools.permutations.__new__") ⟨[.type "itertools.permutations", .ref rg, .int (r : Nat) t'], []⟩) (wants Q₁ E) s := by
  refine codeAny_of_tree ?_
  show wpAny _ A.in1 (do checkBuiltinCall "itertools.permutations.__new__" ⟨[.type "itertools.permutations", .ref rg, .int (r : Nat) t'], []⟩; again (.builtin "itertools.permutations.__new__" ⟨[.type "itertools.permutations", .ref rg, .int (r : Nat) t'], []⟩)) _ _ s
  refine wpAny_bind (wpAny_of_eq (ncall_perm _ _) (wpAny_pure ⟨plainId_quiet plain_perm _, codeAny_builtin made_perm ?_⟩))
  rw [Around.under_plainId plain_perm _]
  have hh1 : A.in1.handled = none := hh
  unfold Builtin.«itertools.permutations.__new__»
  refine wpAny_bind (cls_perm ?_)
  show wpAny _ _ (Builtin.Itertools.itBindNamed "permutations" ["iterable", "r"] 1 2 [.ref rg, .int (r : Nat) t'] [] >>= _) _ _ _
  refine wpAny_bind (wpAny_of_eq bind_perm ?_)
  show wpAny _ _ (collect (.ref rg) >>= _) _ _ _
  refine wpAny_bind (collect_range (A := A.in1) hh1 hr (small_one' hd) (size_nat d) (by omega) fun h' tk acc hk hi => ?_)
  have hv := items_of hi
  have hl : acc.toList.length = d := by rw [← hv.length, List.length_map, List.length_range]
  show wpAny _ _ (holding acc.toList (asInt? (.int (r : Nat) t') >>= _) >>= _) _ _ _
  refine wpAny_bind (wpAny_holding (wpAny_bind (wpAny_of_eq (a := some ((r : Nat) : Int)) rfl ?_)))
  show wpAny _ _ (if (decide (((r : Nat) : Int) < -2 ^ 63) || decide (((r : Nat) : Int) ≥ 2 ^ 63)) = true then _ else _) _ _ _
  have c : (decide (((r : Nat) : Int) < -2 ^ 63) || decide (((r : Nat) : Int) ≥ 2 ^ 63)) = false := by
    rw [decide_eq_false (by omega), decide_eq_false (by omega)]
    rfl
  rw [c, if_neg Bool.false_ne_true]
  refine wpAny_pure ?_
  show wpAny _ _ (if ((r : Nat) : Int) < 0 then _ else _) _ _ _
  rw [if_neg (by omega)]
  show wpAny _ _ (if Builtin.Itertools.itTooMany (r : Nat) = true then _ else _) _ _ _
  rw [many_no (by omega), if_neg Bool.false_ne_true]
  show wpAny _ _ (newTuple acc.toList >>= _) _ _ _
  refine wpAny_bind (wpAny_newTuple ?_ (by rw [hl, sizeLine_eq]; omega))
  show wpAny _ _ (Builtin.Itertools.itNewRecord (.type "itertools.permutations") ([.ref h'.objs.size, rawInt (if (((r : Nat) : Int).toNat) > acc.toList.length then 2 else 0), rawInt ((((r : Nat) : Int).toNat : Nat) : Int), .none] ++ ((List.range acc.toList.length).map fun (i : Nat) => rawInt i) ++ (List.range (((r : Nat) : Int).toNat)).map fun (i : Nat) => rawInt ((acc.toList.length : Int) - i)) >>= _) _ _ _
  rw [Int.toNat_natCast, if_neg (by omega), hl]
  refine wpAny_bind (rec_new bare_perm (by simp; omega) (wpAny_pure ?_))
  have e : (([.ref h'.objs.size, rawInt 0, rawInt (r : Nat), .none] ++ ((List.range d).map fun (i : Nat) => rawInt i) ++ (List.range r).map fun (i : Nat) => rawInt ((d : Int) - i) : List Value)) = .ref h'.objs.size :: rawInt 0 :: rawInt (r : Nat) :: .none :: (numsP d r 0).map fun n => rawInt (n : Nat) := by
    rw [numsP, if_pos (by omega), List.map_append, List.map_map]
    show _ = .ref h'.objs.size :: rawInt 0 :: rawInt (r : Nat) :: .none :: (_ ++ _)
    have e2 : ((List.range r).map fun (i : Nat) => rawInt ((d : Int) - i)) = (List.range r).map ((fun n : Nat => rawInt (n : Nat)) ∘ fun x => d - x) := List.map_congr_left fun i hi => by
      have := List.mem_range.mp hi
      show rawInt ((d : Int) - i) = rawInt ((d - i : Nat) : Int)
      rw [Int.ofNat_sub (by omega)]
    rw [e2]
    rfl
  rw [e]
  exact h h' tk acc.toList hk hv
theorem call_comb {Q : Value → Shared → Prop} (hh : A.handled = none) (hd : d ≤ 2) (hr' : r ≤ d) (hr : IsRange s.heap rg 0 (d : Nat) 1 t u v)
    (h : ∀ (h' : Heap) (tk : Nat) (vs : List Value), (∀ b o, s.heap.get? b = some o → h'.get? b = some o) → Vals ((List.range d).map fun n => V.int (n : Nat)) vs →
      Q (.ref (h'.push (poolO vs)).objs.size) { s with heap := (h'.push (poolO vs)).push (recC r 0 h'.objs.size .none), toks := tk }) :
    wpAny (model prog w) A (call (.type "itertools.combinations") [.ref rg, .int (r : Nat) t']) Q E s := by
  refine callType_codes (Q₁ := fun obj s₁ => s₁.TypeIs obj "itertools.combinations" ∧ Q obj s₁) called_comb (tcall_comb _ _) F.entry_object_init
    (code_comb (A := A.in1) hh hd hr' hr fun h' tk vs hk hv => ⟨⟨_, Heap.get?_push_size _ rfl, rfl⟩, h h' tk vs hk hv⟩) fun obj s₁ h₁ => ?_
  exact ⟨h₁.1, F.args_object_init_3 obj _ _, object_init_meets called_comb.init.lookup called_comb.made (by decide) prog w A.in1 _ s₁ ⟨h₁.1, rfl, h₁.2⟩⟩
theorem call_perm {Q : Value → Shared → Prop} (hh : A.handled = none) (hd : d ≤ 2) (hr' : r ≤ d) (hr : IsRange s.heap rg 0 (d : Nat) 1 t u v)
    (h : ∀ (h' : Heap) (tk : Nat) (vs : List Value), (∀ b o, s.heap.get? b = some o → h'.get? b = some o) → Vals ((List.range d).map fun n => V.int (n : Nat)) vs →
      Q (.ref (h'.push (poolO vs)).objs.size) { s with heap := (h'.push (poolO vs)).push (recP d r 0 h'.objs.size .none), toks := tk }) :
    wpAny (model prog w) A (call (.type "itertools.permutations") [.ref rg, .int (r : Nat) t']) Q E s := by
  refine callType_codes (Q₁ := fun obj s₁ => s₁.TypeIs obj "itertools.permutations" ∧ Q obj s₁) called_perm (tcall_perm _ _) F.entry_object_init
    (code_perm (A := A.in1) hh hd hr' hr fun h' tk vs hk hv => ⟨⟨_, Heap.get?_push_size _ rfl, rfl⟩, h h' tk vs hk hv⟩) fun obj s₁ h₁ => ?_
  exact ⟨h₁.1, F.args_object_init_3 obj _ _, object_init_meets called_perm.init.lookup called_perm.made (by decide) prog w A.in1 _ s₁ ⟨h₁.1, rfl, h₁.2⟩⟩
end
end DW

/-! Dw13: combinations and permutations of at most two. -/
namespace DW
open PySem PySem.Spec PyProof.Rows L2
theorem comb_in {d r : Nat} (hd : d ≤ 2) (hr : r ≤ d) : (combT d r).length ≤ 2 ∧ ∀ l ∈ combT d r, l.length ≤ 2 ∧ ∀ i ∈ l, i < d := by
  rcases sml hd with z | z | z <;> subst z
  · obtain rfl : r = 0 := Nat.le_zero.mp hr
    decide
  · rcases sm1 hr with z | z <;> subst z <;> decide
  · rcases sml hr with z | z | z <;> subst z <;> decide
theorem perm_in {d r : Nat} (hd : d ≤ 2) (hr : r ≤ d) : (permT d r).length ≤ 2 ∧ ∀ l ∈ permT d r, l.length ≤ 2 ∧ ∀ i ∈ l, i < d := by
  rcases sml hd with z | z | z <;> subst z
  · obtain rfl : r = 0 := Nat.le_zero.mp hr
    decide
  · rcases sm1 hr with z | z <;> subst z <;> decide
  · rcases sml hr with z | z | z <;> subst z <;> decide
section
variable {X : Cx} {k : Nat} {e a b tg : Expr} {ρ ρ' : List SV} {μ μ1 μ2 μ' : List MO} {pos p p1 p2 p3 p4 p5 : Pos} {d r : Nat} {x : Str} {C : String} {rc : Addr → Nat → Value → Obj} {T : List (List Nat)} {B : Bs} {F H : Hp} {σ : L2.St} {as : List Addr}
def outV (T : List (List Nat)) (vs : List Value) : List (List Value) := T.map fun ns => ns.map fun n => vs.getD n .none
def outX (T : List (List Nat)) : List (List V) := T.map fun ns => ns.map fun n => V.int (n : Nat)
def outD (T : List (List Nat)) : List PyData := T.map fun ns => .tuple (ns.map fun n => .int (n : Nat))
/-- how the class makes its iterator -/
structure Mk (X : Cx) (x : Str) (C : String) (rc : Addr → Nat → Value → Obj) (T : List (List Nat)) (d r : Nat) : Prop where
  name : X.mg x = some (.type C)
  plain : ["enumerate", "zip", "dict_itemiterator", "dict_reverseitemiterator", "odict_iterator", "itertools.zip_longest", "itertools.pairwise"].contains C = false ∧ C ≠ "list" ∧ C ≠ "tuple"
  cit : ∀ vs : List Value, vs.length = d → CIt X.prog X.w C rc vs (outV T vs)
  few : T.length ≤ 2 ∧ ∀ l ∈ T, l.length ≤ 2 ∧ ∀ i ∈ l, i < d
  make : ∀ (A : Around) (E : Value → Shared → Prop) (s : Shared) (rg : Addr) (t u v t' : Tok) (Q : Value → Shared → Prop), A.handled = none → IsRange s.heap rg 0 (d : Nat) 1 t u v →
    (∀ (h' : Heap) (tk : Nat) (vs : List Value), (∀ b o, s.heap.get? b = some o → h'.get? b = some o) → Vals ((List.range d).map fun n => V.int (n : Nat)) vs →
      Q (.ref (h'.push (poolO vs)).objs.size) { s with heap := (h'.push (poolO vs)).push (rc h'.objs.size 0 .none), toks := tk }) →
    wpAny (model X.prog X.w) A (call (.type C) [.ref rg, .int (r : Nat) t']) Q E s
theorem mk_comb (hm : X.mg "combinations" = some (.type "itertools.combinations")) (hd : d ≤ 2) (hr : r ≤ d) : Mk X "combinations" "itertools.combinations" (fun pl i l => recC r i pl l) (combT d r) d r where
  name := hm
  plain := by decide
  cit := fun vs hv => cit_comb hv hd hr
  few := comb_in hd hr
  make := fun A E s rg t u v t' Q hh hg h => call_comb hh hd hr hg h
theorem mk_perm (hm : X.mg "permutations" = some (.type "itertools.permutations")) (hd : d ≤ 2) (hr : r ≤ d) : Mk X "permutations" "itertools.permutations" (fun pl i l => recP d r i pl l) (permT d r) d r where
  name := hm
  plain := by decide
  cit := fun vs hv => cit_perm hv hd hr
  few := perm_in hd hr
  make := fun A E s rg t u v t' Q hh hg h => call_perm hh hd hr hg h
theorem out_vals (few : T.length ≤ 2 ∧ ∀ l ∈ T, l.length ≤ 2 ∧ ∀ i ∈ l, i < d) {vs : List Value} (hv : Vals ((List.range d).map fun n => V.int (n : Nat)) vs) : ∀ (i : Nat) xs us, (outX T)[i]? = some xs → (outV T vs)[i]? = some us → Vals xs us ∧ xs.length ≤ 2 := by
  intro i xs us hx hu
  rw [outX, List.getElem?_map] at hx
  rw [outV, List.getElem?_map] at hu
  cases q : T[i]? with
  | none => rw [q] at hx; cases hx
  | some ns =>
    rw [q] at hx hu
    have hx' := Option.some.inj hx
    have hu' := Option.some.inj hu
    subst hx' hu'
    obtain ⟨h1, h2⟩ := few.2 ns (List.mem_of_getElem? q)
    refine ⟨?_, by rw [List.length_map]; exact h1⟩
    clear q hx hu h1
    induction ns with
    | nil => exact .nil
    | cons n ns ih =>
      refine .cons ?_ (ih fun i hi => h2 i (List.mem_cons_of_mem _ hi))
      have hn := h2 n List.mem_cons_self
      obtain ⟨u, hu, ru⟩ := hv.get (i := n) (x := V.int (n : Nat)) (by rw [List.getElem?_map, List.getElem?_range hn]; rfl)
      show RelV _ (vs.getD n .none)
      rw [List.getD_eq_getElem?_getD, hu]
      exact ru
theorem ints_dp {K : PySem.W.Frag} {F : Hp} : ∀ ns : List Nat, DpAll K F (ns.map fun n => V.int (n : Nat)) (ns.map fun n => PyData.int (n : Nat))
  | [] => .nil
  | n :: ns => .cons (.int _) (ints_dp ns)
/-- the iterator is made: x(range(a), b) -/
theorem mk_run (M : Mk X x C rc T d r) (hm2 : X.mg "range" = none) (ha : EV X a ρ μ (.int (d : Nat)) μ1) (hb : EV X b ρ μ1 (.int (r : Nat)) μ2) (hd : d ≤ 2) (hc : X.calm = true) (R : SR X B F H σ ρ μ as) {R' : Value → Shared → Prop} {pins : List (Addr × Obj)} {s : Shared} (I : Inv X pins σ H s)
    (K : ∀ it pl vs s' F' H', SR X B F' H' σ ρ μ2 as → Gr as F H F' H' → Inv X pins σ H' s' → CSt rc it pl vs 0 s'.heap → (∀ q ∈ [it, pl], FpOk X pins H' q) → Vals ((List.range d).map fun n => V.int (n : Nat)) vs → R' (.ref it) s')
    (hg : Gl X x) (hdb : (x == ("__debug__" : Str)) = false) (hg2 : Gl X "range" := by unfold Gl; kernel_rfl) (na : starEach [a] X.env = (false, eval a X.env) :: starEach [] X.env := by kernel_rfl)
    (nx : starEach [.Call (.Name "range" p2) [a] [] p3, b] X.env = (false, eval (.Call (.Name "range" p2) [a] [] p3) X.env) :: starEach [b] X.env := by kernel_rfl) (nb : starEach [b] X.env = (false, eval b X.env) :: starEach [] X.env := by kernel_rfl) (hpl : (backTo p4 (starEach [b] X.env)).any (·.1) = false := by kernel_rfl) :
    wpAny (model X.prog X.w) X.A (eval (.Call (.Name x p1) [.Call (.Name "range" p2) [a] [] p3, b] [] p4) X.env) R' X.xe s := by
  have h1 : wpE X a σ H (fun v H1 => v = .int (d : Nat) ∧ ∃ F1, SR X B F1 H1 σ ρ μ1 as ∧ Gr as F H F1 H1) := ha.run B F H σ as R _ fun v F1 H1 R1 g1 e1 => ⟨e1.int_inv, F1, R1, g1⟩
  refine Call_ (ld_glob I hg M.name (PyProof.Rows.callWith_type1 (args_cons (Call_ (ld_blt I hg2 hm2 boot_range (PyProof.Rows.callWith_type1 (args_cons (thn (h1 pins s I) fun v s1 ⟨y, H1, I1, r1, ey, F1, R1, g1⟩ => args_nil ?_) na) na))) nx) nx hpl) hdb)
  subst ey
  obtain ⟨t, rfl⟩ := r1
  refine call_range_1 ?_
  have hrg := IsRange.new s1.heap 0 (d : Nat) 1 s1.toks t (s1.toks + 1)
  have k1 : ∀ q o, s1.heap.get? q = some o → (s1.heap.push { cls := .type "range", data := .fields #[.int 0 s1.toks, .int (d : Nat) t, .int 1 (s1.toks + 1)] }).get? q = some o := fun q o e => Heap.get?_push_of_some _ e
  have I2 := I1.kept (t' := s1.toks + 1 + 1) k1
  have fp := I1.fpOk (b := s1.heap.objs.size) (Nat.le_refl _) (I1.hok.fresh (Nat.le_refl _))
  have I2' := I2.pins_of (pins' := pins ++ [(s1.heap.objs.size, _)]) fun p hp => (List.mem_append.mp hp).elim (fun z => I2.pin p (List.mem_append_right _ z)) fun z => by
    have e : p = (s1.heap.objs.size, { cls := .type "range", data := .fields #[.int 0 s1.toks, .int (d : Nat) t, .int 1 (s1.toks + 1)] }) := by simpa using z
    subst e
    exact ⟨hrg, fp.1, fp.2.1, fp.2.2.1, fun v q => by cases q⟩
  have h2 : wpE X b σ H1 (fun v H2 => v = .int (r : Nat) ∧ ∃ F2, SR X B F2 H2 σ ρ μ2 as ∧ Gr as F1 H1 F2 H2) := hb.run B F1 H1 σ as R1 _ fun v F2 H2 R2 g2 e2 => ⟨e2.int_inv, F2, R2, g2⟩
  refine args_cons (thn (h2 _ _ I2') fun v s3 ⟨y, H2, I3, r3, ey, F2, R2, g2⟩ => args_nil ?_) nb
  subst ey
  obtain ⟨t', rfl⟩ := r3
  have hrg3 : IsRange s3.heap s1.heap.objs.size 0 (d : Nat) 1 s1.toks t (s1.toks + 1) := (I3.pin (s1.heap.objs.size, _) (List.mem_append_right _ (List.mem_append_right _ List.mem_cons_self))).1
  have I3' : Inv X pins σ H2 s3 := I3.unpinned
  refine M.make _ _ _ _ _ _ _ _ _ (I3'.ok.hd hc) hrg3 fun h' tk vs hk hv => ?_
  have I4 : Inv X pins σ H2 { s3 with heap := h', toks := tk } := I3'.kept hk
  have z1 : (h'.push (poolO vs)).objs.size = h'.objs.size + 1 := Heap.size_push ..
  have I5 : Inv X pins σ H2 { s3 with heap := (h'.push (poolO vs)).push (rc h'.objs.size 0 .none), toks := tk } := I4.kept (t' := tk) fun q o e => Heap.get?_push_of_some _ (Heap.get?_push_of_some _ e)
  obtain ⟨fs, ef⟩ := (M.cit vs (by rw [← hv.length, List.length_map, List.length_range])).shape h'.objs.size 0 .none
  refine K _ h'.objs.size vs _ F2 H2 R2 (g1.trans g2) I5 ⟨⟨.none, Heap.get?_push_size _ (by rw [ef]; rfl)⟩, Heap.get?_push_of_some _ (Heap.get?_push_size _ rfl), by rw [z1]; exact Nat.succ_ne_self _⟩ (fun q hq => ?_) hv
  have hle : h'.objs.size ≤ q := by
    have e' : q = (h'.push (poolO vs)).objs.size ∨ q = h'.objs.size := by simpa using hq
    rcases e' with z | z
    · rw [z, z1]; exact Nat.le_succ _
    · rw [z]; exact Nat.le_refl _
  exact I4.fpOk hle (I4.hok.fresh hle)
theorem iv_mk (M : Mk X x C rc T d r) (hm2 : X.mg "range" = none) (ha : EV X a ρ μ (.int (d : Nat)) μ1) (hb : EV X b ρ μ1 (.int (r : Nat)) μ2) (hd : d ≤ 2) (hc : X.calm = true)
    (hg : Gl X x) (hdb : (x == ("__debug__" : Str)) = false) (hg2 : Gl X "range" := by unfold Gl; kernel_rfl) (na : starEach [a] X.env = (false, eval a X.env) :: starEach [] X.env := by kernel_rfl)
    (nx : starEach [.Call (.Name "range" p2) [a] [] p3, b] X.env = (false, eval (.Call (.Name "range" p2) [a] [] p3) X.env) :: starEach [b] X.env := by kernel_rfl) (nb : starEach [b] X.env = (false, eval b X.env) :: starEach [] X.env := by kernel_rfl) (hpl : (backTo p4 (starEach [b] X.env)).any (·.1) = false := by kernel_rfl) :
    IV X tg (.Call (.Name x p1) [.Call (.Name "range" p2) [a] [] p3, b] [] p4) ρ μ (outD T) μ2 := .mk fun B F H σ as R Q q pins s I => by
  refine mk_run M hm2 ha hb hd hc R I (fun it pl vs s' F' H' R' g' I' st hf hv => ?_) hg hdb hg2 na nx nb hpl
  have c := M.cit vs (by rw [← hv.length, List.length_map, List.length_range])
  refine c.self _ _ _ _ _ (st.type c) ⟨it, [it, pl], CSt rc it pl vs, CJ (outX T), H', rfl, I', turn_ci c M.plain.1 (by rw [outX, outV, List.length_map, List.length_map]) (out_vals M.few hv), st, hf, q _ F' H' R' g' ?_⟩
  have el : (outD T).length = (outX T).length := by rw [outX, outD, List.length_map, List.length_map]
  refine ⟨(CJ (outX T)).yld, by rw [el]; exact ⟨fun i _ hi _ => hi, fun _ _ => rfl, fun i _ v _ _ _ y => y⟩, fun i H0 v H1 F0 hi e1 e2 y => ?_⟩
  obtain ⟨T0, xs, rfl, hT, rfl, hx⟩ := y
  rw [outX, List.getElem?_map] at hx
  cases qn : T[i]? with
  | none => rw [qn] at hx; cases hx
  | some ns =>
    rw [qn] at hx
    have hx' := Option.some.inj hx
    subst hx'
    exact ⟨_, .tuple (ns.map fun n => .int (n : Nat)), New.mk hT, by rw [outD, List.getElem?_map, qn]; rfl, .tup (.inl (.inl upd_same)) (ints_dp ns)⟩
theorem ef_mk (M : Mk X x C rc T d r) (hm : X.mg "list" = none) (hm2 : X.mg "range" = none) (ha : EV X a ρ μ (.int (d : Nat)) μ1) (hb : EV X b ρ μ1 (.int (r : Nat)) μ2) (hd : d ≤ 2) (hc : X.calm = true)
    (hg : Gl X x) (hdb : (x == ("__debug__" : Str)) = false) (hg3 : Gl X "list" := by unfold Gl; kernel_rfl) (hg2 : Gl X "range" := by unfold Gl; kernel_rfl) (na : starEach [a] X.env = (false, eval a X.env) :: starEach [] X.env := by kernel_rfl)
    (nx : starEach [.Call (.Name "range" p2) [a] [] p3, b] X.env = (false, eval (.Call (.Name "range" p2) [a] [] p3) X.env) :: starEach [b] X.env := by kernel_rfl) (nb : starEach [b] X.env = (false, eval b X.env) :: starEach [] X.env := by kernel_rfl) (hpl : (backTo p4 (starEach [b] X.env)).any (·.1) = false := by kernel_rfl)
    (nl : starEach [.Call (.Name x p1) [.Call (.Name "range" p2) [a] [] p3, b] [] p4] X.env = (false, eval (.Call (.Name x p1) [.Call (.Name "range" p2) [a] [] p3, b] [] p4) X.env) :: starEach [] X.env := by kernel_rfl) :
    EF X (.Call (.Name "list" p) [.Call (.Name x p1) [.Call (.Name "range" p2) [a] [] p3, b] [] p4] [] pos) ρ μ (outD T) μ2 := .mk fun B F H σ as R Q q pins s I => by
  refine Call_ (ld_blt I hg3 hm boot_list (PyProof.Rows.callWith_type1 (args_cons (mk_run M hm2 ha hb hd hc R I (fun it pl vs s' F' H' R' g' I' st hf hv => args_nil ?_) hg hdb hg2 na nx nb hpl) nl) nl))
  have c := M.cit vs (by rw [← hv.length, List.length_map, List.length_range])
  have lX : (outX T).length = T.length := by rw [outX, List.length_map]
  refine ci_list (xss := outX T) (W := fun i acc Hi => ∃ Fi, SR X B Fi Hi σ ρ μ2 as ∧ Gr as F H Fi Hi ∧ DpAll X.K Fi acc ((outD T).take i)) c M.plain.2 (I'.ok.hd hc) (by rw [outX, outV, List.length_map, List.length_map]) (out_vals M.few hv) (by rw [lX]; exact M.few.1)
    (fun i acc Hi T0 xs hx ⟨Fi, Ri, gi, di⟩ hT => ?_) (fun acc Hi q0 hq0 hq1 ⟨Fi, Ri, gi, di⟩ => ?_) I' (hf it (by simp)) st ⟨F', R', g', .nil⟩
  · rw [outX, List.getElem?_map] at hx
    cases qn : T[i]? with
    | none => rw [qn] at hx; cases hx
    | some ns =>
      rw [qn] at hx
      have hx' := Option.some.inj hx
      subst hx'
      refine ⟨_, Ri.data hT, gi.trans (Gr.data Ri.fh hT), ?_⟩
      have ed : (outD T)[i]? = some (.tuple (ns.map fun n => .int (n : Nat))) := by rw [outD, List.getElem?_map, qn]; rfl
      have hi : i < (outD T).length := (List.getElem?_eq_some_iff.mp ed).1
      rw [List.take_succ, ed]
      exact (di.up (same_new (Ri.freeF hT))).app (.cons (.tup (.inl (.inl upd_same)) (ints_dp ns)) .nil)
  · have z := done_lst (vs := acc) Ri gi hq1
    have e : (outD T).take (outX T).length = outD T := List.take_of_length_le (by rw [outX, outD, List.length_map, List.length_map]; exact Nat.le_refl _)
    rw [e] at di
    exact q q0 acc Fi _ z.1 z.2.1 z.2.2.1 z.2.2.2.1 z.2.2.2.2 di
theorem ef_listComb (hm : X.mg "list" = none) (hm2 : X.mg "range" = none) (hm3 : X.mg "combinations" = some (.type "itertools.combinations")) (ha : EV X a ρ μ (.int (d : Nat)) μ1) (hb : EV X b ρ μ1 (.int (r : Nat)) μ2) (hd : d ≤ 2) (hr : r ≤ d) (hc : X.calm = true := by kernel_rfl)
    (hg : Gl X "combinations" := by unfold Gl; kernel_rfl) (hg3 : Gl X "list" := by unfold Gl; kernel_rfl) (hg2 : Gl X "range" := by unfold Gl; kernel_rfl) (na : starEach [a] X.env = (false, eval a X.env) :: starEach [] X.env := by kernel_rfl)
    (nx : starEach [.Call (.Name "range" p2) [a] [] p3, b] X.env = (false, eval (.Call (.Name "range" p2) [a] [] p3) X.env) :: starEach [b] X.env := by kernel_rfl) (nb : starEach [b] X.env = (false, eval b X.env) :: starEach [] X.env := by kernel_rfl) (hpl : (backTo p4 (starEach [b] X.env)).any (·.1) = false := by kernel_rfl)
    (nl : starEach [.Call (.Name "combinations" p1) [.Call (.Name "range" p2) [a] [] p3, b] [] p4] X.env = (false, eval (.Call (.Name "combinations" p1) [.Call (.Name "range" p2) [a] [] p3, b] [] p4) X.env) :: starEach [] X.env := by kernel_rfl) :
    EF X (.Call (.Name "list" p) [.Call (.Name "combinations" p1) [.Call (.Name "range" p2) [a] [] p3, b] [] p4] [] pos) ρ μ ((combT d r).map fun ns => .tuple (ns.map fun n => .int (n : Nat))) μ2 :=
  ef_mk (mk_comb hm3 hd hr) hm hm2 ha hb hd hc hg (by decide) hg3 hg2 na nx nb hpl nl
theorem ef_listPerm (hm : X.mg "list" = none) (hm2 : X.mg "range" = none) (hm3 : X.mg "permutations" = some (.type "itertools.permutations")) (ha : EV X a ρ μ (.int (d : Nat)) μ1) (hb : EV X b ρ μ1 (.int (r : Nat)) μ2) (hd : d ≤ 2) (hr : r ≤ d) (hc : X.calm = true := by kernel_rfl)
    (hg : Gl X "permutations" := by unfold Gl; kernel_rfl) (hg3 : Gl X "list" := by unfold Gl; kernel_rfl) (hg2 : Gl X "range" := by unfold Gl; kernel_rfl) (na : starEach [a] X.env = (false, eval a X.env) :: starEach [] X.env := by kernel_rfl)
    (nx : starEach [.Call (.Name "range" p2) [a] [] p3, b] X.env = (false, eval (.Call (.Name "range" p2) [a] [] p3) X.env) :: starEach [b] X.env := by kernel_rfl) (nb : starEach [b] X.env = (false, eval b X.env) :: starEach [] X.env := by kernel_rfl) (hpl : (backTo p4 (starEach [b] X.env)).any (·.1) = false := by kernel_rfl)
    (nl : starEach [.Call (.Name "permutations" p1) [.Call (.Name "range" p2) [a] [] p3, b] [] p4] X.env = (false, eval (.Call (.Name "permutations" p1) [.Call (.Name "range" p2) [a] [] p3, b] [] p4) X.env) :: starEach [] X.env := by kernel_rfl) :
    EF X (.Call (.Name "list" p) [.Call (.Name "permutations" p1) [.Call (.Name "range" p2) [a] [] p3, b] [] p4] [] pos) ρ μ ((permT d r).map fun ns => .tuple (ns.map fun n => .int (n : Nat))) μ2 :=
  ef_mk (mk_perm hm3 hd hr) hm hm2 ha hb hd hc hg (by decide) hg3 hg2 na nx nb hpl nl
theorem iv_comb (hm2 : X.mg "range" = none) (hm3 : X.mg "combinations" = some (.type "itertools.combinations")) (ha : EV X a ρ μ (.int (d : Nat)) μ1) (hb : EV X b ρ μ1 (.int (r : Nat)) μ2) (hd : d ≤ 2) (hr : r ≤ d) (hc : X.calm = true := by kernel_rfl)
    (hg : Gl X "combinations" := by unfold Gl; kernel_rfl) (hg2 : Gl X "range" := by unfold Gl; kernel_rfl) (na : starEach [a] X.env = (false, eval a X.env) :: starEach [] X.env := by kernel_rfl)
    (nx : starEach [.Call (.Name "range" p2) [a] [] p3, b] X.env = (false, eval (.Call (.Name "range" p2) [a] [] p3) X.env) :: starEach [b] X.env := by kernel_rfl) (nb : starEach [b] X.env = (false, eval b X.env) :: starEach [] X.env := by kernel_rfl) (hpl : (backTo p4 (starEach [b] X.env)).any (·.1) = false := by kernel_rfl) :
    IV X tg (.Call (.Name "combinations" p1) [.Call (.Name "range" p2) [a] [] p3, b] [] p4) ρ μ ((combT d r).map fun ns => .tuple (ns.map fun n => .int (n : Nat))) μ2 :=
  iv_mk (mk_comb hm3 hd hr) hm2 ha hb hd hc hg (by decide) hg2 na nx nb hpl
end
end DW

/-! M0: rational numbers of few bits. -/
namespace DM
def G : Nat := 5040
theorem G1 : 1 ≤ G := by decide
theorem G0 : 0 < G := by decide
/-- a lattice: whole multiples of 1 / G ^ k, not too great -/
def Fit (k : Nat) (q : Rat) : Prop := ∃ z : Int, q * ((G ^ k : Nat) : Rat) = (z : Rat) ∧ z.natAbs ≤ G ^ (2 * k)
theorem gpos (k : Nat) : (0 : Rat) < ((G ^ k : Nat) : Rat) := Rat.natCast_pos.mpr (Nat.pow_pos G0)
theorem gne (k : Nat) : ((G ^ k : Nat) : Rat) ≠ 0 := (Rat.ne_of_gt (gpos k))
theorem gsucc (k : Nat) : ((G ^ (k + 1) : Nat) : Rat) = ((G ^ k : Nat) : Rat) * ((G : Nat) : Rat) := by
  rw [Nat.pow_succ, Rat.natCast_mul]
theorem Fit.up {k : Nat} {q : Rat} (h : Fit k q) : Fit (k + 1) q := by
  obtain ⟨z, h1, h2⟩ := h
  refine ⟨z * (G : Nat), ?_, ?_⟩
  · rw [gsucc, ← Rat.mul_assoc, h1, Rat.intCast_mul, Rat.intCast_natCast]
  · rw [Int.natAbs_mul, show 2 * (k + 1) = 2 * k + 1 + 1 from rfl, Nat.pow_succ, Nat.pow_succ]
    show z.natAbs * G ≤ G ^ (2 * k) * G * G
    have h3 : z.natAbs * G ≤ G ^ (2 * k) * G := Nat.mul_le_mul_right _ h2
    exact Nat.le_trans h3 (Nat.le_mul_of_pos_right _ G0)
theorem Fit.mono {k j : Nat} {q : Rat} (h : Fit k q) (e : k ≤ j) : Fit j q := by
  induction e with
  | refl => exact h
  | step _ ih => exact ih.up
theorem Fit.mul {k j : Nat} {p q : Rat} (h : Fit k p) (h' : Fit j q) : Fit (k + j) (p * q) := by
  obtain ⟨z, h1, h2⟩ := h
  obtain ⟨w, h3, h4⟩ := h'
  refine ⟨z * w, ?_, ?_⟩
  · rw [Nat.pow_add, Rat.natCast_mul, Rat.intCast_mul, ← h1, ← h3]
    grind
  · rw [Int.natAbs_mul, Nat.mul_add, Nat.pow_add]
    exact Nat.mul_le_mul h2 h4
/-- partial sums -/
theorem fit_foldl {k : Nat} : ∀ (xs : List Rat) (n : Nat) (a : Rat), (∀ x ∈ xs, Fit k x) → (∃ z : Int, a * ((G ^ k : Nat) : Rat) = (z : Rat) ∧ z.natAbs ≤ n * G ^ (2 * k)) → ∃ z : Int, (xs.foldl (· + ·) a) * ((G ^ k : Nat) : Rat) = (z : Rat) ∧ z.natAbs ≤ (n + xs.length) * G ^ (2 * k)
  | [], n, a, _, h => h
  | x :: xs, n, a, hx, h => by
    obtain ⟨z, h1, h2⟩ := h
    obtain ⟨w, h3, h4⟩ := hx x List.mem_cons_self
    have := fit_foldl xs (n + 1) (a + x) (fun y hy => hx y (List.mem_cons_of_mem _ hy)) ⟨z + w, by rw [Rat.add_mul, h1, h3, Rat.intCast_add], by
      have := Int.natAbs_add_le z w
      rw [Nat.add_mul, Nat.one_mul]
      omega⟩
    rw [List.length_cons, ← Nat.add_assoc, Nat.add_right_comm]
    exact this
theorem fit_small {k n : Nat} {q : Rat} (h : ∃ z : Int, q * ((G ^ k : Nat) : Rat) = (z : Rat) ∧ z.natAbs ≤ n * G ^ (2 * k)) (hn : n ≤ G) : Fit (k + 1) q := by
  obtain ⟨z, h1, h2⟩ := h
  refine ⟨z * (G : Nat), ?_, ?_⟩
  · rw [gsucc, ← Rat.mul_assoc, h1, Rat.intCast_mul, Rat.intCast_natCast]
  · rw [Int.natAbs_mul, show 2 * (k + 1) = 2 * k + 1 + 1 from rfl, Nat.pow_succ, Nat.pow_succ]
    show z.natAbs * G ≤ G ^ (2 * k) * G * G
    have h3 : n * G ^ (2 * k) ≤ G * G ^ (2 * k) := Nat.mul_le_mul_right _ hn
    have h4 : z.natAbs * G ≤ (G * G ^ (2 * k)) * G := Nat.mul_le_mul_right _ (Nat.le_trans h2 h3)
    rw [Nat.mul_comm G (G ^ (2 * k))] at h4
    exact h4
theorem Fit.sum {k : Nat} {xs : List Rat} (h : ∀ x ∈ xs, Fit k x) (hl : xs.length ≤ G) : Fit (k + 1) (xs.foldl (· + ·) 0) := by
  have := fit_foldl xs 0 0 h ⟨0, by rw [Rat.zero_mul]; rfl, by simp⟩
  rw [Nat.zero_add] at this
  exact fit_small this hl
theorem fit_zero (k : Nat) : Fit k 0 := ⟨0, by rw [Rat.zero_mul]; rfl, Nat.zero_le _⟩
theorem fit_int {n : Int} (h : n.natAbs ≤ G) : Fit 1 (n : Rat) := by
  refine ⟨n * (G : Nat), ?_, ?_⟩
  · rw [Rat.intCast_mul, Nat.pow_one, Rat.intCast_natCast]
  · rw [Int.natAbs_mul]
    have : n.natAbs * G ≤ G * G := Nat.mul_le_mul_right _ h
    show n.natAbs * G ≤ G ^ 2
    rw [Nat.pow_two]
    exact this
theorem Fit.add {k : Nat} {p q : Rat} (h : Fit k p) (h' : Fit k q) : Fit (k + 1) (p + q) := by
  have := Fit.sum (k := k) (xs := [p, q]) (fun x hx => by
    rcases List.mem_cons.mp hx with e | hx
    · rw [e]; exact h
    · rcases List.mem_cons.mp hx with e | hx
      · rw [e]; exact h'
      · cases hx) (show 2 ≤ G by decide)
  simpa [Rat.zero_add] using this
/-- a / b with b below ten -/
theorem fit_frac {a : Int} {b : Nat} (hb : 0 < b) (hb2 : G % b = 0) (ha : a.natAbs ≤ G) : Fit 1 (mkRat a b) := by
  obtain ⟨c, hc⟩ := Nat.dvd_of_mod_eq_zero hb2
  refine ⟨a * (c : Nat), ?_, ?_⟩
  · have hb' : (b : Rat) ≠ 0 := by
      intro z
      have := Rat.natCast_eq_zero_iff.mp z
      omega
    rw [Rat.mkRat_eq_div, show (G ^ 1 : Nat) = b * c from (Nat.pow_one G).trans hc, Rat.natCast_mul, Rat.intCast_mul, ← Rat.mul_assoc, Rat.div_mul_cancel hb', Rat.intCast_natCast]
  · rw [Int.natAbs_mul]
    have h1 : c ≤ G := by
      have : 1 * c ≤ b * c := Nat.mul_le_mul_right _ hb
      rw [Nat.one_mul, ← hc] at this
      exact this
    have h2 : a.natAbs * c ≤ G * G := Nat.mul_le_mul ha h1
    show a.natAbs * c ≤ G ^ 2
    rw [Nat.pow_two]
    exact h2
theorem fit_bits {k : Nat} {q : Rat} (h : Fit k q) (hk : k ≤ 150) : q.num.natAbs < 2 ^ 4000 ∧ q.den < 2 ^ 4000 := by
  obtain ⟨z, h1, h2⟩ := h
  have hg : G ^ k ≤ 2 ^ (13 * k) := by
    rw [Nat.pow_mul]
    exact Nat.pow_le_pow_left (show G ≤ 2 ^ 13 by decide) k
  have hg2 : G ^ (2 * k) ≤ 2 ^ (13 * (2 * k)) := by
    rw [Nat.pow_mul 2 13]
    exact Nat.pow_le_pow_left (show G ≤ 2 ^ 13 by decide) _
  have e : q = mkRat z (G ^ k) := by
    rw [Rat.mkRat_eq_div, ← h1, Rat.mul_div_cancel (gne k)]
  have hp : 0 < G ^ k := Nat.pow_pos G0
  have n1 : q.num.natAbs ≤ z.natAbs := by
    rw [e, Rat.num_mkRat, if_neg (by omega), Int.natAbs_ediv_of_dvd]
    · exact Nat.div_le_self _ _
    · exact Int.ofNat_dvd_left.mpr (Nat.gcd_dvd_right _ _)
  have n2 : q.den ≤ G ^ k := by
    rw [e, Rat.den_mkRat, if_neg (by omega)]
    exact Nat.div_le_self _ _
  have b1 : 2 ^ (13 * (2 * k)) < 2 ^ 4000 := Nat.pow_lt_pow_right (by decide) (by omega)
  have b2 : 2 ^ (13 * k) < 2 ^ 4000 := Nat.pow_lt_pow_right (by decide) (by omega)
  exact ⟨by omega, by omega⟩
theorem fit_dec {q : Rat} (h : ((q * ((G : Nat) : Rat)).den == 1 && decide ((q * ((G : Nat) : Rat)).num.natAbs ≤ G * G)) = true) : Fit 1 q := by
  rw [Bool.and_eq_true, beq_iff_eq, decide_eq_true_eq] at h
  refine ⟨(q * ((G : Nat) : Rat)).num, ?_, ?_⟩
  · rw [Nat.pow_one]
    apply Rat.ext
    · rfl
    · exact h.1
  · show _ ≤ G ^ 2
    rw [Nat.pow_two]
    exact h.2
/-- what a source's rows hold -/
def Pool (x : Rat) : Prop := x ∈ ([-1, 0, 1 / 2, 1, 2] : List Rat)
theorem pool_fit {x : Rat} (h : Pool x) {n : Nat} (hn : n ≤ 4) : Fit 1 (x ^ n) := by
  have t : ∀ x ∈ ([-1, 0, 1 / 2, 1, 2] : List Rat), ∀ n ∈ ([0, 1, 2, 3, 4] : List Nat), ((x ^ n * ((G : Nat) : Rat)).den == 1 && decide ((x ^ n * ((G : Nat) : Rat)).num.natAbs ≤ G * G)) = true := by decide +kernel
  refine fit_dec (t x h n ?_)
  match n, hn with
  | 0, _ => decide
  | 1, _ => decide
  | 2, _ => decide
  | 3, _ => decide
  | 4, _ => decide
theorem pool_bits {x : Rat} (h : Pool x) : x.num.natAbs < 2 ^ 200 ∧ x.den < 2 ^ 200 := by
  have t : ∀ x ∈ ([-1, 0, 1 / 2, 1, 2] : List Rat), (decide (x.num.natAbs ≤ 2) && decide (x.den ≤ 2)) = true := by decide +kernel
  have q := t x h
  rw [Bool.and_eq_true, decide_eq_true_eq, decide_eq_true_eq] at q
  have : 2 < 2 ^ 200 := by
    have : (2 : Nat) ^ 1 < 2 ^ 200 := Nat.pow_lt_pow_right (by decide) (by decide)
    exact this
  omega
end DM

/-! M1: finite sums, means over a finite source, drawings. -/
namespace DM
abbrev rsum (xs : List Rat) : Rat := xs.foldl (· + ·) 0
theorem foldl_add (xs : List Rat) : ∀ a : Rat, xs.foldl (· + ·) a = a + xs.foldl (· + ·) 0 := by
  induction xs with
  | nil => intro a; simp [Rat.add_zero]
  | cons x xs ih =>
    intro a
    rw [List.foldl_cons, List.foldl_cons, ih (a + x), ih (0 + x), Rat.zero_add, Rat.add_assoc]
theorem rsum_nil : rsum [] = 0 := rfl
theorem rsum_cons (x : Rat) (xs : List Rat) : rsum (x :: xs) = x + rsum xs := by
  show (x :: xs).foldl (· + ·) 0 = _
  rw [List.foldl_cons, foldl_add, Rat.zero_add]
theorem rsum_append (xs ys : List Rat) : rsum (xs ++ ys) = rsum xs + rsum ys := by
  show (xs ++ ys).foldl (· + ·) 0 = _
  rw [List.foldl_append, foldl_add]
theorem rsum_one (x : Rat) : rsum [x] = x := by rw [rsum_cons, rsum_nil, Rat.add_zero]
theorem rsum_snoc (xs : List Rat) (x : Rat) : rsum (xs ++ [x]) = rsum xs + x := by rw [rsum_append, rsum_one]
section
variable {α β : Type}
theorem rsum_add (f g : α → Rat) : ∀ xs : List α, rsum (xs.map fun x => f x + g x) = rsum (xs.map f) + rsum (xs.map g)
  | [] => by simp only [List.map_nil, rsum_nil, Rat.add_zero]
  | x :: xs => by
    have ih := rsum_add f g xs
    simp only [List.map_cons, rsum_cons, ih]
    grind
theorem rsum_mul (c : Rat) (f : α → Rat) : ∀ xs : List α, rsum (xs.map fun x => c * f x) = c * rsum (xs.map f)
  | [] => by simp only [List.map_nil, rsum_nil, Rat.mul_zero]
  | x :: xs => by
    have ih := rsum_mul c f xs
    simp only [List.map_cons, rsum_cons, ih]
    grind
theorem rsum_mul_r (c : Rat) (f : α → Rat) (xs : List α) : rsum (xs.map fun x => f x * c) = rsum (xs.map f) * c := by
  have := rsum_mul c f xs
  simp only [Rat.mul_comm c] at this
  exact this
theorem rsum_congr {f g : α → Rat} {xs : List α} (h : ∀ x ∈ xs, f x = g x) : rsum (xs.map f) = rsum (xs.map g) := by
  rw [List.map_congr_left h]
theorem rsum_zero (xs : List α) : rsum (xs.map fun _ => (0 : Rat)) = 0 := by
  have := rsum_mul 0 (fun _ : α => (0 : Rat)) xs
  simp only [Rat.zero_mul] at this
  exact this
theorem rsum_flat (f : α → List Rat) : ∀ xs : List α, rsum (xs.flatMap f) = rsum (xs.map fun x => rsum (f x))
  | [] => rfl
  | x :: xs => by
    rw [List.flatMap_cons, rsum_append, List.map_cons, rsum_cons, rsum_flat f xs]
theorem rsum_mapflat (f : α → List β) (g : β → Rat) (xs : List α) : rsum ((xs.flatMap f).map g) = rsum (xs.map fun x => rsum ((f x).map g)) := by
  rw [List.map_flatMap, rsum_flat]
theorem rsum_comm (f : α → β → Rat) (ys : List β) : ∀ xs : List α, rsum (xs.map fun x => rsum (ys.map fun y => f x y)) = rsum (ys.map fun y => rsum (xs.map fun x => f x y))
  | [] => by simp only [List.map_nil, rsum_nil, rsum_zero]
  | x :: xs => by
    simp only [List.map_cons, rsum_cons]
    rw [rsum_comm f ys xs, rsum_add]
theorem rsum_prod (f : α → Rat) (g : β → Rat) (xs : List α) (ys : List β) : rsum (xs.map f) * rsum (ys.map g) = rsum (xs.map fun x => rsum (ys.map fun y => f x * g y)) := by
  rw [← rsum_mul_r]
  exact rsum_congr fun x _ => (rsum_mul (f x) g ys).symm
theorem rsum_nonneg {xs : List Rat} (h : ∀ x ∈ xs, 0 ≤ x) : 0 ≤ rsum xs := by
  induction xs with
  | nil => exact Rat.le_refl
  | cons x xs ih =>
    rw [rsum_cons]
    have h1 := h x List.mem_cons_self
    have h2 := ih fun y hy => h y (List.mem_cons_of_mem _ hy)
    exact Rat.add_nonneg h1 h2
/-! ### means -/
def Ex (s : List (α × Rat)) (f : α → Rat) : Rat := rsum (s.map fun q => q.2 * f q.1)
theorem Ex_congr {s : List (α × Rat)} {f g : α → Rat} (h : ∀ r, f r = g r) : Ex s f = Ex s g := by
  have : f = g := funext h
  rw [this]
theorem Ex_add (s : List (α × Rat)) (f g : α → Rat) : Ex s (fun r => f r + g r) = Ex s f + Ex s g := by
  unfold Ex
  rw [← rsum_add]
  exact rsum_congr fun q _ => Rat.mul_add ..
theorem Ex_mul (s : List (α × Rat)) (c : Rat) (f : α → Rat) : Ex s (fun r => c * f r) = c * Ex s f := by
  unfold Ex
  rw [← rsum_mul]
  exact rsum_congr fun q _ => by grind
theorem Ex_mul_r (s : List (α × Rat)) (c : Rat) (f : α → Rat) : Ex s (fun r => f r * c) = Ex s f * c := by
  have := Ex_mul s c f
  simp only [Rat.mul_comm c] at this
  exact this
theorem Ex_neg (s : List (α × Rat)) (f : α → Rat) : Ex s (fun r => - f r) = - Ex s f := by
  have := Ex_mul s (-1) f
  have e : (fun r => - f r) = fun r => -1 * f r := funext fun r => by grind
  rw [e, this]
  grind
theorem Ex_sub (s : List (α × Rat)) (f g : α → Rat) : Ex s (fun r => f r - g r) = Ex s f - Ex s g := by
  have e : (fun r => f r - g r) = fun r => f r + - g r := funext fun r => by grind
  rw [e, Ex_add, Ex_neg]
  grind
/-- chances are 1 in all -/
def Tot1 (s : List (α × Rat)) : Prop := rsum (s.map (·.2)) = 1
theorem Ex_const {s : List (α × Rat)} (h : Tot1 s) (c : Rat) : Ex s (fun _ => c) = c := by
  unfold Ex
  rw [rsum_mul_r]
  unfold Tot1 at h
  rw [h, Rat.one_mul]
theorem Ex_sum (s : List (α × Rat)) (f : β → α → Rat) (ps : List β) : Ex s (fun r => rsum (ps.map fun p => f p r)) = rsum (ps.map fun p => Ex s (f p)) := by
  unfold Ex
  rw [← rsum_comm]
  exact rsum_congr fun q _ => (rsum_mul q.2 (fun p => f p q.1) ps).symm
theorem Ex_comm (s : List (α × Rat)) (t : List (β × Rat)) (f : α → β → Rat) : Ex s (fun r => Ex t fun q => f r q) = Ex t (fun q => Ex s fun r => f r q) := by
  have := Ex_sum s (fun (p : β × Rat) r => p.2 * f r p.1) t
  unfold Ex at this ⊢
  rw [this]
  refine rsum_congr fun q _ => ?_
  rw [← rsum_mul]
  exact rsum_congr fun p _ => by grind
theorem Ex_nonneg {s : List (α × Rat)} (hp : ∀ q ∈ s, 0 ≤ q.2) {f : α → Rat} (hf : ∀ r, 0 ≤ f r) : 0 ≤ Ex s f := by
  refine rsum_nonneg fun x hx => ?_
  obtain ⟨q, hq, rfl⟩ := List.mem_map.mp hx
  exact Rat.mul_nonneg (hp q hq) (hf q.1)
theorem sq_nonneg (x : Rat) : 0 ≤ x * x := by
  by_cases h : 0 ≤ x
  · exact Rat.mul_nonneg h h
  · have h1 : 0 ≤ -x := by grind
    have := Rat.mul_nonneg h1 h1
    grind
/-! ### drawings -/
def draws (s : List (α × Rat)) : Nat → List (List α × Rat)
  | 0 => [([], 1)]
  | n + 1 => (draws s n).flatMap fun q => s.map fun o => (q.1 ++ [o.1], q.2 * o.2)
def ED (s : List (α × Rat)) (n : Nat) (F : List α → Rat) : Rat := rsum ((draws s n).map fun q => q.2 * F q.1)
theorem ED_zero (s : List (α × Rat)) (F : List α → Rat) : ED s 0 F = F [] := by
  unfold ED draws
  rw [List.map_cons, List.map_nil, rsum_one, Rat.one_mul]
theorem ED_succ (s : List (α × Rat)) (n : Nat) (F : List α → Rat) : ED s (n + 1) F = ED s n fun rows => Ex s fun r => F (rows ++ [r]) := by
  unfold ED
  rw [draws, rsum_mapflat]
  refine rsum_congr fun q _ => ?_
  unfold Ex
  rw [List.map_map, ← rsum_mul]
  exact rsum_congr fun o _ => by simp only [Function.comp_apply]; grind
theorem ED_one (s : List (α × Rat)) (F : List α → Rat) : ED s 1 F = Ex s fun a => F [a] := by rw [ED_succ, ED_zero]; rfl
theorem ED_two (s : List (α × Rat)) (F : List α → Rat) : ED s 2 F = Ex s fun a => Ex s fun b => F [a, b] := by rw [ED_succ, ED_one]; rfl
theorem ED_three (s : List (α × Rat)) (F : List α → Rat) : ED s 3 F = Ex s fun a => Ex s fun b => Ex s fun c => F [a, b, c] := by rw [ED_succ, ED_two]; rfl
theorem ED_four (s : List (α × Rat)) (F : List α → Rat) : ED s 4 F = Ex s fun a => Ex s fun b => Ex s fun c => Ex s fun d => F [a, b, c, d] := by rw [ED_succ, ED_three]; rfl
end
/-! ### sorting by fuel, as the kernel can walk it -/
section
variable {α : Type} (le : α → α → Bool)
def mg : Nat → List α → List α → List α
  | 0, xs, ys => xs ++ ys
  | _ + 1, [], ys => ys
  | _ + 1, x :: xs, [] => x :: xs
  | n + 1, x :: xs, y :: ys => if le x y = true then x :: mg n xs (y :: ys) else y :: mg n (x :: xs) ys
def ms : Nat → List α → List α
  | 0, xs => xs
  | _ + 1, [] => []
  | _ + 1, [a] => [a]
  | n + 1, a :: b :: xs => mg le (xs.length + 2) (ms n ((a :: b :: xs).take ((xs.length + 2 + 1) / 2))) (ms n ((a :: b :: xs).drop ((xs.length + 2 + 1) / 2)))
theorem mg_eq : ∀ (n : Nat) (xs ys : List α), xs.length + ys.length ≤ n → mg le n xs ys = List.merge xs ys le
  | 0, [], [], _ => by simp [mg]
  | 0, _ :: _, _, h => by simp at h
  | 0, [], _ :: _, h => by simp at h
  | n + 1, [], ys, _ => by simp [mg]
  | n + 1, x :: xs, [], _ => by simp [mg]
  | n + 1, x :: xs, y :: ys, h => by
    simp only [List.length_cons] at h
    rw [List.cons_merge_cons, mg, mg_eq n xs (y :: ys) (by rw [List.length_cons]; omega), mg_eq n (x :: xs) ys (by rw [List.length_cons]; omega)]
theorem ms_eq : ∀ (n : Nat) (xs : List α), xs.length ≤ n → ms le n xs = xs.mergeSort le
  | 0, [], _ => by simp [ms]
  | 0, _ :: _, h => by simp at h
  | n + 1, [], _ => by simp [ms]
  | n + 1, [a], _ => by simp [ms]
  | n + 1, a :: b :: xs, h => by
    simp only [List.length_cons] at h
    have h1 : ((a :: b :: xs).take ((xs.length + 2 + 1) / 2)).length ≤ n := by
      rw [List.length_take]
      simp only [List.length_cons]
      omega
    have h2 : ((a :: b :: xs).drop ((xs.length + 2 + 1) / 2)).length ≤ n := by
      rw [List.length_drop]
      simp only [List.length_cons]
      omega
    rw [ms, ms_eq n _ h1, ms_eq n _ h2, mg_eq, List.mergeSort]
    · rw [List.MergeSort.Internal.splitInTwo_fst, List.MergeSort.Internal.splitInTwo_snd]
      simp only [List.length_cons]
    · rw [List.length_mergeSort, List.length_mergeSort, List.length_take, List.length_drop]
      simp only [List.length_cons]
      omega
end
end DM

/-! M2: layers of a symmetric kernel of two places; of a function of one place. -/
namespace DM
section
variable {α : Type} {s : List (α × Rat)} {S : α → α → Rat} {f : α → Rat}
/-! ### one place -/
theorem one_var (h : Tot1 s) : Ex s (fun r => (f r - Ex s f) * (f r - Ex s f)) = Ex s (fun r => f r * f r) - Ex s f * Ex s f := by
  generalize ht : Ex s f = t
  have e : Ex s (fun r => (f r - t) * (f r - t)) = Ex s (fun r => f r * f r + ((-2 * t) * f r + t * t)) := Ex_congr fun r => by grind
  rw [e, Ex_add, Ex_add, Ex_mul, Ex_const h, ht]
  grind
theorem one_both (h : Tot1 s) : Ex s (fun r => Ex s fun q => f r * f q) = Ex s f * Ex s f := by
  have e : Ex s (fun r => Ex s fun q => f r * f q) = Ex s (fun r => f r * Ex s f) := Ex_congr fun r => Ex_mul ..
  rw [e, Ex_mul_r]
theorem one_two (h : Tot1 s) : Ex s (fun r => Ex s fun q => ((f r + f q) * (1 / 2) - Ex s f) * ((f r + f q) * (1 / 2) - Ex s f)) = (Ex s (fun r => f r * f r) - Ex s f * Ex s f) * (1 / 2) := by
  generalize ht : Ex s f = t
  have e : Ex s (fun r => Ex s fun q => ((f r + f q) * (1 / 2) - t) * ((f r + f q) * (1 / 2) - t)) = Ex s (fun r => (1 / 4) * (f r * f r) + ((1 / 2) * t * f r + (-t) * f r + ((1 / 4) * Ex s (fun r => f r * f r) + (t * t - t * t)))) := Ex_congr fun r => by
    have e2 : Ex s (fun q => ((f r + f q) * (1 / 2) - t) * ((f r + f q) * (1 / 2) - t)) = Ex s (fun q => (1 / 4) * (f q * f q) + (((1 / 2) * f r - t) * f q + ((1 / 4) * (f r * f r) - t * f r + t * t))) := Ex_congr fun q => by grind
    rw [e2, Ex_add, Ex_add, Ex_mul, Ex_mul, Ex_const h, ht]
    grind
  rw [e, Ex_add, Ex_add, Ex_add, Ex_mul, Ex_mul, Ex_mul, Ex_const h, ht]
  grind
/-! ### two places -/
theorem two_ST (h : ∀ r q, S r q = S q r) : Ex s (fun r => Ex s fun q => S r q * Ex s (S q)) = Ex s (fun r => Ex s (S r) * Ex s (S r)) := by
  rw [Ex_comm]
  refine Ex_congr fun q => ?_
  rw [Ex_mul_r]
  congr 1
  exact Ex_congr fun r => h r q
theorem two_TS : Ex s (fun r => Ex s fun q => S r q * Ex s (S r)) = Ex s (fun r => Ex s (S r) * Ex s (S r)) :=
  Ex_congr fun r => Ex_mul_r ..
theorem two_v2 (h1 : Tot1 s) (h : ∀ r q, S r q = S q r) {t : Rat} (ht : Ex s (fun r => Ex s (S r)) = t) :
    Ex s (fun r => Ex s fun q => (S r q - Ex s (S r) - Ex s (S q) + t) * (S r q - Ex s (S r) - Ex s (S q) + t)) = Ex s (fun r => Ex s fun q => S r q * S r q) - 2 * Ex s (fun r => Ex s (S r) * Ex s (S r)) + t * t := by
  generalize hU : Ex s (fun r => Ex s (S r) * Ex s (S r)) = U
  have e : ∀ r, Ex s (fun q => (S r q - Ex s (S r) - Ex s (S q) + t) * (S r q - Ex s (S r) - Ex s (S q) + t)) =
      Ex s (fun q => S r q * S r q) + ((-2) * Ex s (fun q => S r q * Ex s (S q)) + ((-1) * (Ex s (S r) * Ex s (S r)) + (2 * t * Ex s (S r) + (U - t * t)))) := fun r => by
    have e2 : Ex s (fun q => (S r q - Ex s (S r) - Ex s (S q) + t) * (S r q - Ex s (S r) - Ex s (S q) + t)) =
        Ex s (fun q => S r q * S r q + ((-2) * (S r q * Ex s (S q)) + (Ex s (S q) * Ex s (S q) + ((2 * t - 2 * Ex s (S r)) * S r q + ((2 * Ex s (S r) - 2 * t) * Ex s (S q) + (Ex s (S r) * Ex s (S r) - 2 * t * Ex s (S r) + t * t)))))) := Ex_congr fun q => by grind
    rw [e2, Ex_add, Ex_add, Ex_add, Ex_add, Ex_add, Ex_mul, Ex_mul, Ex_mul, Ex_const h1, hU, ht]
    have : Ex s (fun q => S r q) = Ex s (S r) := rfl
    rw [this]
    grind
  rw [Ex_congr e, Ex_add, Ex_add, Ex_add, Ex_add, Ex_mul, Ex_mul, Ex_mul, Ex_const h1, two_ST h, hU, ht]
  grind
theorem two_sp2 (h1 : Tot1 s) {t : Rat} (ht : Ex s (fun r => Ex s (S r)) = t) : Ex s (fun r => Ex s fun q => (S r q - t) * (S r q - t)) = Ex s (fun r => Ex s fun q => S r q * S r q) - t * t := by
  have e : ∀ r, Ex s (fun q => (S r q - t) * (S r q - t)) = Ex s (fun q => S r q * S r q) + ((-2 * t) * Ex s (S r) + t * t) := fun r => by
    have e2 : Ex s (fun q => (S r q - t) * (S r q - t)) = Ex s (fun q => S r q * S r q + ((-2 * t) * S r q + t * t)) := Ex_congr fun q => by grind
    rw [e2, Ex_add, Ex_add, Ex_mul, Ex_const h1]
  rw [Ex_congr e, Ex_add, Ex_add, Ex_mul, Ex_const h1, ht]
  grind
theorem two_b1 (h : ∀ r q, S r q = S q r) : Ex s (fun a => Ex s fun b => Ex s fun c => S a b * S b c) = Ex s (fun r => Ex s (S r) * Ex s (S r)) := by
  have e : ∀ a, Ex s (fun b => Ex s fun c => S a b * S b c) = Ex s (fun b => S a b * Ex s (S b)) := fun a => Ex_congr fun b => Ex_mul ..
  rw [Ex_congr e, two_ST h]
theorem two_b0 : Ex s (fun a => Ex s fun b => Ex s fun c => Ex s fun d => S a b * S c d) = Ex s (fun r => Ex s (S r)) * Ex s (fun r => Ex s (S r)) := by
  have e : ∀ a, Ex s (fun b => Ex s fun c => Ex s fun d => S a b * S c d) = Ex s (S a) * Ex s (fun r => Ex s (S r)) := fun a => by
    have e2 : ∀ b, Ex s (fun c => Ex s fun d => S a b * S c d) = S a b * Ex s (fun r => Ex s (S r)) := fun b => by
      have e3 : ∀ c, Ex s (fun d => S a b * S c d) = S a b * Ex s (S c) := fun c => Ex_mul ..
      rw [Ex_congr e3, Ex_mul]
    rw [Ex_congr e2, Ex_mul_r]
  rw [Ex_congr e, Ex_mul_r]
/-- three rows -/
theorem two_sp3 (h1 : Tot1 s) (h : ∀ r q, S r q = S q r) {t : Rat} (ht : Ex s (fun r => Ex s (S r)) = t) :
    Ex s (fun a => Ex s fun b => Ex s fun c => ((S a b + S a c + S b c) * (1 / 3) - t) * ((S a b + S a c + S b c) * (1 / 3) - t)) = (Ex s (fun r => Ex s fun q => S r q * S r q) + 2 * Ex s (fun r => Ex s (S r) * Ex s (S r))) * (1 / 3) - t * t := by
  generalize hU : Ex s (fun r => Ex s (S r) * Ex s (S r)) = U
  generalize hW : Ex s (fun r => Ex s fun q => S r q * S r q) = W
  have t1 : ∀ r, Ex s (fun q => S r q) = Ex s (S r) := fun r => rfl
  have e1 : ∀ a b, Ex s (fun c => ((S a b + S a c + S b c) * (1 / 3) - t) * ((S a b + S a c + S b c) * (1 / 3) - t)) =
      (1 / 9) * Ex s (fun c => S a c * S a c) + ((1 / 9) * Ex s (fun c => S b c * S b c) + ((2 / 9) * Ex s (fun c => S a c * S b c) + ((1 / 9) * (S a b * S a b) + ((2 / 9) * (S a b * Ex s (S a)) + ((2 / 9) * (S a b * Ex s (S b)) + ((-2 / 3 * t) * S a b + ((-2 / 3 * t) * Ex s (S a) + ((-2 / 3 * t) * Ex s (S b) + t * t)))))))) := fun a b => by
    have e2 : Ex s (fun c => ((S a b + S a c + S b c) * (1 / 3) - t) * ((S a b + S a c + S b c) * (1 / 3) - t)) =
        Ex s (fun c => (1 / 9) * (S a c * S a c) + ((1 / 9) * (S b c * S b c) + ((2 / 9) * (S a c * S b c) + ((2 / 9 * S a b - 2 / 3 * t) * S a c + ((2 / 9 * S a b - 2 / 3 * t) * S b c + (1 / 9 * (S a b * S a b) - 2 / 3 * t * S a b + t * t)))))) := Ex_congr fun c => by grind
    rw [e2, Ex_add, Ex_add, Ex_add, Ex_add, Ex_add, Ex_mul, Ex_mul, Ex_mul, Ex_mul, Ex_mul, Ex_const h1, t1, t1]
    grind
  have e3 : ∀ a, Ex s (fun b => Ex s fun c => ((S a b + S a c + S b c) * (1 / 3) - t) * ((S a b + S a c + S b c) * (1 / 3) - t)) =
      (1 / 9) * Ex s (fun c => S a c * S a c) + ((1 / 9) * W + ((2 / 9) * Ex s (fun c => S a c * Ex s (S c)) + ((1 / 9) * Ex s (fun c => S a c * S a c) + ((2 / 9) * (Ex s (S a) * Ex s (S a)) + ((2 / 9) * Ex s (fun b => S a b * Ex s (S b)) + ((-2 / 3 * t) * Ex s (S a) + ((-2 / 3 * t) * Ex s (S a) + ((-2 / 3 * t) * t + t * t)))))))) := fun a => by
    have e4 : Ex s (fun b => Ex s (fun c => S a c * S b c)) = Ex s (fun c => S a c * Ex s (S c)) := by
      rw [Ex_comm]
      refine Ex_congr fun c => ?_
      rw [Ex_mul]
      congr 1
      exact Ex_congr fun b => h b c
    rw [Ex_congr (e1 a), Ex_add, Ex_add, Ex_add, Ex_add, Ex_add, Ex_add, Ex_add, Ex_add, Ex_add, Ex_const h1, Ex_mul, Ex_mul, Ex_mul, Ex_mul, Ex_mul, Ex_mul, Ex_mul, Ex_const h1, Ex_mul, Ex_const h1, e4, Ex_mul_r, hW, ht, t1]
  rw [Ex_congr e3]
  simp only [Ex_add, Ex_mul, Ex_const h1, two_ST h, hU, hW, ht]
  grind
end
end DM

/-! M3: kernels that are sums of products; their squares' means. -/
namespace DM
section
variable {α ι : Type} (s : List (α × Rat)) (ps : List ι) (x : ι → Rat) (a b : ι → α → Rat)
theorem Ex_prod (f g : α → Rat) : Ex s (fun r => Ex s fun q => f r * g q) = Ex s f * Ex s g := by
  have e : ∀ r, Ex s (fun q => f r * g q) = f r * Ex s g := fun r => Ex_mul ..
  rw [Ex_congr e, Ex_mul_r]
def K2 (r q : α) : Rat := rsum (ps.map fun p => x p * (1 / 2) * (a p r * b p q + b p r * a p q))
def K1 (r : α) : Rat := rsum (ps.map fun p => x p * (1 / 2) * (a p r * Ex s (b p) + b p r * Ex s (a p)))
def K0 : Rat := rsum (ps.map fun p => x p * (Ex s (a p) * Ex s (b p)))
theorem K2_sym (r q : α) : K2 ps x a b r q = K2 ps x a b q r := rsum_congr fun p _ => by grind
theorem K2_one (r : α) : Ex s (K2 ps x a b r) = K1 s ps x a b r := by
  unfold K2 K1
  show Ex s (fun q => rsum (ps.map fun p => x p * (1 / 2) * (a p r * b p q + b p r * a p q))) = _
  rw [Ex_sum s fun p q => x p * (1 / 2) * (a p r * b p q + b p r * a p q)]
  refine rsum_congr fun p _ => ?_
  rw [Ex_mul, Ex_add, Ex_mul, Ex_mul]
theorem K1_one : Ex s (K1 s ps x a b) = K0 s ps x a b := by
  unfold K1 K0
  show Ex s (fun q => rsum (ps.map fun p => x p * (1 / 2) * (a p q * Ex s (b p) + b p q * Ex s (a p)))) = _
  rw [Ex_sum s fun p q => x p * (1 / 2) * (a p q * Ex s (b p) + b p q * Ex s (a p))]
  refine rsum_congr fun p _ => ?_
  rw [Ex_mul, Ex_add, Ex_mul_r, Ex_mul_r]
  show x p * (1 / 2) * (Ex s (a p) * Ex s (b p) + Ex s (b p) * Ex s (a p)) = _
  grind
theorem K2_two : Ex s (fun r => Ex s (K2 ps x a b r)) = K0 s ps x a b := by
  rw [Ex_congr (K2_one s ps x a b)]
  exact K1_one s ps x a b
theorem sh_zero : rsum (ps.map fun p => rsum (ps.map fun q => x p * x q * (Ex s (a p) * Ex s (b p) * (Ex s (a q) * Ex s (b q))))) = K0 s ps x a b * K0 s ps x a b := by
  unfold K0
  rw [rsum_prod]
  exact rsum_congr fun p _ => rsum_congr fun q _ => by grind
theorem sh_one : rsum (ps.map fun p => rsum (ps.map fun q => (1 / 4) * (x p * x q) * (Ex s (fun r => a p r * a q r) * Ex s (b p) * Ex s (b q) + Ex s (fun r => a p r * b q r) * Ex s (b p) * Ex s (a q) + Ex s (fun r => b p r * a q r) * Ex s (a p) * Ex s (b q) + Ex s (fun r => b p r * b q r) * Ex s (a p) * Ex s (a q)))) =
    Ex s (fun r => K1 s ps x a b r * K1 s ps x a b r) := by
  unfold K1
  have e : ∀ r, rsum (ps.map fun p => x p * (1 / 2) * (a p r * Ex s (b p) + b p r * Ex s (a p))) * rsum (ps.map fun p => x p * (1 / 2) * (a p r * Ex s (b p) + b p r * Ex s (a p))) =
      rsum (ps.map fun p => rsum (ps.map fun q => x p * (1 / 2) * (a p r * Ex s (b p) + b p r * Ex s (a p)) * (x q * (1 / 2) * (a q r * Ex s (b q) + b q r * Ex s (a q))))) := fun r => rsum_prod ..
  rw [Ex_congr e, Ex_sum s fun p r => rsum (ps.map fun q => x p * (1 / 2) * (a p r * Ex s (b p) + b p r * Ex s (a p)) * (x q * (1 / 2) * (a q r * Ex s (b q) + b q r * Ex s (a q))))]
  refine rsum_congr fun p _ => ?_
  rw [Ex_sum s fun q r => x p * (1 / 2) * (a p r * Ex s (b p) + b p r * Ex s (a p)) * (x q * (1 / 2) * (a q r * Ex s (b q) + b q r * Ex s (a q)))]
  refine rsum_congr fun q _ => ?_
  have e2 : ∀ r, x p * (1 / 2) * (a p r * Ex s (b p) + b p r * Ex s (a p)) * (x q * (1 / 2) * (a q r * Ex s (b q) + b q r * Ex s (a q))) =
      ((1 / 4) * (x p * x q) * (Ex s (b p) * Ex s (b q))) * (a p r * a q r) + (((1 / 4) * (x p * x q) * (Ex s (b p) * Ex s (a q))) * (a p r * b q r) + (((1 / 4) * (x p * x q) * (Ex s (a p) * Ex s (b q))) * (b p r * a q r) + ((1 / 4) * (x p * x q) * (Ex s (a p) * Ex s (a q))) * (b p r * b q r))) := fun r => by grind
  rw [Ex_congr e2, Ex_add, Ex_add, Ex_add, Ex_mul, Ex_mul, Ex_mul, Ex_mul]
  grind
theorem sh_two : rsum (ps.map fun p => rsum (ps.map fun q => (1 / 2) * (x p * x q) * (Ex s (fun r => a p r * a q r) * Ex s (fun r => b p r * b q r) + Ex s (fun r => a p r * b q r) * Ex s (fun r => b p r * a q r)))) =
    Ex s (fun r => Ex s fun q => K2 ps x a b r q * K2 ps x a b r q) := by
  unfold K2
  have e : ∀ r t, rsum (ps.map fun p => x p * (1 / 2) * (a p r * b p t + b p r * a p t)) * rsum (ps.map fun p => x p * (1 / 2) * (a p r * b p t + b p r * a p t)) =
      rsum (ps.map fun p => rsum (ps.map fun q => x p * (1 / 2) * (a p r * b p t + b p r * a p t) * (x q * (1 / 2) * (a q r * b q t + b q r * a q t)))) := fun r t => rsum_prod ..
  have e3 : ∀ r, Ex s (fun t => rsum (ps.map fun p => x p * (1 / 2) * (a p r * b p t + b p r * a p t)) * rsum (ps.map fun p => x p * (1 / 2) * (a p r * b p t + b p r * a p t))) =
      rsum (ps.map fun p => rsum (ps.map fun q => Ex s fun t => x p * (1 / 2) * (a p r * b p t + b p r * a p t) * (x q * (1 / 2) * (a q r * b q t + b q r * a q t)))) := fun r => by
    rw [Ex_congr (e r), Ex_sum s fun p t => rsum (ps.map fun q => x p * (1 / 2) * (a p r * b p t + b p r * a p t) * (x q * (1 / 2) * (a q r * b q t + b q r * a q t)))]
    exact rsum_congr fun p _ => Ex_sum s (fun q t => x p * (1 / 2) * (a p r * b p t + b p r * a p t) * (x q * (1 / 2) * (a q r * b q t + b q r * a q t))) ps
  rw [Ex_congr e3, Ex_sum s fun p r => rsum (ps.map fun q => Ex s fun t => x p * (1 / 2) * (a p r * b p t + b p r * a p t) * (x q * (1 / 2) * (a q r * b q t + b q r * a q t)))]
  refine rsum_congr fun p _ => ?_
  rw [Ex_sum s fun q r => Ex s fun t => x p * (1 / 2) * (a p r * b p t + b p r * a p t) * (x q * (1 / 2) * (a q r * b q t + b q r * a q t))]
  refine rsum_congr fun q _ => ?_
  have e2 : ∀ r t, x p * (1 / 2) * (a p r * b p t + b p r * a p t) * (x q * (1 / 2) * (a q r * b q t + b q r * a q t)) =
      ((1 / 4) * (x p * x q)) * ((a p r * a q r) * (b p t * b q t)) + (((1 / 4) * (x p * x q)) * ((a p r * b q r) * (b p t * a q t)) + (((1 / 4) * (x p * x q)) * ((b p r * a q r) * (a p t * b q t)) + ((1 / 4) * (x p * x q)) * ((b p r * b q r) * (a p t * a q t)))) := fun r t => by grind
  rw [Ex_congr fun r => Ex_congr (e2 r)]
  simp only [Ex_add, Ex_mul, Ex_mul_r]
  grind
/-! ### one place -/
def J1 (r : α) : Rat := rsum (ps.map fun p => x p * a p r)
def J0 : Rat := rsum (ps.map fun p => x p * Ex s (a p))
theorem J1_one : Ex s (J1 ps x a) = J0 s ps x a := by
  unfold J1 J0
  show Ex s (fun q => rsum (ps.map fun p => x p * a p q)) = _
  rw [Ex_sum s fun p q => x p * a p q]
  exact rsum_congr fun p _ => Ex_mul ..
theorem sg_zero : rsum (ps.map fun p => rsum (ps.map fun q => x p * x q * (Ex s (a p) * Ex s (a q)))) = J0 s ps x a * J0 s ps x a := by
  unfold J0
  rw [rsum_prod]
  exact rsum_congr fun p _ => rsum_congr fun q _ => by grind
theorem sg_one : rsum (ps.map fun p => rsum (ps.map fun q => x p * x q * Ex s (fun r => a p r * a q r))) = Ex s (fun r => J1 ps x a r * J1 ps x a r) := by
  unfold J1
  have e : ∀ r, rsum (ps.map fun p => x p * a p r) * rsum (ps.map fun p => x p * a p r) = rsum (ps.map fun p => rsum (ps.map fun q => x p * a p r * (x q * a q r))) := fun r => rsum_prod ..
  rw [Ex_congr e, Ex_sum s fun p r => rsum (ps.map fun q => x p * a p r * (x q * a q r))]
  refine rsum_congr fun p _ => ?_
  rw [Ex_sum s fun q r => x p * a p r * (x q * a q r)]
  refine rsum_congr fun q _ => ?_
  have e2 : ∀ r, x p * a p r * (x q * a q r) = x p * x q * (a p r * a q r) := fun r => by grind
  rw [Ex_congr e2, Ex_mul]
theorem sf_zero : rsum (ps.map fun p => rsum (ps.map fun q => x p * x q)) = rsum (ps.map x) * rsum (ps.map x) := by
  rw [rsum_prod]
end
end DM

/-! Pr0: the text by places, the slots of its defs. -/
namespace DW
open PySem PySem.Spec PyProof.Rows L2
def topS (i : Nat) : Stmt := PySem.Challenge.pw_everysource_k67_whole_layers_by_all_draw.main.body.getD i (.Pass ⟨0, 0, 0, 0⟩)
abbrev s_tuple_of : Stmt := topS 7
abbrev n_tuple_of : List Str := ["thing", "part"]
theorem sc_tuple_of : FnScope n_tuple_of ["thing"] (defScope s_tuple_of) := ⟨rfl, rfl, rfl, by decide +kernel, rfl, by decide +kernel, by decide +kernel⟩
abbrev s_fraction : Stmt := topS 9
abbrev n_fraction : List Str := ["top", "bottom", "common"]
theorem sc_fraction : FnScope n_fraction ["top", "bottom"] (defScope s_fraction) := ⟨rfl, rfl, rfl, by decide +kernel, rfl, by decide +kernel, by decide +kernel⟩
abbrev s_plus : Stmt := topS 10
abbrev n_plus : List Str := ["x", "y"]
theorem sc_plus : FnScope n_plus ["x", "y"] (defScope s_plus) := ⟨rfl, rfl, rfl, by decide +kernel, rfl, by decide +kernel, by decide +kernel⟩
abbrev s_times : Stmt := topS 11
abbrev n_times : List Str := ["x", "y"]
theorem sc_times : FnScope n_times ["x", "y"] (defScope s_times) := ⟨rfl, rfl, rfl, by decide +kernel, rfl, by decide +kernel, by decide +kernel⟩
abbrev s__power : Stmt := topS 12
abbrev n__power : List Str := ["number", "many", "found", "square", "left"]
theorem sc__power : FnScope n__power ["number", "many"] (defScope s__power) := ⟨rfl, rfl, rfl, by decide +kernel, rfl, by decide +kernel, by decide +kernel⟩
abbrev s_power_of : Stmt := topS 13
abbrev n_power_of : List Str := ["x", "many"]
theorem sc_power_of : FnScope n_power_of ["x", "many"] (defScope s_power_of) := ⟨rfl, rfl, rfl, by decide +kernel, rfl, by decide +kernel, by decide +kernel⟩
abbrev s_is_less : Stmt := topS 14
abbrev n_is_less : List Str := ["x", "y"]
theorem sc_is_less : FnScope n_is_less ["x", "y"] (defScope s_is_less) := ⟨rfl, rfl, rfl, by decide +kernel, rfl, by decide +kernel, by decide +kernel⟩
abbrev s_gathered : Stmt := topS 17
abbrev n_gathered : List Str := ["pairs", "sums", "powers", "x"]
theorem sc_gathered : FnScope n_gathered ["pairs"] (defScope s_gathered) := ⟨rfl, rfl, rfl, by decide +kernel, rfl, by decide +kernel, by decide +kernel⟩
abbrev s_sum_of : Stmt := topS 21
abbrev n_sum_of : List Str := ["fractions", "total", "x"]
theorem sc_sum_of : FnScope n_sum_of ["fractions"] (defScope s_sum_of) := ⟨rfl, rfl, rfl, by decide +kernel, rfl, by decide +kernel, by decide +kernel⟩
abbrev s_row_moment : Stmt := topS 22
abbrev n_row_moment : List Str := ["row", "moment", "total", "x", "power"]
theorem sc_row_moment : FnScope n_row_moment ["row", "moment"] (defScope s_row_moment) := ⟨rfl, rfl, rfl, by decide +kernel, rfl, by decide +kernel, by decide +kernel⟩
abbrev s_moment_at : Stmt := topS 23
abbrev n_moment_at : List Str := ["source", "moment", "row", "chance"]
theorem sc_moment_at : FnScope n_moment_at ["source", "moment"] (defScope s_moment_at) := ⟨rfl, rfl, rfl, by decide +kernel, rfl, by decide +kernel, by decide +kernel⟩
abbrev s_gathered_wish : Stmt := topS 26
abbrev n_gathered_wish : List Str := ["pairs", "sums", "factors", "x"]
theorem sc_gathered_wish : FnScope n_gathered_wish ["pairs"] (defScope s_gathered_wish) := ⟨rfl, rfl, rfl, by decide +kernel, rfl, by decide +kernel, by decide +kernel⟩
abbrev s_wish_value : Stmt := topS 27
abbrev n_wish_value : List Str := ["wish", "source", "means", "total", "factors", "x", "moment"]
theorem sc_wish_value : FnScope n_wish_value ["wish", "source"] (defScope s_wish_value) := ⟨rfl, rfl, rfl, by decide +kernel, rfl, by decide +kernel, by decide +kernel⟩
abbrev s_wish_degree : Stmt := topS 28
abbrev n_wish_degree : List Str := ["wish", "factors", "_"]
theorem sc_wish_degree : FnScope n_wish_degree ["wish"] (defScope s_wish_degree) := ⟨rfl, rfl, rfl, by decide +kernel, rfl, by decide +kernel, by decide +kernel⟩
abbrev s_wish_plus : Stmt := topS 29
abbrev n_wish_plus : List Str := ["one", "other"]
theorem sc_wish_plus : FnScope n_wish_plus ["one", "other"] (defScope s_wish_plus) := ⟨rfl, rfl, rfl, by decide +kernel, rfl, by decide +kernel, by decide +kernel⟩
abbrev s_wish_scaled : Stmt := topS 30
abbrev n_wish_scaled : List Str := ["wish", "x", "factors", "own"]
theorem sc_wish_scaled : FnScope n_wish_scaled ["wish", "x"] (defScope s_wish_scaled) := ⟨rfl, rfl, rfl, by decide +kernel, rfl, by decide +kernel, by decide +kernel⟩
abbrev s_joined_moment : Stmt := topS 31
abbrev n_joined_moment : List Str := ["moment", "other", "power", "more"]
theorem sc_joined_moment : FnScope n_joined_moment ["moment", "other"] (defScope s_joined_moment) := ⟨rfl, rfl, rfl, by decide +kernel, rfl, by decide +kernel, by decide +kernel⟩
abbrev s__summed : Stmt := topS 37
abbrev n__summed : List Str := ["pairs", "sums", "factors", "x"]
theorem sc__summed : FnScope n__summed ["pairs"] (defScope s__summed) := ⟨rfl, rfl, rfl, by decide +kernel, rfl, by decide +kernel, by decide +kernel⟩
abbrev s__filled : Stmt := topS 38
abbrev n__filled : List Str := ["factors", "degree"]
theorem sc__filled : FnScope n__filled ["factors", "degree"] (defScope s__filled) := ⟨rfl, rfl, rfl, by decide +kernel, rfl, by decide +kernel, by decide +kernel⟩
abbrev s__met : Stmt := topS 39
abbrev n__met : List Str := ["factors", "others", "lot", "image", "found", "i", "j", "own"]
theorem sc__met : FnScope n__met ["factors", "others", "lot", "image"] (defScope s__met) := ⟨rfl, rfl, rfl, by decide +kernel, rfl, by decide +kernel, by decide +kernel⟩
abbrev s__shared : Stmt := topS 40
abbrev n__shared : List Str := ["wish", "k", "degree", "pairs", "share", "lots", "images", "factors", "x", "others", "y", "near", "far", "z", "lot", "image"]
theorem sc__shared : FnScope n__shared ["wish", "k"] (defScope s__shared) := ⟨rfl, rfl, rfl, by decide +kernel, rfl, by decide +kernel, by decide +kernel⟩
abbrev s_shared_mean : Stmt := topS 41
abbrev n_shared_mean : List Str := ["wish", "k"]
theorem sc_shared_mean : FnScope n_shared_mean ["wish", "k"] (defScope s_shared_mean) := ⟨rfl, rfl, rfl, by decide +kernel, rfl, by decide +kernel, by decide +kernel⟩
abbrev s__layer : Stmt := topS 42
abbrev n__layer : List Str := ["wish", "k", "total", "j", "sign"]
theorem sc__layer : FnScope n__layer ["wish", "k"] (defScope s__layer) := ⟨rfl, rfl, rfl, by decide +kernel, rfl, by decide +kernel, by decide +kernel⟩
abbrev s_layer : Stmt := topS 43
abbrev n_layer : List Str := ["wish", "k"]
theorem sc_layer : FnScope n_layer ["wish", "k"] (defScope s_layer) := ⟨rfl, rfl, rfl, by decide +kernel, rfl, by decide +kernel, by decide +kernel⟩
abbrev s__told_mean : Stmt := topS 44
abbrev n__told_mean : List Str := ["wish", "source", "lot", "k", "degree", "blank", "pairs", "images", "factors", "x", "full", "image", "y", "place", "own", "powers", "sample"]
theorem sc__told_mean : FnScope n__told_mean ["wish", "source", "lot", "k", "degree"] (defScope s__told_mean) := ⟨rfl, rfl, rfl, by decide +kernel, rfl, by decide +kernel, by decide +kernel⟩
abbrev s_part_form : Stmt := topS 45
abbrev n_part_form : List Str := ["wish", "source", "k", "degree", "pairs", "many", "sign", "lot", "powers", "x"]
theorem sc_part_form : FnScope n_part_form ["wish", "source", "k"] (defScope s_part_form) := ⟨rfl, rfl, rfl, by decide +kernel, rfl, by decide +kernel, by decide +kernel⟩
abbrev s_layers_at : Stmt := topS 46
abbrev n_layers_at : List Str := ["wish", "source", "k"]
theorem sc_layers_at : FnScope n_layers_at ["wish", "source"] (defScope s_layers_at) := ⟨rfl, rfl, rfl, by decide +kernel, rfl, by decide +kernel, by decide +kernel⟩
abbrev s__shares : Stmt := topS 47
abbrev n__shares : List Str := ["degree", "n", "k"]
theorem sc__shares : FnScope n__shares ["degree", "n"] (defScope s__shares) := ⟨rfl, rfl, rfl, by decide +kernel, rfl, by decide +kernel, by decide +kernel⟩
abbrev s_layer_shares : Stmt := topS 48
abbrev n_layer_shares : List Str := ["wish", "n", "degree"]
theorem sc_layer_shares : FnScope n_layer_shares ["wish", "n"] (defScope s_layer_shares) := ⟨rfl, rfl, rfl, by decide +kernel, rfl, by decide +kernel, by decide +kernel⟩
abbrev s_best_spread : Stmt := topS 49
abbrev n_best_spread : List Str := ["wish", "n", "total", "k", "share"]
theorem sc_best_spread : FnScope n_best_spread ["wish", "n"] (defScope s_best_spread) := ⟨rfl, rfl, rfl, by decide +kernel, rfl, by decide +kernel, by decide +kernel⟩
abbrev s_enough_samples : Stmt := topS 50
abbrev n_enough_samples : List Str := ["wish", "source", "most", "degree", "values", "low", "high", "middle", "x", "y"]
theorem sc_enough_samples : FnScope n_enough_samples ["wish", "source", "most"] (defScope s_enough_samples) := ⟨rfl, rfl, rfl, by decide +kernel, rfl, by decide +kernel, by decide +kernel⟩
abbrev s__law_box : Stmt := topS 52
abbrev n__law_box : List Str := ["_law_script", "_law_k", "_law_cell"]
theorem sc__law_box : FnScope n__law_box ["_law_script", "_law_k"] (defScope s__law_box) := ⟨rfl, rfl, rfl, by decide +kernel, rfl, by decide +kernel, by decide +kernel⟩
abbrev s__law_take : Stmt := topS 53
abbrev n__law_take : List Str := ["_law_urn", "_law_low_so", "_law_taken_so", "_law_once", "_law_far", "_law_twice"]
theorem sc__law_take : FnScope n__law_take ["_law_urn", "_law_low_so"] (defScope s__law_take) := ⟨rfl, rfl, rfl, by decide +kernel, rfl, by decide +kernel, by decide +kernel⟩
abbrev s__law_cells : Stmt := topS 54
abbrev n__law_cells : List Str := ["_law_script", "_law_top", "_law_cells_here", "_law_k", "_law_cell", "_law_at_so"]
theorem sc__law_cells : FnScope n__law_cells ["_law_script", "_law_top"] (defScope s__law_cells) := ⟨rfl, rfl, rfl, by decide +kernel, rfl, by decide +kernel, by decide +kernel⟩
abbrev s__law_of : Stmt := topS 55
abbrev n__law_of : List Str := ["_law_urn", "_law_some_so"]
theorem sc__law_of : FnScope n__law_of ["_law_urn", "_law_some_so"] (defScope s__law_of) := ⟨rfl, rfl, rfl, by decide +kernel, rfl, by decide +kernel, by decide +kernel⟩
abbrev s__law_same : Stmt := topS 56
abbrev n__law_same : List Str := ["_law_got", "_law_goal", "_law_mine_so", "_law_own"]
theorem sc__law_same : FnScope n__law_same ["_law_got", "_law_goal"] (defScope s__law_same) := ⟨rfl, rfl, rfl, by decide +kernel, rfl, by decide +kernel, by decide +kernel⟩
abbrev s__law_low : Stmt := topS 57
abbrev n__law_low : List Str := ["_law_high", "_law_deep", "_law_near", "_law_far"]
theorem sc__law_low : FnScope n__law_low ["_law_high", "_law_deep"] (defScope s__law_low) := ⟨rfl, rfl, rfl, by decide +kernel, rfl, by decide +kernel, by decide +kernel⟩
abbrev s__law_add : Stmt := topS 58
abbrev n__law_add : List Str := ["_law_x", "_law_y"]
theorem sc__law_add : FnScope n__law_add ["_law_x", "_law_y"] (defScope s__law_add) := ⟨rfl, rfl, rfl, by decide +kernel, rfl, by decide +kernel, by decide +kernel⟩
abbrev s__law_mul : Stmt := topS 59
abbrev n__law_mul : List Str := ["_law_x", "_law_y"]
theorem sc__law_mul : FnScope n__law_mul ["_law_x", "_law_y"] (defScope s__law_mul) := ⟨rfl, rfl, rfl, by decide +kernel, rfl, by decide +kernel, by decide +kernel⟩
abbrev s__law_sum : Stmt := topS 60
abbrev n__law_sum : List Str := ["_law_some", "_law_found", "_law_x"]
theorem sc__law_sum : FnScope n__law_sum ["_law_some"] (defScope s__law_sum) := ⟨rfl, rfl, rfl, by decide +kernel, rfl, by decide +kernel, by decide +kernel⟩
abbrev s__law_number : Stmt := topS 61
abbrev n__law_number : List Str := ["_law_row_in", "_law_moment_in", "_law_high", "_law_deep", "_law_x", "_law_many", "_law_lap"]
theorem sc__law_number : FnScope n__law_number ["_law_row_in", "_law_moment_in"] (defScope s__law_number) := ⟨rfl, rfl, rfl, by decide +kernel, rfl, by decide +kernel, by decide +kernel⟩
abbrev s__law_mean : Stmt := topS 62
abbrev n__law_mean : List Str := ["_law_source_in", "_law_moment_in", "_law_row_in", "_law_chance"]
theorem sc__law_mean : FnScope n__law_mean ["_law_source_in", "_law_moment_in"] (defScope s__law_mean) := ⟨rfl, rfl, rfl, by decide +kernel, rfl, by decide +kernel, by decide +kernel⟩
abbrev s__law_worth : Stmt := topS 63
abbrev n__law_worth : List Str := ["_law_wish_in", "_law_source_in", "_law_total", "_law_factors", "_law_x", "_law_own"]
theorem sc__law_worth : FnScope n__law_worth ["_law_wish_in", "_law_source_in"] (defScope s__law_worth) := ⟨rfl, rfl, rfl, by decide +kernel, rfl, by decide +kernel, by decide +kernel⟩
abbrev s__law_images : Stmt := topS 64
abbrev n__law_images : List Str := ["_law_n", "_law_many", "_law_found", "_law_lap", "_law_longer", "_law_own", "_law_k"]
theorem sc__law_images : FnScope n__law_images ["_law_n", "_law_many"] (defScope s__law_images) := ⟨rfl, rfl, rfl, by decide +kernel, rfl, by decide +kernel, by decide +kernel⟩
abbrev s__law_best : Stmt := topS 65
abbrev n__law_best : List Str := ["_law_wish_in", "_law_rows_in", "_law_total", "_law_factors", "_law_x", "_law_lanes", "_law_lane", "_law_y", "_law_k", "_law_own"]
theorem sc__law_best : FnScope n__law_best ["_law_wish_in", "_law_rows_in"] (defScope s__law_best) := ⟨rfl, rfl, rfl, by decide +kernel, rfl, by decide +kernel, by decide +kernel⟩
abbrev s__law_form : Stmt := topS 66
abbrev n__law_form : List Str := ["_law_form_in", "_law_rows_in", "_law_total", "_law_hands", "_law_x", "_law_own", "_law_row_in"]
theorem sc__law_form : FnScope n__law_form ["_law_form_in", "_law_rows_in"] (defScope s__law_form) := ⟨rfl, rfl, rfl, by decide +kernel, rfl, by decide +kernel, by decide +kernel⟩
abbrev s__law_drawings : Stmt := topS 67
abbrev n__law_drawings : List Str := ["_law_source_in", "_law_n", "_law_found", "_law_lap", "_law_longer", "_law_rows_in", "_law_chance", "_law_own", "_law_x"]
theorem sc__law_drawings : FnScope n__law_drawings ["_law_source_in", "_law_n"] (defScope s__law_drawings) := ⟨rfl, rfl, rfl, by decide +kernel, rfl, by decide +kernel, by decide +kernel⟩
abbrev s__law_source : Stmt := topS 68
abbrev n__law_source : List Str := ["_law_urn", "_law_c", "_law_most", "_law_pool", "_law_spots", "_law_loads", "_law_rows_in", "_law_own", "_law_load", "_law_lap", "_law_k"]
theorem sc__law_source : FnScope n__law_source ["_law_urn", "_law_c", "_law_most"] (defScope s__law_source) := ⟨rfl, rfl, rfl, by decide +kernel, rfl, by decide +kernel, by decide +kernel⟩
abbrev s__law_wish : Stmt := topS 69
abbrev n__law_wish : List Str := ["_law_urn", "_law_c", "_law_most", "_law_sums", "_law_lap", "_law_factors", "_law_k", "_law_own", "_law_key", "_law_column_in"]
theorem sc__law_wish : FnScope n__law_wish ["_law_urn", "_law_c", "_law_most"] (defScope s__law_wish) := ⟨rfl, rfl, rfl, by decide +kernel, rfl, by decide +kernel, by decide +kernel⟩
abbrev s__law_degree : Stmt := topS 70
abbrev n__law_degree : List Str := ["_law_wish_in", "_law_factors", "_law_x"]
theorem sc__law_degree : FnScope n__law_degree ["_law_wish_in"] (defScope s__law_degree) := ⟨rfl, rfl, rfl, by decide +kernel, rfl, by decide +kernel, by decide +kernel⟩
abbrev s__law_choose : Stmt := topS 71
abbrev n__law_choose : List Str := ["_law_n", "_law_many", "_law_found", "_law_k"]
theorem sc__law_choose : FnScope n__law_choose ["_law_n", "_law_many"] (defScope s__law_choose) := ⟨rfl, rfl, rfl, by decide +kernel, rfl, by decide +kernel, by decide +kernel⟩
abbrev s__law_told_mean : Stmt := topS 72
abbrev n__law_told_mean : List Str := ["_law_wish_in", "_law_source_in", "_law_rows_in", "_law_left", "_law_total", "_law_others_in", "_law_chance"]
theorem sc__law_told_mean : FnScope n__law_told_mean ["_law_wish_in", "_law_source_in", "_law_rows_in"] (defScope s__law_told_mean) := ⟨rfl, rfl, rfl, by decide +kernel, rfl, by decide +kernel, by decide +kernel⟩
abbrev s__law_part : Stmt := topS 73
abbrev n__law_part : List Str := ["_law_wish_in", "_law_source_in", "_law_rows_in", "_law_lots_so", "_law_total", "_law_own", "_law_lot", "_law_sign"]
theorem sc__law_part : FnScope n__law_part ["_law_wish_in", "_law_source_in", "_law_rows_in"] (defScope s__law_part) := ⟨rfl, rfl, rfl, by decide +kernel, rfl, by decide +kernel, by decide +kernel⟩
abbrev s__law_spread : Stmt := topS 74
abbrev n__law_spread : List Str := ["_law_wish_in", "_law_source_in", "_law_n", "_law_goal", "_law_total", "_law_rows_in", "_law_chance", "_law_gap"]
theorem sc__law_spread : FnScope n__law_spread ["_law_wish_in", "_law_source_in", "_law_n"] (defScope s__law_spread) := ⟨rfl, rfl, rfl, by decide +kernel, rfl, by decide +kernel, by decide +kernel⟩
abbrev s__law_both : Stmt := topS 75
abbrev n__law_both : List Str := ["_law_wish_in", "_law_source_in", "_law_many", "_law_m", "_law_total", "_law_rows_in", "_law_chance", "_law_near", "_law_far"]
theorem sc__law_both : FnScope n__law_both ["_law_wish_in", "_law_source_in", "_law_many"] (defScope s__law_both) := ⟨rfl, rfl, rfl, by decide +kernel, rfl, by decide +kernel, by decide +kernel⟩
abbrev s__law_spread_by : Stmt := topS 76
abbrev n__law_spread_by : List Str := ["_law_values", "_law_n", "_law_m", "_law_shares_so", "_law_k", "_law_share", "_law_own"]
theorem sc__law_spread_by : FnScope n__law_spread_by ["_law_values", "_law_n"] (defScope s__law_spread_by) := ⟨rfl, rfl, rfl, by decide +kernel, rfl, by decide +kernel, by decide +kernel⟩
abbrev s__law_enough_right : Stmt := topS 77
abbrev n__law_enough_right : List Str := ["_law_urn", "_law_wish_in", "_law_source_in", "_law_values", "_law_due", "_law_n", "_law_most_in", "_law_lap", "_law_own"]
theorem sc__law_enough_right : FnScope n__law_enough_right ["_law_urn", "_law_wish_in", "_law_source_in", "_law_values"] (defScope s__law_enough_right) := ⟨rfl, rfl, rfl, by decide +kernel, rfl, by decide +kernel, by decide +kernel⟩
abbrev s__law_case_right : Stmt := topS 78
abbrev n__law_case_right : List Str := ["_law_urn", "_law_wish_in", "_law_source_in", "_law_m", "_law_values", "_law_k", "_law_squares", "_law_rows_in", "_law_chance", "_law_own", "_law_n", "_law_shares_so", "_law_due", "_law_got", "_law_j", "_law_lap", "_law_share"]
theorem sc__law_case_right : FnScope n__law_case_right ["_law_urn", "_law_wish_in", "_law_source_in"] (defScope s__law_case_right) := ⟨rfl, rfl, rfl, by decide +kernel, rfl, by decide +kernel, by decide +kernel⟩
abbrev s__law_right : Stmt := topS 79
abbrev n__law_right : List Str := ["_law_urn", "_law_c", "_law_wish_in"]
theorem sc__law_right : FnScope n__law_right ["_law_urn"] (defScope s__law_right) := ⟨rfl, rfl, rfl, by decide +kernel, rfl, by decide +kernel, by decide +kernel⟩
abbrev s__law_by_hand_right : Stmt := topS 80
abbrev n__law_by_hand_right : List Str := ["_law_square", "_law_coin", "_law_got", "_law_due"]
theorem sc__law_by_hand_right : FnScope n__law_by_hand_right [] (defScope s__law_by_hand_right) := ⟨rfl, rfl, rfl, by decide +kernel, rfl, by decide +kernel, by decide +kernel⟩
abbrev s_law : Stmt := topS 81
abbrev n_law : List Str := ["_law_script"]
theorem sc_law : FnScope n_law ["_law_script"] (defScope s_law) := ⟨rfl, rfl, rfl, by decide +kernel, rfl, by decide +kernel, by decide +kernel⟩
end DW

/-! Pr1: fractions: the program's and the law's. -/
namespace DW
open PySem PySem.Spec PyProof.Rows L2
/-- a fraction as data -/
abbrev rd (q : Rat) : PyData := .tuple [.int q.num, .int q.den]
/-- a fraction of few bits -/
structure Sz (q : Rat) : Prop where
  n : q.num.natAbs < 2 ^ 4000
  d : q.den < 2 ^ 4000
theorem gcd_rat {a b : Int} (hb : 0 < b) : (a / ((Nat.gcd a.natAbs b.natAbs : Nat) : Int) = (Rat.divInt a b).num) ∧ (b / ((Nat.gcd a.natAbs b.natAbs : Nat) : Int) = ((Rat.divInt a b).den : Int)) := by
  rw [Rat.num_divInt, Rat.den_divInt, if_neg (by omega), Int.sign_eq_one_of_pos hb, Int.one_mul]
  have e : Int.gcd b a = Nat.gcd a.natAbs b.natAbs := by
    show Nat.gcd b.natAbs a.natAbs = _
    rw [Nat.gcd_comm]
  rw [e]
  refine ⟨rfl, ?_⟩
  rw [Int.natCast_ediv, Int.natAbs_of_nonneg (by omega)]
theorem gcd_lt {a b : Int} (hb : 0 < b) {n : Nat} (h : b.natAbs < n) : Nat.gcd a.natAbs b.natAbs < n := Nat.lt_of_le_of_lt (Nat.gcd_le_right _ (by omega)) h
theorem gcd_pos {a b : Int} (hb : 0 < b) : 0 < ((Nat.gcd a.natAbs b.natAbs : Nat) : Int) := by
  have := Nat.gcd_pos_of_pos_right a.natAbs (show 0 < b.natAbs by omega)
  omega
theorem div_log {a b : Int} (hb : 0 < b) (h : b.natAbs < 2 ^ 8999) : (((Nat.gcd a.natAbs b.natAbs : Nat) : Int)).natAbs.log2 < 9000 :=
  Nat.lt_of_lt_of_le (PySem.Flt.log2_lt_of (k := 8999) (Nat.succ_pos _) (by
    have := gcd_lt (a := a) hb h
    rw [Int.natAbs_natCast]
    exact this)) (by decide)
section
variable {P : Program} {w : World} {K : PySem.W.Frag} {mg : Str → Option Value} {base : Heap}
def R_fraction (ds : List PyData) (d : PyData) : Prop := ∃ a b : Int, ds = [.int a, .int b] ∧ 0 < b ∧ b.natAbs < 2 ^ 8999 ∧ d = rd (Rat.divInt a b)
theorem ok_fraction (D : Df K mg "fraction" s_fraction) (mgcd : mg "gcd" = some (.builtin "math.gcd")) : Fn P w K mg base 1 "fraction" (spP K R_fraction) := by
  refine fn_pure (k := 0) D sc_fraction ?_ (fun _ _ _ _ _ _ us hl => match us, hl with | [_, _], _ => by kernel_rfl) ?_
  · rintro ds d ⟨a, b, rfl, _⟩
    rfl
  · rintro f cdv A outer s H E ds d hr ⟨a, b, rfl, hb, hz, rfl⟩
    refine ⟨[], bj_cons (sj_if (tv_cmp op_eq ov_eqI (ev_name 1 rfl) ev_int) (fun z => ?_) fun _ => bj_nil) (bj_cons (sj_set 2 sc_fraction.nd (ev_gcd mgcd (av_cons (ev_name 0 rfl) (av_cons (ev_name 1 rfl) av_nil)))) (bj_cons (sj_if (tv_cmp op_lt ov_B0 (ev_name 1 rfl) ev_int) (fun z => ?_) fun _ => bj_nil)
      (bj_one (sj_eq (sj_ret (ev_tup (av_cons (ev_fdiv ?_ (ev_name 0 rfl) (ev_name 2 rfl)) (av_cons (ev_fdiv ?_ (ev_name 1 rfl) (ev_name 2 rfl)) av_nil)))) ?_))))⟩
    · have z' : b = 0 := eq_of_beq z
      omega
    · have z' := of_decide_eq_true z
      omega
    · exact ⟨gcd_pos hb, div_log hb hz⟩
    · exact ⟨gcd_pos hb, div_log hb hz⟩
    · obtain ⟨e1, e2⟩ := gcd_rat (a := a) hb
      rw [e1, e2]
def R_two (f : Rat → Rat → Rat) (ds : List PyData) (d : PyData) : Prop := ∃ x y : Rat, ds = [rd x, rd y] ∧ Sz x ∧ Sz y ∧ d = rd (f x y)
theorem mul_szW {i j : Int} (h1 : i.natAbs < 2 ^ 4000) (h2 : j.natAbs < 2 ^ 4000) : CMulW i j := wide_mul h1 h2 (by decide) (by decide) (by decide)
theorem den_pos (x : Rat) : (0 : Int) < x.den := by
  have := x.den_pos
  omega
theorem den_two {x y : Rat} (h1 : Sz x) (h2 : Sz y) : 0 < (x.den : Int) * y.den ∧ ((x.den : Int) * y.den).natAbs < 2 ^ 8999 := by
  refine ⟨Int.mul_pos (den_pos x) (den_pos y), ?_⟩
  have h := wide_lt (i := x.den) (j := y.den) (a := 4000) (b := 4000) h1.d h2.d
  exact Nat.lt_of_lt_of_le h (Nat.pow_le_pow_right (by decide) (by decide))
theorem add_rat (x y : Rat) : Rat.divInt (x.num * y.den + y.num * x.den) ((x.den : Int) * y.den) = x + y := by
  rw [Rat.add_def', ← Rat.divInt_ofNat, Int.natCast_mul]
theorem mul_rat (x y : Rat) : Rat.divInt (x.num * y.num) ((x.den : Int) * y.den) = x * y := by
  rw [Rat.mul_def', ← Rat.divInt_ofNat, Int.natCast_mul]
theorem ok_plus (D : Df K mg "plus" s_plus) (G : Fn P w K mg base 1 "fraction" (spP K R_fraction)) : Fn P w K mg base 2 "plus" (spP K (R_two (· + ·))) := by
  refine fn_pure (k := 1) D sc_plus ?_ (fun _ _ _ _ _ _ us hl => match us, hl with | [_, _], _ => by kernel_rfl) ?_
  · rintro ds d ⟨a, b, rfl, _⟩
    rfl
  · rintro f cdv A outer s H E ds d hr ⟨x, y, rfl, h1, h2, rfl⟩
    refine ⟨[], bj_one (sj_ret (ev_call G hr (av_cons (ev_add (ev_mul ?_ (ev_ixT (ev_name 0 rfl) ev_int rfl) (ev_ixT (ev_name 1 rfl) ev_int rfl)) (ev_mul ?_ (ev_ixT (ev_name 1 rfl) ev_int rfl) (ev_ixT (ev_name 0 rfl) ev_int rfl))) (av_cons (ev_mul ?_ (ev_ixT (ev_name 0 rfl) ev_int rfl) (ev_ixT (ev_name 1 rfl) ev_int rfl)) av_nil)) ?_))⟩
    · exact mul_szW h1.n h2.d
    · exact mul_szW h2.n h1.d
    · exact mul_szW h1.d h2.d
    · exact ⟨_, _, rfl, (den_two h1 h2).1, (den_two h1 h2).2, by rw [add_rat]⟩
theorem ok_times (D : Df K mg "times" s_times) (G : Fn P w K mg base 1 "fraction" (spP K R_fraction)) : Fn P w K mg base 2 "times" (spP K (R_two (· * ·))) := by
  refine fn_pure (k := 1) D sc_times ?_ (fun _ _ _ _ _ _ us hl => match us, hl with | [_, _], _ => by kernel_rfl) ?_
  · rintro ds d ⟨a, b, rfl, _⟩
    rfl
  · rintro f cdv A outer s H E ds d hr ⟨x, y, rfl, h1, h2, rfl⟩
    refine ⟨[], bj_one (sj_ret (ev_call G hr (av_cons (ev_mul ?_ (ev_ixT (ev_name 0 rfl) ev_int rfl) (ev_ixT (ev_name 1 rfl) ev_int rfl)) (av_cons (ev_mul ?_ (ev_ixT (ev_name 0 rfl) ev_int rfl) (ev_ixT (ev_name 1 rfl) ev_int rfl)) av_nil)) ?_))⟩
    · exact mul_szW h1.n h2.n
    · exact mul_szW h1.d h2.d
    · exact ⟨_, _, rfl, (den_two h1 h2).1, (den_two h1 h2).2, by rw [mul_rat]⟩

/-! ### the law's -/
/-- the law's own gcd -/
theorem euclid {X : Cx} {u : Nat} {c : Expr} {body : List Stmt} {ρ : List SV} (hN : ρ.length = 4)
    (ht : ∀ a b : Nat, TV X c ((ρ.set 2 (.d (.int a))).set 3 (.d (.int b))) [] (decide ((b : Int) > 0)) [])
    (hb : ∀ a b : Nat, 0 < b → BJ X u body ((ρ.set 2 (.d (.int a))).set 3 (.d (.int b))) [] (.nx ((ρ.set 2 (.d (.int b))).set 3 (.d (.int (a % b : Nat)))) [])) :
    ∀ b a : Nat, ∃ n, WhR X u c body n ((ρ.set 2 (.d (.int a))).set 3 (.d (.int b))) [] ((ρ.set 2 (.d (.int (Nat.gcd a b)))).set 3 (.d (.int (0 : Nat)))) [] := by
  intro b
  induction b using Nat.strongRecOn with
  | ind b ih =>
    intro a
    by_cases h : b = 0
    · subst h
      refine ⟨0, ?_⟩
      have := ht a 0
      rw [Nat.gcd_zero_right]
      exact .stop this (Wk.refl _)
    · have hp : 0 < b := Nat.pos_of_ne_zero h
      obtain ⟨n, hn⟩ := ih (a % b) (Nat.mod_lt _ hp) b
      have e : Nat.gcd b (a % b) = Nat.gcd a b := by
        rw [Nat.gcd_comm b, ← Nat.gcd_rec, Nat.gcd_comm]
      rw [e] at hn
      have ht' := ht a b
      rw [decide_eq_true (by omega)] at ht'
      exact ⟨n + 1, .step ht' (hb a b hp) (Wk.refl _) hn⟩
theorem ok_law_low (D : Df K mg "_law_low" s__law_low) (mabs : mg "abs" = none) (mint : mg "int" = none) : Fn P w K mg base 1 "_law_low" (spP K R_fraction) := by
  refine fn_pure (k := 0) D sc__law_low ?_ (fun _ _ _ _ _ _ us hl => match us, hl with | [_, _], _ => by kernel_rfl) ?_
  · rintro ds d ⟨a, b, rfl, _⟩
    rfl
  · rintro f cdv A outer s H E ds d hr ⟨a, b, rfl, hb, hz, rfl⟩
    have e1 : (if a < 0 then -a else a) = ((a.natAbs : Nat) : Int) := by split <;> omega
    have e2 : b = ((b.natAbs : Nat) : Int) := by omega
    refine ⟨[], bj_cons (sj_par 2 3 sc__law_low.nd (av_cons (ev_abs mabs (ev_name 0 rfl)) (av_cons (ev_name 1 rfl) av_nil))) (bj_cons (sj_whileE [.d (.int a), .d (.int b), .d (.int (Nat.gcd a.natAbs b.natAbs : Nat)), .d (.int (0 : Nat))] [] ?_) (bj_one (sj_eq (sj_ret (ev_tup (av_cons (ev_fdiv ?_ (ev_name 0 rfl) (ev_name 2 rfl)) (av_cons (ev_fdiv ?_ (ev_name 1 rfl) (ev_name 2 rfl)) av_nil)))) ?_)))⟩
    · show ∃ n, WhR _ _ _ _ n [.d (.int a), .d (.int b), .d (.int (if a < 0 then -a else a)), .d (.int b)] _ _ _
      have e3 : ([.d (.int a), .d (.int b), .d (.int (if a < 0 then -a else a)), .d (.int b)] : List SV) = [.d (.int a), .d (.int b), .d (.int ((a.natAbs : Nat) : Int)), .d (.int ((b.natAbs : Nat) : Int))] := by
        rw [e1]
        exact congrArg (fun t => [SV.d (.int a), .d (.int b), .d (.int ((a.natAbs : Nat) : Int)), .d (.int t)]) e2
      rw [e3]
      exact euclid (ρ := [.d (.int a), .d (.int b), .u, .u]) rfl (fun a b => tv_cmp op_gt ov_B0 (ev_name 3 rfl) ev_int)
        (fun a b hp => bj_one (sj_eq (sj_par 2 3 sc__law_low.nd (av_cons (ev_name 3 rfl) (av_cons (ev_mod (show (0 : Int) < b by omega) (ev_toInt mint (ev_name 2 rfl)) (ev_name 3 rfl)) av_nil))) rfl)) b.natAbs a.natAbs
    · exact ⟨gcd_pos hb, div_log hb hz⟩
    · exact ⟨gcd_pos hb, div_log hb hz⟩
    · obtain ⟨e1, e2⟩ := gcd_rat (a := a) hb
      rw [e1, e2]
theorem ok_law_add (D : Df K mg "_law_add" s__law_add) (G : Fn P w K mg base 1 "_law_low" (spP K R_fraction)) : Fn P w K mg base 2 "_law_add" (spP K (R_two (· + ·))) := by
  refine fn_pure (k := 1) D sc__law_add ?_ (fun _ _ _ _ _ _ us hl => match us, hl with | [_, _], _ => by kernel_rfl) ?_
  · rintro ds d ⟨a, b, rfl, _⟩
    rfl
  · rintro f cdv A outer s H E ds d hr ⟨x, y, rfl, h1, h2, rfl⟩
    refine ⟨[], bj_one (sj_ret (ev_call G hr (av_cons (ev_add (ev_mul ?_ (ev_ixT (ev_name 0 rfl) ev_int rfl) (ev_ixT (ev_name 1 rfl) ev_int rfl)) (ev_mul ?_ (ev_ixT (ev_name 1 rfl) ev_int rfl) (ev_ixT (ev_name 0 rfl) ev_int rfl))) (av_cons (ev_mul ?_ (ev_ixT (ev_name 0 rfl) ev_int rfl) (ev_ixT (ev_name 1 rfl) ev_int rfl)) av_nil)) ?_))⟩
    · exact mul_szW h1.n h2.d
    · exact mul_szW h2.n h1.d
    · exact mul_szW h1.d h2.d
    · exact ⟨_, _, rfl, (den_two h1 h2).1, (den_two h1 h2).2, by rw [add_rat]⟩
theorem ok_law_mul (D : Df K mg "_law_mul" s__law_mul) (G : Fn P w K mg base 1 "_law_low" (spP K R_fraction)) : Fn P w K mg base 2 "_law_mul" (spP K (R_two (· * ·))) := by
  refine fn_pure (k := 1) D sc__law_mul ?_ (fun _ _ _ _ _ _ us hl => match us, hl with | [_, _], _ => by kernel_rfl) ?_
  · rintro ds d ⟨a, b, rfl, _⟩
    rfl
  · rintro f cdv A outer s H E ds d hr ⟨x, y, rfl, h1, h2, rfl⟩
    refine ⟨[], bj_one (sj_ret (ev_call G hr (av_cons (ev_mul ?_ (ev_ixT (ev_name 0 rfl) ev_int rfl) (ev_ixT (ev_name 1 rfl) ev_int rfl)) (av_cons (ev_mul ?_ (ev_ixT (ev_name 0 rfl) ev_int rfl) (ev_ixT (ev_name 1 rfl) ev_int rfl)) av_nil)) ?_))⟩
    · exact mul_szW h1.n h2.n
    · exact mul_szW h1.d h2.d
    · exact ⟨_, _, rfl, (den_two h1 h2).1, (den_two h1 h2).2, by rw [mul_rat]⟩
end
end DW

/-! Pr2: the program's plain defs: tuple_of, powers, sums, moments. -/
namespace DW
open PySem PySem.Spec PyProof.Rows L2 DM
theorem sz_of {k : Nat} {q : Rat} (h : Fit k q) (hk : k ≤ 150) : Sz q := let ⟨a, b⟩ := fit_bits h hk; ⟨a, b⟩
/-! ### encodings -/
abbrev Mom := List Nat
abbrev Fac := List Mom
abbrev Wish := List (Fac × Rat)
abbrev Row := List Rat
abbrev Src := List (Row × Rat)
abbrev eN (n : Nat) : PyData := .int (n : Nat)
abbrev eM (m : Mom) : PyData := .tuple (m.map eN)
abbrev eF (f : Fac) : PyData := .tuple (f.map eM)
abbrev eP (p : Fac × Rat) : PyData := pairD (eF p.1) (rd p.2)
abbrev eW (w : Wish) : PyData := .tuple (w.map eP)
abbrev eR (r : Row) : PyData := .tuple (r.map rd)
abbrev eQ (p : Row × Rat) : PyData := pairD (eR p.1) (rd p.2)
abbrev eS (s : Src) : PyData := .tuple (s.map eQ)
/-- tuples and ints, to the depth n -/
def Tt : Nat → PyData → Prop
  | _, .int _ => True
  | n + 1, .tuple ds => ds.length ≤ 1000 ∧ ∀ d ∈ ds, Tt n d
  | _, _ => False
theorem tt_map {α : Type} {n : Nat} {f : α → PyData} {xs : List α} (hl : xs.length ≤ 1000) (h : ∀ x ∈ xs, Tt n (f x)) : Tt (n + 1) (.tuple (xs.map f)) := ⟨by rw [List.length_map]; exact hl, fun d hd => by
  obtain ⟨x, hx, rfl⟩ := List.mem_map.mp hd
  exact h x hx⟩
theorem tt_pair {n : Nat} {a b : PyData} (h1 : Tt n a) (h2 : Tt n b) : Tt (n + 1) (pairD a b) := ⟨by show 2 ≤ 1000; decide, fun d hd => by
  rcases List.mem_cons.mp hd with e | hd
  · rw [e]; exact h1
  · rcases List.mem_cons.mp hd with e | hd
    · rw [e]; exact h2
    · cases hd⟩
theorem tt_int (n : Nat) (i : Int) : Tt n (.int i) := by cases n <;> trivial
theorem tt_rd (n : Nat) (q : Rat) : Tt (n + 1) (rd q) := tt_pair (tt_int n _) (tt_int n _)
/-- lists of few items -/
def FewF (f : Fac) : Prop := f.length ≤ 1000 ∧ ∀ m ∈ f, m.length ≤ 1000
def FewW (w : Wish) : Prop := w.length ≤ 1000 ∧ ∀ p ∈ w, FewF p.1
def FewS (s : Src) : Prop := s.length ≤ 1000 ∧ ∀ p ∈ s, p.1.length ≤ 1000
theorem tt_eM (n : Nat) {m : Mom} (h : m.length ≤ 1000) : Tt (n + 1) (eM m) := tt_map h fun x _ => tt_int n _
theorem tt_eF (n : Nat) {m : Fac} (h : FewF m) : Tt (n + 2) (eF m) := tt_map h.1 fun x hx => tt_eM n (h.2 x hx)
theorem tt_eW {w : Wish} (h : FewW w) : Tt 4 (eW w) := tt_map h.1 fun p hp => tt_pair (tt_eF 0 (h.2 p hp)) (tt_rd 1 _)
theorem tt_eS {w : Src} (h : FewS w) : Tt 4 (eS w) := tt_map h.1 fun p hp => tt_pair (tt_map (h.2 p hp) fun m _ => tt_rd 0 m) (tt_rd 1 _)
section
variable {P : Program} {w : World} {K : PySem.W.Frag} {mg : Str → Option Value} {base : Heap}
def R_tupleOf (n : Nat) (ds : List PyData) (d : PyData) : Prop := ∃ x, ds = [x] ∧ Tt n x ∧ d = x
theorem isi_lt {d : PyData} {n : Nat} (h : Tt n d) : ∃ b, kitB (tyD d) "list" = some false ∧ kitB (tyD d) "tuple" = some b ∧ (b = true → ∃ ds, d = .tuple ds) ∧ (b = false → ∃ i, d = .int i) := by
  cases d with
  | int i => exact ⟨false, by kernel_rfl, by kernel_rfl, fun z => by (cases z), fun _ => ⟨i, rfl⟩⟩
  | tuple ds => exact ⟨true, by kernel_rfl, by kernel_rfl, fun _ => ⟨ds, rfl⟩, fun z => by cases z⟩
  | _ => cases n <;> exact False.elim h
theorem ok_tuple_of (D : Df K mg "tuple_of" s_tuple_of) (m1 : mg "isinstance" = none) (m2 : mg "list" = none) (m3 : mg "tuple" = none) (n : Nat) : Fn P w K mg base (n + 1) "tuple_of" (spP K (R_tupleOf n)) := by
  induction n with
  | zero =>
    refine fn_pure (k := 0) D sc_tuple_of ?_ (fun _ _ _ _ _ _ us hl => match us, hl with | [_], _ => by kernel_rfl) ?_
    · rintro ds d ⟨a, rfl, _⟩
      rfl
    · rintro f cdv A outer s H E ds d hr ⟨x, rfl, ht, rfl⟩
      obtain ⟨b, k1, k2, k3, k4⟩ := isi_lt ht
      cases b with
      | true =>
        obtain ⟨xs, rfl⟩ := k3 rfl
        exact False.elim ht
      | false => exact ⟨[], bj_cons (sj_if (tv_b (ev_isi2 m1 (ev_name 0 rfl) m2 m3 (by kernel_rfl) (by kernel_rfl) k1 k2)) (fun z => by cases z) fun _ => bj_nil) (bj_one (sj_ret (ev_name 0 rfl)))⟩
  | succ n ih =>
    refine fn_pure (k := n + 1) D sc_tuple_of ?_ (fun _ _ _ _ _ _ us hl => match us, hl with | [_], _ => by kernel_rfl) ?_
    · rintro ds d ⟨a, rfl, _⟩
      rfl
    · rintro f cdv A outer s H E ds d hr ⟨x, rfl, ht, rfl⟩
      obtain ⟨b, k1, k2, k3, k4⟩ := isi_lt ht
      cases b with
      | true =>
        obtain ⟨xs, rfl⟩ := k3 rfl
        have hl : xs.length ≤ 1000000 := by
          have := ht.1
          omega
        have L := fun (scope : Scope) (elt tg : Expr) (h1 : _) (h2 : _) => lc_all (X := DX P w K mg base n_tuple_of "tuple_of" s_tuple_of f cdv A outer s H E) (scope := scope) (elt := elt) (tg := tg) (own := [1]) (μ := []) (ρ := [SV.d (.tuple xs), .u]) (is := [1]) id id (fun z => [.d (.tuple xs), .d z]) (by simp) xs h1 h2
        rw [List.map_id] at L
        exact ⟨[], bj_stop (sj_if (tv_b (ev_isi2 m1 (ev_name 0 rfl) m2 m3 (by kernel_rfl) (by kernel_rfl) k1 k2)) (fun _ => bj_one (sj_ret (ev_tupleL m3 (lv_of_ef (ef_lc (own := [("part", 1)]) sc_tuple_of.nd (iv_tup (ev_name 0 rfl)) (blkOk_by (by kernel_rfl)) (L _ _ _ (fun z hz s H C cl fp => gv_name 1 sc_tuple_of.nd) (fun z hz s H C cl fp => ev_call ih hr (av_cons (ev_name 1 rfl) av_nil) ⟨z, rfl, ht.2 z hz, rfl⟩ (Nat.le_refl _))) hl))))) fun z => by cases z)⟩
      | false => exact ⟨[], bj_cons (sj_if (tv_b (ev_isi2 m1 (ev_name 0 rfl) m2 m3 (by kernel_rfl) (by kernel_rfl) k1 k2)) (fun z => by cases z) fun _ => bj_nil) (bj_one (sj_ret (ev_name 0 rfl)))⟩
/-! ### powers -/
def R_power (ds : List PyData) (d : PyData) : Prop := ∃ (a : Int) (n : Nat), ds = [.int a, .int n] ∧ a.natAbs < 2 ^ 200 ∧ n < 2 ^ 3 ∧ d = .int (a ^ n)
theorem power_loop {X : Cx} {c : Expr} {body : List Stmt} {x0 x1 : SV}
    (ht : ∀ f q : Int, ∀ l : Nat, TV X c [x0, x1, .d (.int f), .d (.int q), .d (.int l)] [] (decide ((l : Int) > 0)) [])
    (hb : ∀ f q : Int, ∀ l : Nat, CMulW f q → CMulW q q → BJ X 0 body [x0, x1, .d (.int f), .d (.int q), .d (.int l)] [] (.nx [x0, x1, .d (.int (if l % 2 = 1 then f * q else f)), .d (.int (q * q)), .d (.int (l / 2 : Nat))] [])) :
    ∀ (m l b c0 : Nat) (f q : Int), l < 2 ^ m → 0 < b → 0 < c0 → q.natAbs < 2 ^ b → f.natAbs < 2 ^ c0 → c0 + b * (2 ^ m - 1) ≤ 100000 → b * 2 ^ m ≤ 100000 → ∃ n, WhR X 0 c body n [x0, x1, .d (.int f), .d (.int q), .d (.int l)] [] [x0, x1, .d (.int (f * q ^ l)), .u, .u] []
  | 0, l, b, c0, f, q, hl, hb0, hc0, hq, hf, h1, h2 => by
    have e : l = 0 := by simpa using hl
    subst e
    refine ⟨0, .stop (ht f q 0) ?_⟩
    rw [Int.pow_zero, Int.mul_one]
    exact .keep (.keep (.keep (.drop (.drop .nil))))
  | m + 1, l, b, c0, f, q, hl, hb0, hc0, hq, hf, h1, h2 => by
    by_cases h : l = 0
    · subst h
      refine ⟨0, .stop (ht f q 0) ?_⟩
      rw [Int.pow_zero, Int.mul_one]
      exact .keep (.keep (.keep (.drop (.drop .nil))))
    · have hp : 0 < 2 ^ m := Nat.two_pow_pos m
      have e2 : 2 ^ (m + 1) = 2 * 2 ^ m := by rw [Nat.pow_succ]; omega
      have hb2 : b ≤ b * (2 ^ (m + 1) - 1) := Nat.le_mul_of_pos_right _ (by omega)
      have hb3 : b * 2 ≤ b * 2 ^ (m + 1) := Nat.mul_le_mul_left _ (by omega)
      have w1 : CMulW f q := wide_mul hf hq hc0 hb0 (by omega)
      have w2 : CMulW q q := wide_mul hq hq hb0 hb0 (by omega)
      have hq2 : (q * q).natAbs < 2 ^ (2 * b) := by
        rw [Nat.two_mul]
        exact wide_lt hq hq
      have hf2 : (if l % 2 = 1 then f * q else f).natAbs < 2 ^ (c0 + b) := by
        split
        · exact wide_lt hf hq
        · exact Nat.lt_of_lt_of_le hf (Nat.pow_le_pow_right (by decide) (by omega))
      have a1 : c0 + b + 2 * b * (2 ^ m - 1) ≤ 100000 := by
        have e3 : b * (2 ^ (m + 1) - 1) = b + 2 * b * (2 ^ m - 1) := by
          have : 2 ^ (m + 1) - 1 = 1 + 2 * (2 ^ m - 1) := by omega
          rw [this, Nat.mul_add, Nat.mul_one, ← Nat.mul_assoc, Nat.mul_comm b 2]
        omega
      have a2 : 2 * b * 2 ^ m ≤ 100000 := by
        have e3 : b * 2 ^ (m + 1) = 2 * b * 2 ^ m := by rw [e2, ← Nat.mul_assoc, Nat.mul_comm b 2]
        omega
      obtain ⟨n, hn⟩ := power_loop ht hb m (l / 2) (2 * b) (c0 + b) (if l % 2 = 1 then f * q else f) (q * q) (by omega) (by omega) (by omega) hq2 hf2 a1 a2
      have ht' := ht f q l
      rw [decide_eq_true (by omega)] at ht'
      have ev : (if l % 2 = 1 then f * q else f) * (q * q) ^ (l / 2) = f * q ^ l := by
        have sq : (q * q) ^ (l / 2) = q ^ (2 * (l / 2)) := by rw [Int.pow_mul, Int.pow_succ, Int.pow_succ, Int.pow_zero, Int.one_mul]
        split
        · rename_i h1
          have e4 : q ^ l = q * q ^ (2 * (l / 2)) := by
            rw [← Int.pow_succ']
            congr 1
            omega
          rw [sq, e4, Int.mul_assoc]
        · rename_i h1
          rw [sq]
          congr 2
          omega
      rw [ev] at hn
      exact ⟨n + 1, .step ht' (hb f q l w1 w2) (Wk.refl _) hn⟩
theorem ok_power (D : Df K mg "_power" s__power) : Fn P w K mg base 1 "_power" (spP K R_power) := by
  refine fn_pure (k := 0) D sc__power ?_ (fun _ _ _ _ _ _ us hl => match us, hl with | [_, _], _ => by kernel_rfl) ?_
  · rintro ds d ⟨a, b, rfl, _⟩
    rfl
  · rintro f cdv A outer s H E ds d hr ⟨a, n, rfl, ha, hn, rfl⟩
    refine ⟨[], bj_cons (sj_par3 2 3 4 sc__power.nd (av_cons ev_int (av_cons (ev_name 0 rfl) (av_cons (ev_name 1 rfl) av_nil)))) (bj_cons (sj_whileE [.d (.int a), .d (.int n), .d (.int (1 * a ^ n)), .u, .u] [] ?_) (bj_one (sj_eq (sj_ret (ev_name 2 rfl)) (by rw [Int.one_mul]))))⟩
    refine power_loop (fun f q l => tv_cmp op_gt ov_B0 (ev_name 4 rfl) ev_int) (fun f q l h1 h2 => ?_) 3 n 200 1 1 a hn (by decide) (by decide) ha (by decide) (by decide) (by decide)
    refine bj_cons (sj_if (tv_cmp op_eq ov_eqI (ev_mod (by decide) (ev_name 4 rfl) ev_int) ev_int) (r := .nx [.d (.int a), .d (.int n), .d (.int (if l % 2 = 1 then f * q else f)), .d (.int q), .d (.int l)] []) (fun z => ?_) (fun z => ?_)) (bj_one (sj_eq (sj_par 3 4 sc__power.nd (av_cons (ev_mul h2 (ev_name 3 rfl) (ev_name 3 rfl)) (av_cons (ev_fdiv ⟨by decide, by decide⟩ (ev_name 4 rfl) ev_int) av_nil))) ?_))
    · have e : l % 2 = 1 := by
        have := eq_of_beq z
        omega
      rw [if_pos e]
      exact bj_one (sj_eq (sj_augMul 2 sc__power.nd rfl (ev_name 3 rfl) h1) rfl)
    · have e : ¬ l % 2 = 1 := fun h => by
        have : ((l : Int) % 2 == 1) = true := by
          rw [beq_iff_eq]
          omega
        rw [this] at z
        cases z
      rw [if_neg e]
      exact bj_nil
    · have e : (l : Int) / 2 = ((l / 2 : Nat) : Int) := by omega
      rw [e]
      rfl
def R_powerOf (ds : List PyData) (d : PyData) : Prop := ∃ (x : Rat) (n : Nat), ds = [rd x, .int n] ∧ x.num.natAbs < 2 ^ 200 ∧ x.den < 2 ^ 200 ∧ n < 2 ^ 3 ∧ d = rd (x ^ n)
theorem ok_power_of (D : Df K mg "power_of" s_power_of) (G : Fn P w K mg base 1 "_power" (spP K R_power)) : Fn P w K mg base 2 "power_of" (spP K R_powerOf) := by
  refine fn_pure (k := 1) D sc_power_of ?_ (fun _ _ _ _ _ _ us hl => match us, hl with | [_, _], _ => by kernel_rfl) ?_
  · rintro ds d ⟨a, b, rfl, _⟩
    rfl
  · rintro f cdv A outer s H E ds d hr ⟨x, n, rfl, h1, h2, h3, rfl⟩
    refine ⟨[], bj_stop (sj_if (tv_cmp op_ge ov_B0 (ev_name 1 rfl) ev_int) (fun _ => bj_one (sj_eq (sj_ret (ev_tup (av_cons (ev_call G hr (av_cons (ev_ixT (ev_name 0 rfl) ev_int rfl) (av_cons (ev_name 1 rfl) av_nil)) ⟨_, n, rfl, h1, h3, rfl⟩) (av_cons (ev_call G hr (av_cons (ev_ixT (ev_name 0 rfl) ev_int rfl) (av_cons (ev_name 1 rfl) av_nil)) ⟨_, n, rfl, h2, h3, rfl⟩) av_nil)))) ?_)) fun z => ?_)⟩
    · show Rs.rt (.tuple [.int (x.num ^ n), .int ((x.den : Int) ^ n)]) [] = Rs.rt (rd (x ^ n)) []
      rw [← Int.natCast_pow]
      rfl
    · have : decide ((n : Int) ≥ 0) = true := decide_eq_true (by omega)
      rw [this] at z
      cases z
def R_isLess (ds : List PyData) (d : PyData) : Prop := ∃ x y : Rat, ds = [rd x, rd y] ∧ Sz x ∧ Sz y ∧ d = .bool (decide (x < y))
theorem ok_is_less (D : Df K mg "is_less" s_is_less) : Fn P w K mg base 1 "is_less" (spP K R_isLess) := by
  refine fn_pure (k := 0) D sc_is_less ?_ (fun _ _ _ _ _ _ us hl => match us, hl with | [_, _], _ => by kernel_rfl) ?_
  · rintro ds d ⟨a, b, rfl, _⟩
    rfl
  · rintro f cdv A outer s H E ds d hr ⟨x, y, rfl, h1, h2, rfl⟩
    refine ⟨[], bj_one (sj_eq (sj_ret (ev_cmp op_lt ov_B0 (ev_mul ?_ (ev_ixT (ev_name 0 rfl) ev_int rfl) (ev_ixT (ev_name 1 rfl) ev_int rfl)) (ev_mul ?_ (ev_ixT (ev_name 1 rfl) ev_int rfl) (ev_ixT (ev_name 0 rfl) ev_int rfl)))) ?_)⟩
    · exact mul_szW h1.n h2.d
    · exact mul_szW h2.n h1.d
    · have e : decide (x.num * y.den < y.num * x.den) = decide (x < y) := by
        rw [decide_eq_decide]
        exact (Rat.lt_iff x y).symm
      rw [e]
/-! ### sums -/
def R_sum (ds : List PyData) (d : PyData) : Prop := ∃ xs : List Rat, ds = [.list (xs.map rd)] ∧ (∀ x ∈ xs, Sz x) ∧ (∀ pre, pre <+: xs → Sz (rsum pre)) ∧ d = rd (rsum xs)
theorem sum_sz {k : Nat} {xs : List Rat} (h : ∀ x ∈ xs, Fit k x) (hk : k ≤ 149) (hl : xs.length ≤ DM.G) : (∀ x ∈ xs, Sz x) ∧ ∀ pre, pre <+: xs → Sz (rsum pre) :=
  ⟨fun x hx => sz_of (h x hx) (by omega), fun pre hp => sz_of (Fit.sum (fun x hx => h x (hp.subset hx)) (Nat.le_trans hp.length_le hl)) (by omega)⟩
theorem ok_sum_of (D : Df K mg "sum_of" s_sum_of) (G : Fn P w K mg base 2 "plus" (spP K (R_two (· + ·)))) (g0 : GlD K mg "ZERO_sources" (rd 0)) : Fn P w K mg base 3 "sum_of" (spP K R_sum) := by
  refine fn_pure (k := 2) D sc_sum_of ?_ (fun _ _ _ _ _ _ us hl => match us, hl with | [_], _ => by kernel_rfl) ?_
  · rintro ds d ⟨a, rfl, _⟩
    rfl
  · rintro f cdv A outer s H E ds d hr ⟨xs, rfl, h1, h2, rfl⟩
    refine ⟨[], bj_cons (sj_set 1 sc_sum_of.nd (ev_glob g0)) (bj_cons (sj_for (iv_list (ev_name 0 rfl)) (for_pre rd (fun pre => [.d (.list (xs.map rd)), .d (rd (rsum pre)), .u]) (fun _ => []) xs fun pre z suf e => ?_)) (bj_one (sj_ret (ev_name 1 rfl))))⟩
    refine ⟨_, _, _, gv_name 2 sc_sum_of.nd, bj_one (sj_set 1 sc_sum_of.nd (ev_call G hr (av_cons (ev_name 1 rfl) (av_cons (ev_name 2 rfl) av_nil)) ⟨_, _, rfl, h2 pre ⟨_, e.symm⟩, h1 z (by rw [e]; simp), rfl⟩)), ?_⟩
    have e2 : rsum (pre ++ [z]) = rsum pre + z := by simp [rsum, List.foldl_append]
    rw [e2]
    exact .keep (.keep (.drop .nil))
end
end DW

/-! Pr3: the program's moments and gathering. -/
namespace DW
open PySem PySem.Spec PyProof.Rows L2 DM
/-! ### moments of a row, of a source -/
def rowM (r : Row) (m : Mom) : Rat := (r.zip m).foldl (fun t p => if p.2 > 0 then t * p.1 ^ p.2 else t) 1
structure RowOk (r : Row) : Prop where
  len : r.length ≤ 2
  pool : ∀ x ∈ r, Pool x
def MomOk (m : Mom) : Prop := m.length ≤ 2 ∧ ∀ n ∈ m, n ≤ 4
theorem zip_ok' {r : Row} {m : Mom} (hr : RowOk r) (hm : MomOk m) {p : Rat × Nat} (h : p ∈ r.zip m) : Pool p.1 ∧ p.2 ≤ 4 := by
  obtain ⟨a, b⟩ := p
  exact ⟨hr.pool _ (List.of_mem_zip h).1, hm.2 _ (List.of_mem_zip h).2⟩
abbrev rstep (t : Rat) (p : Rat × Nat) : Rat := if p.2 > 0 then t * p.1 ^ p.2 else t
theorem rstep_fit {r : Row} {m : Mom} (hr : RowOk r) (hm : MomOk m) : ∀ (ps : List (Rat × Nat)) (t : Rat) (k : Nat), (∀ p ∈ ps, p ∈ r.zip m) → Fit k t → Fit (k + ps.length) (ps.foldl rstep t)
  | [], t, k, _, h => h
  | p :: ps, t, k, hp, h => by
    have q := zip_ok' hr hm (hp p List.mem_cons_self)
    have h1 : Fit (k + 1) (rstep t p) := by
      unfold rstep
      split
      · exact h.mul (pool_fit q.1 q.2)
      · exact h.up
    have := rstep_fit hr hm ps (rstep t p) (k + 1) (fun p h => hp p (List.mem_cons_of_mem _ h)) h1
    rw [List.length_cons, Nat.add_comm ps.length 1, ← Nat.add_assoc]
    exact this
theorem fit_one : Fit 1 (1 : Rat) := fit_int (n := 1) (by decide)
theorem rowM_fit {r : Row} {m : Mom} (hr : RowOk r) (hm : MomOk m) : Fit 3 (rowM r m) := by
  have h := rstep_fit hr hm (r.zip m) 1 1 (fun p h => h) fit_one
  refine h.mono ?_
  have := hr.len
  rw [List.length_zip]
  omega
structure SrcOk (s : Src) : Prop where
  len : s.length ≤ 3
  row : ∀ p ∈ s, RowOk p.1
  fit : ∀ p ∈ s, Fit 1 p.2
theorem SrcOk.few {s : Src} (h : SrcOk s) : FewS s := ⟨by have := h.len; omega, fun p hp => by have := (h.row p hp).len; omega⟩
def momAt (s : Src) (m : Mom) : Rat := rsum (s.map fun q => q.2 * rowM q.1 m)
theorem momAt_fit {s : Src} {m : Mom} (hs : SrcOk s) (hm : MomOk m) : Fit 5 (momAt s m) := by
  refine Fit.sum (k := 4) (fun x hx => ?_) ?_
  · obtain ⟨q, hq, rfl⟩ := List.mem_map.mp hx
    exact (hs.fit q hq).mul (rowM_fit (hs.row q hq) hm)
  · rw [List.length_map]
    exact Nat.le_trans hs.len (by decide)
section
variable {P : Program} {w : World} {K : PySem.W.Frag} {mg : Str → Option Value} {base : Heap}
def R_rowM (ds : List PyData) (d : PyData) : Prop := ∃ r m, ds = [eR r, eM m] ∧ RowOk r ∧ MomOk m ∧ d = rd (rowM r m)
theorem ok_row_moment (D : Df K mg "row_moment" s_row_moment) (G1 : Fn P w K mg base 2 "times" (spP K (R_two (· * ·)))) (G2 : Fn P w K mg base 2 "power_of" (spP K R_powerOf)) (g1 : GlD K mg "ONE_sources" (rd 1)) (m1 : mg "zip" = none) : Fn P w K mg base 3 "row_moment" (spP K R_rowM) := by
  refine fn_pure (k := 2) D sc_row_moment ?_ (fun _ _ _ _ _ _ us hl => match us, hl with | [_, _], _ => by kernel_rfl) ?_
  · rintro ds d ⟨a, b, rfl, _⟩
    rfl
  · rintro f cdv A outer s H E ds d hr ⟨r, m, rfl, h1, h2, rfl⟩
    have ez : ((r.map rd).zip (m.map eN)).map (fun p => pairD p.1 p.2) = (r.zip m).map fun p => pairD (rd p.1) (eN p.2) := by
      rw [List.zip_map, List.map_map]
      rfl
    have hi : ∀ X : Cx, ∀ tg e ρ μ, IV X tg e ρ μ (((r.map rd).zip (m.map eN)).map fun p => pairD p.1 p.2) μ → IV X tg e ρ μ ((r.zip m).map fun p => pairD (rd p.1) (eN p.2)) μ := by
      intro X tg e ρ μ h
      rw [← ez]
      exact h
    refine ⟨[], bj_cons (sj_set 2 sc_row_moment.nd (ev_glob g1)) (bj_cons (sj_for (hi _ _ _ _ _ (iv_zipT m1 (av_cons (ev_name 0 rfl) (av_cons (ev_name 1 rfl) av_nil)))) (for_pre (fun p : Rat × Nat => pairD (rd p.1) (eN p.2)) (fun pre => [.d (eR r), .d (eM m), .d (rd (pre.foldl rstep 1)), .u, .u]) (fun _ => []) (r.zip m) fun pre z suf e => ?_)) (bj_one (sj_ret (ev_name 2 rfl))))⟩
    have hz : z ∈ r.zip m := by rw [e]; simp
    have q := zip_ok' h1 h2 hz
    have hf : Fit 3 (pre.foldl rstep 1) := by
      refine (rstep_fit h1 h2 pre 1 1 (fun p hp => by rw [e]; exact List.mem_append_left _ hp) fit_one).mono ?_
      have h3 : pre.length ≤ (r.zip m).length := by rw [e, List.length_append]; omega
      have := h1.len
      rw [List.length_zip] at h3
      omega
    have e2 : (pre ++ [z]).foldl rstep 1 = rstep (pre.foldl rstep 1) z := by simp [List.foldl_append]
    refine ⟨_, _, [.d (eR r), .d (eM m), .d (rd (rstep (pre.foldl rstep 1) z)), .d (rd z.1), .d (eN z.2)], gv_pair 3 4 sc_row_moment.nd, bj_one (sj_if (tv_cmp op_gt ov_B0 (ev_name 4 rfl) ev_int) (fun h => ?_) (fun h => ?_)), ?_⟩
    · have hp : z.2 > 0 := by
        have := of_decide_eq_true h
        omega
      have e3 : rstep (pre.foldl rstep 1) z = pre.foldl rstep 1 * z.1 ^ z.2 := if_pos hp
      rw [e3]
      exact bj_one (sj_eq (sj_set 2 sc_row_moment.nd (ev_call G1 hr (av_cons (ev_name 2 rfl) (av_cons (ev_call G2 hr (av_cons (ev_name 3 rfl) (av_cons (ev_name 4 rfl) av_nil)) ⟨z.1, z.2, rfl, (pool_bits q.1).1, (pool_bits q.1).2, by have := q.2; omega, rfl⟩) av_nil)) ⟨_, _, rfl, sz_of hf (by decide), sz_of (pool_fit q.1 q.2) (by decide), rfl⟩)) rfl)
    · have hp : ¬ z.2 > 0 := fun hp => by
        have : decide ((z.2 : Int) > 0) = true := decide_eq_true (by omega)
        rw [this] at h
        cases h
      have e3 : rstep (pre.foldl rstep 1) z = pre.foldl rstep 1 := if_neg hp
      rw [e3]
      exact bj_nil
    · rw [e2]
      exact .keep (.keep (.keep (.drop (.drop .nil))))
def R_momAt (ds : List PyData) (d : PyData) : Prop := ∃ s m, ds = [eS s, eM m] ∧ SrcOk s ∧ MomOk m ∧ d = rd (momAt s m)
theorem ok_moment_at (D : Df K mg "moment_at" s_moment_at) (G1 : Fn P w K mg base 2 "times" (spP K (R_two (· * ·)))) (G2 : Fn P w K mg base 3 "row_moment" (spP K R_rowM)) (G3 : Fn P w K mg base 3 "sum_of" (spP K R_sum)) (G4 : Fn P w K mg base 5 "tuple_of" (spP K (R_tupleOf 4))) : Fn P w K mg base 6 "moment_at" (spP K R_momAt) := by
  refine fn_pure (k := 5) D sc_moment_at ?_ (fun _ _ _ _ _ _ us hl => match us, hl with | [_, _], _ => by kernel_rfl) ?_
  · rintro ds d ⟨a, b, rfl, _⟩
    rfl
  · rintro f cdv A outer s H E ds d hr ⟨src, m, rfl, h1, h2, rfl⟩
    have e : (src.map fun q => rd (q.2 * rowM q.1 m)) = (src.map fun q => q.2 * rowM q.1 m).map rd := by rw [List.map_map]; rfl
    have hS := sum_sz (k := 4) (xs := src.map fun q => q.2 * rowM q.1 m) (fun x hx => by
      obtain ⟨q, hq, rfl⟩ := List.mem_map.mp hx
      exact (h1.fit q hq).mul (rowM_fit (h1.row q hq) h2)) (by decide) (by rw [List.length_map]; exact Nat.le_trans h1.len (by decide))
    refine ⟨[], bj_one (sj_ret (ev_call G3 hr (av_cons (ev_of_ef (ef_lc (own := [("row", 2), ("chance", 3)]) sc_moment_at.nd (iv_tup (ev_call G4 hr (av_cons (ev_name 0 rfl) av_nil) ⟨_, rfl, tt_eS h1.few, rfl⟩)) (blkOk_by (by kernel_rfl)) (lc_all eQ (fun q => rd (q.2 * rowM q.1 m)) (fun q => [.d (eS src), .d (eM m), .d (eR q.1), .d (rd q.2)]) (is := [2, 3]) (by simp) src (fun z hz s H C cl fp => gv_pair 2 3 sc_moment_at.nd) (fun z hz s H C cl fp =>
      ev_call G1 hr (av_cons (ev_name 3 rfl) (av_cons (ev_call G2 hr (av_cons (ev_name 2 rfl) (av_cons (ev_name 1 rfl) av_nil)) ⟨_, _, rfl, h1.row z hz, h2, rfl⟩) av_nil)) ⟨_, _, rfl, sz_of (h1.fit z hz) (by decide), sz_of (rowM_fit (h1.row z hz) h2) (by decide), rfl⟩)) (by rw [List.length_map]; have := h1.len; omega))) av_nil) ⟨_, by rw [e], hS.1, hS.2, rfl⟩))⟩
end
end DW

/-! Pr4: gathering like keys. -/
namespace DW
open PySem PySem.Spec PyProof.Rows L2 DM
theorem ev_eq {X : Cx} {e : Expr} {ρ : List SV} {μ μ' : List MO} {d d' : PyData} (h : EV X e ρ μ d μ') (q : d = d') : EV X e ρ μ d' μ' := q ▸ h
theorem tv_eq {X : Cx} {e : Expr} {ρ : List SV} {μ μ' : List MO} {d d' : Bool} (h : TV X e ρ μ d μ') (q : d = d') : TV X e ρ μ d' μ' := q ▸ h
theorem ef_eq {X : Cx} {e : Expr} {ρ : List SV} {μ μ' : List MO} {d d' : List PyData} (h : EF X e ρ μ d μ') (q : d = d') : EF X e ρ μ d' μ' := q ▸ h
theorem iv_eq {X : Cx} {tg e : Expr} {ρ : List SV} {μ μ' : List MO} {d d' : List PyData} (h : IV X tg e ρ μ d μ') (q : d = d') : IV X tg e ρ μ d' μ' := q ▸ h
theorem for_preM {α : Type} {X : Cx} {u : Nat} {tg : Expr} {body : List Stmt} {μ0 : List MO} (enc : α → PyData) (S : List α → List SV) (M : List α → List MO) (zs : List α) (h0 : M [] = μ0) (h : ∀ (pre : List α) (z : α) (suf : List α), zs = pre ++ z :: suf → ∃ is ρ1 ρ2, GV X tg is (S pre) (enc z) ρ1 ∧ BJ X u body ρ1 (M pre) (.nx ρ2 (M (pre ++ [z]))) ∧ Wk ρ2 (S (pre ++ [z]))) :
    FoR X u tg body (zs.map enc) (S []) μ0 (S zs) (M zs) := h0 ▸ for_pre enc S M zs h
/-! ### keys -/
abbrev kN (m : Mom) : NestedKey := .tup (m.map fun n => .num (n : Nat))
abbrev kF (f : Fac) : NestedKey := .tup (f.map kN)
theorem datas_map {α : Type} (g : α → NestedKey) (h : α → PyData) (e : ∀ x, (g x).data = h x) : ∀ xs : List α, NestedKey.datas (xs.map g) = xs.map h
  | [] => rfl
  | x :: xs => by
    show (g x).data :: NestedKey.datas (xs.map g) = h x :: xs.map h
    rw [e, datas_map g h e xs]
theorem kN_data (m : Mom) : (kN m).data = eM m := by
  show PyData.tuple (NestedKey.datas _) = _
  rw [datas_map _ eN fun n => rfl]
theorem kF_data (f : Fac) : (kF f).data = eF f := by
  show PyData.tuple (NestedKey.datas _) = _
  rw [datas_map _ eM kN_data]
theorem depthAll_le {n : Nat} : ∀ (ks : List NestedKey), (∀ k ∈ ks, k.depth ≤ n) → NestedKey.depthAll ks ≤ n
  | [], _ => Nat.zero_le _
  | k :: ks, h => by
    show max k.depth (NestedKey.depthAll ks) ≤ n
    have h1 := h k List.mem_cons_self
    have h2 := depthAll_le ks fun k hk => h k (List.mem_cons_of_mem _ hk)
    omega
theorem kN_depth (m : Mom) : (kN m).depth ≤ 1 := by
  show NestedKey.depthAll _ + 1 ≤ 1
  have := depthAll_le (n := 0) (m.map fun n => NestedKey.num (n : Nat)) fun k hk => by
    obtain ⟨n, _, rfl⟩ := List.mem_map.mp hk
    exact Nat.le_refl _
  omega
theorem kF_depth (f : Fac) : (kF f).depth ≤ 8 := by
  show NestedKey.depthAll _ + 1 ≤ 8
  have := depthAll_le (n := 1) (f.map kN) fun k hk => by
    obtain ⟨n, _, rfl⟩ := List.mem_map.mp hk
    exact kN_depth n
  omega
theorem kN_inj {a b : Mom} (h : kN a = kN b) : a = b := by
  have h' := NestedKey.tup.inj h
  exact (List.map_inj_right (fun x y e => by have := NestedKey.num.inj e; omega)).mp h'
theorem kF_inj {a b : Fac} (h : kF a = kF b) : a = b := by
  have h' := NestedKey.tup.inj h
  exact (List.map_inj_right (fun x y e => kN_inj e)).mp h'
/-! ### typed tables -/
def tget {α β : Type} [DecidableEq α] (acc : List (α × β)) (f : α) : Option β := (acc.find? fun p => decide (p.1 = f)).map (·.2)
def tset {α β : Type} [DecidableEq α] (acc : List (α × β)) (f : α) (q : β) : List (α × β) := if (tget acc f).isSome then acc.map fun p => if p.1 = f then (p.1, q) else p else acc ++ [(f, q)]
section
variable {α β : Type} [DecidableEq α]
def kvO (k : α → NestedKey) (e : β → PyData) (acc : List (α × β)) : KV := acc.map fun p => (k p.1, e p.2)
theorem kv_tget {k : α → NestedKey} {e : β → PyData} (hk : ∀ a b, k a = k b → a = b) (f : α) : ∀ acc : List (α × β), kvGet (kvO k e acc) (k f) = (tget acc f).map e
  | [] => rfl
  | p :: acc => by
    have ih := kv_tget (e := e) hk f acc
    unfold kvGet tget kvO at *
    rw [List.map_cons, List.find?_cons, List.find?_cons]
    by_cases h : p.1 = f
    · have h2 : k p.1 = k f := by rw [h]
      simp [h, h2]
    · have h2 : ¬ k p.1 = k f := fun q => h (hk _ _ q)
      simp only [h, h2, decide_false]
      exact ih
theorem kv_tset {k : α → NestedKey} {e : β → PyData} (hk : ∀ a b, k a = k b → a = b) (acc : List (α × β)) (f : α) (q : β) : kvSet (kvO k e acc) (k f) (e q) = kvO k e (tset acc f q) := by
  unfold kvSet tset
  rw [kv_tget hk, Option.isSome_map]
  split
  · unfold kvO
    rw [List.map_map, List.map_map]
    apply List.map_congr_left
    intro p _
    by_cases h : p.1 = f
    · have h2 : k p.1 = k f := by rw [h]
      simp [h]
    · have h2 : ¬ k p.1 = k f := fun q => h (hk _ _ q)
      simp [h, h2]
  · unfold kvO
    rw [List.map_append]
    rfl
theorem tget_mem {acc : List (α × β)} {f : α} {q : β} (h : tget acc f = some q) : ∃ p ∈ acc, p.1 = f ∧ p.2 = q := by
  unfold tget at h
  obtain ⟨p, h1, h2⟩ := Option.map_eq_some_iff.mp h
  have h3 := List.mem_of_find?_eq_some h1
  have h4 := List.find?_some h1
  exact ⟨p, h3, of_decide_eq_true h4, h2⟩
theorem tget_some {acc : List (α × β)} {f : α} (h : f ∈ acc.map (·.1)) : ∃ q, tget acc f = some q := by
  obtain ⟨p, h1, h2⟩ := List.mem_map.mp h
  have : (acc.find? fun p => decide (p.1 = f)).isSome = true := by
    rw [List.find?_isSome]
    exact ⟨p, h1, by simp [h2]⟩
  obtain ⟨p', e⟩ := Option.isSome_iff_exists.mp this
  exact ⟨p'.2, by unfold tget; rw [e]; rfl⟩
theorem tset_mem {acc : List (α × β)} {f : α} {q : β} {p : α × β} (h : p ∈ tset acc f q) : p ∈ acc ∨ p = (f, q) := by
  unfold tset at h
  split at h
  · obtain ⟨p', h1, h2⟩ := List.mem_map.mp h
    split at h2
    · rename_i e
      right
      rw [← h2, e]
    · left
      rw [← h2]
      exact h1
  · rcases List.mem_append.mp h with h | h
    · exact .inl h
    · right
      simpa using h
theorem tset_len (acc : List (α × β)) (f : α) (q : β) : (tset acc f q).length ≤ acc.length + 1 := by
  unfold tset
  split
  · rw [List.length_map]; omega
  · rw [List.length_append]; exact Nat.le_refl _
end
/-! ### gathering -/
def gstep (acc : Wish) (p : Fac × Rat) : Wish := tset acc p.1 ((tget acc p.1).getD 0 + p.2)
def gacc (ps : Wish) : Wish := ps.foldl gstep []
def leF (a b : Fac) : Bool := PySem.W.dataLe false (fun d : PyData => d) (eF a) (eF b)
@[irreducible] def sortF (fs : List Fac) : List Fac := ms leF fs.length fs
theorem sortF_def (fs : List Fac) : sortF fs = fs.mergeSort leF := by
  unfold sortF
  exact ms_eq leF _ fs (Nat.le_refl _)
theorem perm_sortF (fs : List Fac) : (sortF fs).Perm fs := sortF_def fs ▸ List.mergeSort_perm fs leF
def gval (acc : Wish) (f : Fac) : Rat := (tget acc f).getD 0
def gath (ps : Wish) : Wish := ((sortF ((gacc ps).map (·.1))).filter fun f => decide (gval (gacc ps) f ≠ 0)).map fun f => (f, gval (gacc ps) f)
def FitN (k n : Nat) (q : Rat) : Prop := ∃ z : Int, q * ((G ^ k : Nat) : Rat) = (z : Rat) ∧ z.natAbs ≤ n * G ^ (2 * k)
theorem fitN_zero (k n : Nat) : FitN k n 0 := ⟨0, by rw [Rat.zero_mul]; rfl, Nat.zero_le _⟩
theorem FitN.up {k n m : Nat} {q : Rat} (h : FitN k n q) (e : n ≤ m) : FitN k m q := let ⟨z, h1, h2⟩ := h; ⟨z, h1, Nat.le_trans h2 (Nat.mul_le_mul_right _ e)⟩
theorem FitN.add {k n : Nat} {p q : Rat} (h : FitN k n p) (h' : Fit k q) : FitN k (n + 1) (p + q) := by
  obtain ⟨z, h1, h2⟩ := h
  obtain ⟨y, h3, h4⟩ := h'
  refine ⟨z + y, by rw [Rat.add_mul, h1, h3, Rat.intCast_add], ?_⟩
  have := Int.natAbs_add_le z y
  rw [Nat.add_mul, Nat.one_mul]
  omega
theorem FitN.fit {k n : Nat} {q : Rat} (h : FitN k n q) (e : n ≤ G) : Fit (k + 1) q := fit_small h e
theorem gacc_snoc (ps : Wish) (p : Fac × Rat) : gacc (ps ++ [p]) = gstep (gacc ps) p := by simp [gacc, List.foldl_append]
theorem rev_ind {α : Type} {C : List α → Prop} (h0 : C []) (h1 : ∀ l x, C l → C (l ++ [x])) (l : List α) : C l := by
  have go : ∀ l : List α, C l.reverse := by
    intro l
    induction l with
    | nil => exact h0
    | cons x l ih =>
      rw [List.reverse_cons]
      exact h1 _ x ih
  have := go l.reverse
  rw [List.reverse_reverse] at this
  exact this
theorem gacc_fit {k : Nat} {ps : Wish} (h : ∀ p ∈ ps, Fit k p.2) : (∀ p ∈ gacc ps, FitN k ps.length p.2) ∧ (gacc ps).length ≤ ps.length := by
  induction ps using rev_ind with
  | h0 => exact ⟨fun p hp => by simp [gacc] at hp, Nat.le_refl _⟩
  | h1 ps p ih =>
    obtain ⟨i1, i2⟩ := ih fun p hp => h p (List.mem_append_left _ hp)
    rw [gacc_snoc, List.length_append]
    refine ⟨fun q hq => ?_, ?_⟩
    · rcases tset_mem hq with e | e
      · exact (i1 q e).up (by omega)
      · subst e
        refine FitN.add ?_ (h p (by simp))
        cases e2 : tget (gacc ps) p.1 with
        | none => exact fitN_zero _ _
        | some v =>
          obtain ⟨p', h1, _, h2⟩ := tget_mem e2
          rw [← h2]
          exact i1 p' h1
    · have := tset_len (gacc ps) p.1 ((tget (gacc ps) p.1).getD 0 + p.2)
      show (tset _ _ _).length ≤ _
      simp only [List.length_singleton]
      omega
theorem gval_fit {k : Nat} {ps : Wish} (h : ∀ p ∈ ps, Fit k p.2) (f : Fac) : FitN k ps.length (gval (gacc ps) f) := by
  unfold gval
  cases e : tget (gacc ps) f with
  | none => exact fitN_zero _ _
  | some v =>
    obtain ⟨p', h1, _, h2⟩ := tget_mem e
    rw [← h2]
    exact (gacc_fit h).1 p' h1
/-! ### the sorted keys -/
theorem alike_eN (a b : Nat) : PySem.W.alike (eN a) (eN b) = true := rfl
theorem alikeAll_map {α : Type} (f : α → PyData) (h : ∀ a b, PySem.W.alike (f a) (f b) = true) : ∀ xs ys : List α, PySem.W.alikeAll (xs.map f) (ys.map f) = true
  | [], _ => by simp [PySem.W.alikeAll]
  | _ :: _, [] => by simp [PySem.W.alikeAll]
  | x :: xs, y :: ys => by
    show PySem.W.alikeAll (f x :: xs.map f) (f y :: ys.map f) = true
    rw [PySem.W.alikeAll, h, alikeAll_map f h xs ys]
    rfl
theorem alike_tup {α : Type} (f : α → PyData) (h : ∀ a b, PySem.W.alike (f a) (f b) = true) (xs ys : List α) : PySem.W.alike (.tuple (xs.map f)) (.tuple (ys.map f)) = true := by
  rw [PySem.W.alike]
  exact alikeAll_map f h xs ys
theorem alike_eM (a b : Mom) : PySem.W.alike (eM a) (eM b) = true := alike_tup eN alike_eN a b
theorem alike_eF (a b : Fac) : PySem.W.alike (eF a) (eF b) = true := alike_tup eM alike_eM a b
theorem depthAll_map {α : Type} {n : Nat} (f : α → PyData) (h : ∀ a, (f a).depth ≤ n) : ∀ xs : List α, PyData.depthAll (xs.map f) ≤ n
  | [] => by simp [PyData.depthAll]
  | x :: xs => by
    show PyData.depthAll (f x :: xs.map f) ≤ n
    rw [PyData.depthAll]
    have h1 := h x
    have h2 := depthAll_map f h xs
    omega
theorem depth_tup {α : Type} {n : Nat} (f : α → PyData) (h : ∀ a, (f a).depth ≤ n) (xs : List α) : (PyData.tuple (xs.map f)).depth ≤ n + 1 := by
  rw [PyData.depth]
  have := depthAll_map f h xs
  omega
theorem depth_eM (a : Mom) : (eM a).depth ≤ 1 := depth_tup eN (fun a => by simp [PyData.depth]) a
theorem depth_eF (a : Fac) : (eF a).depth ≤ 2 := depth_tup eM depth_eM a
theorem tups_map {α : Type} (f : α → PyData) (h1 : ∀ a b, PySem.W.alike (f a) (f b) = true) (h2 : ∀ a, ∃ xs, f a = .tuple xs) (h3 : ∀ a, (f a).depth ≤ 50) (xs : List α) : TupsD (xs.map f) where
  al := PySem.W.AllAlike.of h1
  tu := fun d hd => by
    obtain ⟨a, _, rfl⟩ := List.mem_map.mp hd
    exact h2 a
  dp := fun d hd => by
    obtain ⟨a, _, rfl⟩ := List.mem_map.mp hd
    exact h3 a
theorem tups_eF (fs : List Fac) : TupsD (fs.map eF) := tups_map eF alike_eF (fun a => ⟨_, rfl⟩) (fun a => Nat.le_trans (depth_eF a) (by decide)) fs
theorem tups_eM (fs : List Mom) : TupsD (fs.map eM) := tups_map eM alike_eM (fun a => ⟨_, rfl⟩) (fun a => Nat.le_trans (depth_eM a) (by decide)) fs
theorem sortD_eF (fs : List Fac) : sortD (fs.map eF) = (sortF fs).map eF := by
  rw [sortF_def]
  unfold sortD
  exact (List.map_mergeSort (r := leF) (s := PySem.W.dataLe false id) (f := eF) (l := fs) fun a _ b _ => rfl).symm
theorem keys_data (acc : Wish) : (kvO kF rd acc).map (fun p => p.1.data) = (acc.map (·.1)).map eF := by
  unfold kvO
  rw [List.map_map, List.map_map]
  apply List.map_congr_left
  intro p _
  exact kF_data p.1
theorem mem_sortF {fs : List Fac} {f : Fac} : f ∈ sortF fs ↔ f ∈ fs := (perm_sortF fs).mem_iff
theorem len_sortF (fs : List Fac) : (sortF fs).length = fs.length := (perm_sortF fs).length_eq
theorem eqv_rd (a b : Rat) : PyData.eqv (rd a) (rd b) = decide (a = b) := by
  show (PyData.eqvAll [.int a.num, .int a.den] [.int b.num, .int b.den]) = _
  simp only [PyData.eqvAll, PyData.eqv, Bool.and_true]
  rw [Bool.eq_iff_iff]
  simp only [Bool.and_eq_true, decide_eq_true_eq, beq_iff_eq]
  constructor
  · intro h
    exact Rat.ext h.1 (by have := h.2; omega)
  · intro h
    subst h
    exact ⟨rfl, rfl⟩
end DW

/-! Pr5: the three gathering defs (printed by gen_gath.py). -/
namespace DW
open PySem PySem.Spec PyProof.Rows L2 DM
theorem gget {ps : Wish} {f : Fac} (h : f ∈ sortF ((gacc ps).map (·.1))) : kvGet (kvO kF rd (gacc ps)) (.tup (f.map kN)) = some (rd (gval (gacc ps) f)) := by
  have e := kv_tget (k := kF) (e := rd) (fun a b => kF_inj) f (gacc ps)
  obtain ⟨q, hq⟩ := tget_some (mem_sortF.mp h)
  show kvGet _ (kF f) = _
  rw [e, hq]
  unfold gval
  rw [hq]
  rfl
section
variable {P : Program} {w : World} {K : PySem.W.Frag} {mg : Str → Option Value} {base : Heap}
def R_gath (ds : List PyData) (d : PyData) : Prop := ∃ x, ds = [x] ∧ ∃ (ps : Wish) (k : Nat), (x = .list (ps.map eP) ∨ x = .tuple (ps.map eP)) ∧ k ≤ 148 ∧ (∀ p ∈ ps, Fit k p.2) ∧ ps.length ≤ G ∧ d = eW (gath ps)
theorem ok_gathered (D : Df K mg "gathered" s_gathered) (G1 : Fn P w K mg base 2 "plus" (spP K (R_two (· + ·)))) (g0 : GlD K mg "ZERO_forms" (rd 0)) (m1 : mg "sorted" = none) (m2 : mg "tuple" = none) : Fn P w K mg base 3 "gathered" (spP K R_gath) := by
  refine fn_pure (k := 2) D sc_gathered ?_ (fun _ _ _ _ _ _ us hl => match us, hl with | [_], _ => by kernel_rfl) ?_
  · rintro ds d ⟨x, rfl, _⟩
    rfl
  · rintro f cdv A outer s H E ds d hr ⟨x, rfl, ps, k, hx, hk, hf, hl, rfl⟩
    have hA := gacc_fit hf
    have hV := gval_fit hf
    refine ⟨[.m (kvO kF rd (gacc ps))], bj_cons (sj_dict 1 sc_gathered.nd) (bj_cons (μ1 := [.m (kvO kF rd (gacc ps))]) (ρ1 := [.d x, .h 0, .u, .u]) ?_ (bj_one (sj_eq (sj_ret (ev_tupleL m2 (lv_of_ef (ef_lc (own := [("powers", 2)]) sc_gathered.nd (iv_list (ev_of_ef (ef_eq (ef_sortN 1 hr m1 rfl rfl (by rw [keys_data]; exact tups_eF _)) ((congrArg sortD (keys_data _)).trans (sortD_eF _))))) (blkOk_by (by kernel_rfl))
      (lc_flt eF (fun f => decide (gval (gacc ps) f ≠ 0)) (fun f => eP (f, gval (gacc ps) f)) (fun f => [.d x, .h 0, .d (eF f), .u]) (is := [2]) (by simp) _ (fun z hz s H C cl fp => gv_name 2 sc_gathered.nd)
        (fun z hz s H C cl fp => tv_eq (tv_cmp (op_neD (by have := room100 hr; exact Nat.lt_of_le_of_lt (Nat.add_le_add_left (by decide) _) this)) (ov_neD rfl rfl) (ev_dix 1 (ks := z.map kN) hr rfl (ev_name 2 rfl) rfl (kF_data z) (kF_depth z) (gget hz)) (ev_glob g0)) (by rw [eqv_rd]; by_cases hq : gval (gacc ps) z = 0 <;> simp [hq]))
        (fun z hz hk s H C cl fp => ev_tup (av_cons (ev_name 2 rfl) (av_cons (ev_dix 1 (ks := z.map kN) hr rfl (ev_name 2 rfl) rfl (kF_data z) (kF_depth z) (gget hz)) av_nil)))) ?_)))) ?_)))⟩
    · refine sj_for (?_ : IV _ _ _ _ _ (ps.map eP) _) (for_pre eP (fun _ => [.d x, .h 0, .u, .u]) (fun pre => [.m (kvO kF rd (gacc pre))]) ps fun pre z suf e => ?_)
      · rcases hx with rfl | rfl
        · exact iv_list (ev_name 0 rfl)
        · exact iv_tup (ev_name 0 rfl)
      · have hpre : ∀ p ∈ pre, Fit k p.2 := fun p hp => hf p (by rw [e]; exact List.mem_append_left _ hp)
        have hlen : pre.length ≤ ps.length := by rw [e, List.length_append]; omega
        have hz : Fit k z.2 := hf z (by rw [e]; simp)
        refine ⟨_, _, [.d x, .h 0, .d (eF z.1), .d (rd z.2)], gv_pair 2 3 sc_gathered.nd, bj_one (sj_eq (sj_dset 1 (ks := z.1.map kN) hr (ev_call G1 hr (av_cons (ev_dget 1 (ks := z.1.map kN) hr rfl rfl (ev_name 2 rfl) (ev_glob g0) (kF_data z.1) (kF_depth z.1)) (av_cons (ev_name 3 rfl) av_nil)) ⟨gval (gacc pre) z.1, z.2, ?_, sz_of ((gval_fit hpre z.1).fit (by omega)) (by omega), sz_of hz (by omega), rfl⟩) rfl (ev_name 2 rfl) rfl (kF_data z.1) (kF_depth z.1) ?_) ?_), .keep (.keep (.drop (.drop .nil)))⟩
        · rw [kv_tget (fun a b => kF_inj) z.1 (gacc pre)]
          unfold gval
          cases tget (gacc pre) z.1 <;> rfl
        · have := (gacc_fit hpre).2
          have hG : G ≤ 10000 := by decide
          unfold kvO
          rw [List.length_map]
          omega
        · rw [gacc_snoc]
          have e2 := kv_tset (k := kF) (e := rd) (fun a b => kF_inj) (gacc pre) z.1 (gval (gacc pre) z.1 + z.2)
          show Rs.nx _ [MO.m (kvSet (kvO kF rd (gacc pre)) (kF z.1) (rd (gval (gacc pre) z.1 + z.2)))] = _
          rw [e2]
          rfl
    · have h1 := List.length_filter_le (fun f => decide (gval (gacc ps) f ≠ 0)) (sortF ((gacc ps).map (·.1)))
      have h2 := hA.2
      have hG : G ≤ 10000 := by decide
      rw [len_sortF, List.length_map] at h1
      rw [List.length_map]
      omega
    · refine congrArg (fun l => Rs.rt (PyData.tuple l) _) ?_
      unfold gath
      rw [List.map_map]
      rfl
theorem ok_gathered_wish (D : Df K mg "gathered_wish" s_gathered_wish) (G1 : Fn P w K mg base 2 "plus" (spP K (R_two (· + ·)))) (g0 : GlD K mg "ZERO_wishes" (rd 0)) (m1 : mg "sorted" = none) (m2 : mg "tuple" = none) : Fn P w K mg base 3 "gathered_wish" (spP K R_gath) := by
  refine fn_pure (k := 2) D sc_gathered_wish ?_ (fun _ _ _ _ _ _ us hl => match us, hl with | [_], _ => by kernel_rfl) ?_
  · rintro ds d ⟨x, rfl, _⟩
    rfl
  · rintro f cdv A outer s H E ds d hr ⟨x, rfl, ps, k, hx, hk, hf, hl, rfl⟩
    have hA := gacc_fit hf
    have hV := gval_fit hf
    refine ⟨[.m (kvO kF rd (gacc ps))], bj_cons (sj_dict 1 sc_gathered_wish.nd) (bj_cons (μ1 := [.m (kvO kF rd (gacc ps))]) (ρ1 := [.d x, .h 0, .u, .u]) ?_ (bj_one (sj_eq (sj_ret (ev_tupleL m2 (lv_of_ef (ef_lc (own := [("factors", 2)]) sc_gathered_wish.nd (iv_list (ev_of_ef (ef_eq (ef_sortN 1 hr m1 rfl rfl (by rw [keys_data]; exact tups_eF _)) ((congrArg sortD (keys_data _)).trans (sortD_eF _))))) (blkOk_by (by kernel_rfl))
      (lc_flt eF (fun f => decide (gval (gacc ps) f ≠ 0)) (fun f => eP (f, gval (gacc ps) f)) (fun f => [.d x, .h 0, .d (eF f), .u]) (is := [2]) (by simp) _ (fun z hz s H C cl fp => gv_name 2 sc_gathered_wish.nd)
        (fun z hz s H C cl fp => tv_eq (tv_cmp (op_neD (by have := room100 hr; exact Nat.lt_of_le_of_lt (Nat.add_le_add_left (by decide) _) this)) (ov_neD rfl rfl) (ev_dix 1 (ks := z.map kN) hr rfl (ev_name 2 rfl) rfl (kF_data z) (kF_depth z) (gget hz)) (ev_glob g0)) (by rw [eqv_rd]; by_cases hq : gval (gacc ps) z = 0 <;> simp [hq]))
        (fun z hz hk s H C cl fp => ev_tup (av_cons (ev_name 2 rfl) (av_cons (ev_dix 1 (ks := z.map kN) hr rfl (ev_name 2 rfl) rfl (kF_data z) (kF_depth z) (gget hz)) av_nil)))) ?_)))) ?_)))⟩
    · refine sj_for (?_ : IV _ _ _ _ _ (ps.map eP) _) (for_pre eP (fun _ => [.d x, .h 0, .u, .u]) (fun pre => [.m (kvO kF rd (gacc pre))]) ps fun pre z suf e => ?_)
      · rcases hx with rfl | rfl
        · exact iv_list (ev_name 0 rfl)
        · exact iv_tup (ev_name 0 rfl)
      · have hpre : ∀ p ∈ pre, Fit k p.2 := fun p hp => hf p (by rw [e]; exact List.mem_append_left _ hp)
        have hlen : pre.length ≤ ps.length := by rw [e, List.length_append]; omega
        have hz : Fit k z.2 := hf z (by rw [e]; simp)
        refine ⟨_, _, [.d x, .h 0, .d (eF z.1), .d (rd z.2)], gv_pair 2 3 sc_gathered_wish.nd, bj_one (sj_eq (sj_dset 1 (ks := z.1.map kN) hr (ev_call G1 hr (av_cons (ev_dget 1 (ks := z.1.map kN) hr rfl rfl (ev_name 2 rfl) (ev_glob g0) (kF_data z.1) (kF_depth z.1)) (av_cons (ev_name 3 rfl) av_nil)) ⟨gval (gacc pre) z.1, z.2, ?_, sz_of ((gval_fit hpre z.1).fit (by omega)) (by omega), sz_of hz (by omega), rfl⟩) rfl (ev_name 2 rfl) rfl (kF_data z.1) (kF_depth z.1) ?_) ?_), .keep (.keep (.drop (.drop .nil)))⟩
        · rw [kv_tget (fun a b => kF_inj) z.1 (gacc pre)]
          unfold gval
          cases tget (gacc pre) z.1 <;> rfl
        · have := (gacc_fit hpre).2
          have hG : G ≤ 10000 := by decide
          unfold kvO
          rw [List.length_map]
          omega
        · rw [gacc_snoc]
          have e2 := kv_tset (k := kF) (e := rd) (fun a b => kF_inj) (gacc pre) z.1 (gval (gacc pre) z.1 + z.2)
          show Rs.nx _ [MO.m (kvSet (kvO kF rd (gacc pre)) (kF z.1) (rd (gval (gacc pre) z.1 + z.2)))] = _
          rw [e2]
          rfl
    · have h1 := List.length_filter_le (fun f => decide (gval (gacc ps) f ≠ 0)) (sortF ((gacc ps).map (·.1)))
      have h2 := hA.2
      have hG : G ≤ 10000 := by decide
      rw [len_sortF, List.length_map] at h1
      rw [List.length_map]
      omega
    · refine congrArg (fun l => Rs.rt (PyData.tuple l) _) ?_
      unfold gath
      rw [List.map_map]
      rfl
theorem ok__summed (D : Df K mg "_summed" s__summed) (G1 : Fn P w K mg base 2 "plus" (spP K (R_two (· + ·)))) (g0 : GlD K mg "ZERO_layers" (rd 0)) (m1 : mg "sorted" = none) (m2 : mg "tuple" = none) : Fn P w K mg base 3 "_summed" (spP K R_gath) := by
  refine fn_pure (k := 2) D sc__summed ?_ (fun _ _ _ _ _ _ us hl => match us, hl with | [_], _ => by kernel_rfl) ?_
  · rintro ds d ⟨x, rfl, _⟩
    rfl
  · rintro f cdv A outer s H E ds d hr ⟨x, rfl, ps, k, hx, hk, hf, hl, rfl⟩
    have hA := gacc_fit hf
    have hV := gval_fit hf
    refine ⟨[.m (kvO kF rd (gacc ps))], bj_cons (sj_dict 1 sc__summed.nd) (bj_cons (μ1 := [.m (kvO kF rd (gacc ps))]) (ρ1 := [.d x, .h 0, .u, .u]) ?_ (bj_one (sj_eq (sj_ret (ev_tupleL m2 (lv_of_ef (ef_lc (own := [("factors", 2)]) sc__summed.nd (iv_list (ev_of_ef (ef_eq (ef_sortN 1 hr m1 rfl rfl (by rw [keys_data]; exact tups_eF _)) ((congrArg sortD (keys_data _)).trans (sortD_eF _))))) (blkOk_by (by kernel_rfl))
      (lc_flt eF (fun f => decide (gval (gacc ps) f ≠ 0)) (fun f => eP (f, gval (gacc ps) f)) (fun f => [.d x, .h 0, .d (eF f), .u]) (is := [2]) (by simp) _ (fun z hz s H C cl fp => gv_name 2 sc__summed.nd)
        (fun z hz s H C cl fp => tv_eq (tv_cmp (op_neD (by have := room100 hr; exact Nat.lt_of_le_of_lt (Nat.add_le_add_left (by decide) _) this)) (ov_neD rfl rfl) (ev_dix 1 (ks := z.map kN) hr rfl (ev_name 2 rfl) rfl (kF_data z) (kF_depth z) (gget hz)) (ev_glob g0)) (by rw [eqv_rd]; by_cases hq : gval (gacc ps) z = 0 <;> simp [hq]))
        (fun z hz hk s H C cl fp => ev_tup (av_cons (ev_name 2 rfl) (av_cons (ev_dix 1 (ks := z.map kN) hr rfl (ev_name 2 rfl) rfl (kF_data z) (kF_depth z) (gget hz)) av_nil)))) ?_)))) ?_)))⟩
    · refine sj_for (?_ : IV _ _ _ _ _ (ps.map eP) _) (for_pre eP (fun _ => [.d x, .h 0, .u, .u]) (fun pre => [.m (kvO kF rd (gacc pre))]) ps fun pre z suf e => ?_)
      · rcases hx with rfl | rfl
        · exact iv_list (ev_name 0 rfl)
        · exact iv_tup (ev_name 0 rfl)
      · have hpre : ∀ p ∈ pre, Fit k p.2 := fun p hp => hf p (by rw [e]; exact List.mem_append_left _ hp)
        have hlen : pre.length ≤ ps.length := by rw [e, List.length_append]; omega
        have hz : Fit k z.2 := hf z (by rw [e]; simp)
        refine ⟨_, _, [.d x, .h 0, .d (eF z.1), .d (rd z.2)], gv_pair 2 3 sc__summed.nd, bj_one (sj_eq (sj_dset 1 (ks := z.1.map kN) hr (ev_call G1 hr (av_cons (ev_dget 1 (ks := z.1.map kN) hr rfl rfl (ev_name 2 rfl) (ev_glob g0) (kF_data z.1) (kF_depth z.1)) (av_cons (ev_name 3 rfl) av_nil)) ⟨gval (gacc pre) z.1, z.2, ?_, sz_of ((gval_fit hpre z.1).fit (by omega)) (by omega), sz_of hz (by omega), rfl⟩) rfl (ev_name 2 rfl) rfl (kF_data z.1) (kF_depth z.1) ?_) ?_), .keep (.keep (.drop (.drop .nil)))⟩
        · rw [kv_tget (fun a b => kF_inj) z.1 (gacc pre)]
          unfold gval
          cases tget (gacc pre) z.1 <;> rfl
        · have := (gacc_fit hpre).2
          have hG : G ≤ 10000 := by decide
          unfold kvO
          rw [List.length_map]
          omega
        · rw [gacc_snoc]
          have e2 := kv_tset (k := kF) (e := rd) (fun a b => kF_inj) (gacc pre) z.1 (gval (gacc pre) z.1 + z.2)
          show Rs.nx _ [MO.m (kvSet (kvO kF rd (gacc pre)) (kF z.1) (rd (gval (gacc pre) z.1 + z.2)))] = _
          rw [e2]
          rfl
    · have h1 := List.length_filter_le (fun f => decide (gval (gacc ps) f ≠ 0)) (sortF ((gacc ps).map (·.1)))
      have h2 := hA.2
      have hG : G ≤ 10000 := by decide
      rw [len_sortF, List.length_map] at h1
      rw [List.length_map]
      omega
    · refine congrArg (fun l => Rs.rt (PyData.tuple l) _) ?_
      unfold gath
      rw [List.map_map]
      rfl
end
end DW

/-! Pr6: wishes: degree, value, sum, multiple. -/
namespace DW
open PySem PySem.Spec PyProof.Rows L2 DM
def deg (w : Wish) : Nat := (w.map fun p => p.1.length).foldr max 0
theorem foldr_max : ∀ (ns : List Nat), ns.foldr max 0 ∈ 0 :: ns ∧ ∀ n ∈ 0 :: ns, n ≤ ns.foldr max 0
  | [] => ⟨by simp, fun n hn => by have : n = 0 := by simpa using hn
                                   omega⟩
  | n :: ns => by
    obtain ⟨h1, h2⟩ := foldr_max ns
    rw [List.foldr_cons]
    refine ⟨?_, fun m hm => ?_⟩
    · by_cases h : n ≤ ns.foldr max 0
      · rw [Nat.max_eq_right h]
        rcases List.mem_cons.mp h1 with e | e
        · rw [e]; exact List.mem_cons_self
        · exact List.mem_cons_of_mem _ (List.mem_cons_of_mem _ e)
      · rw [Nat.max_eq_left (by omega)]
        exact List.mem_cons_of_mem _ List.mem_cons_self
    · rcases List.mem_cons.mp hm with e | e
      · omega
      · rcases List.mem_cons.mp e with e | e
        · omega
        · have := h2 m (List.mem_cons_of_mem _ e)
          omega
/-! ### a wish's value -/
def mstep (s : Src) (acc : List (Mom × Rat)) (m : Mom) : List (Mom × Rat) := if (tget acc m).isSome then acc else tset acc m (momAt s m)
def macc (s : Src) (acc : List (Mom × Rat)) (f : Fac) : List (Mom × Rat) := f.foldl (mstep s) acc
def wacc (s : Src) (w : Wish) : List (Mom × Rat) := w.foldl (fun a p => macc s a p.1) []
def xval (s : Src) (x : Rat) (f : Fac) : Rat := f.foldl (fun t m => t * momAt s m) x
def wishVal (s : Src) (w : Wish) : Rat := rsum (w.map fun p => xval s p.2 p.1)
structure WishOk (k : Nat) (w : Wish) : Prop where
  len : w.length ≤ 1000
  few : ∀ p ∈ w, p.1.length ≤ 4
  mom : ∀ p ∈ w, ∀ m ∈ p.1, MomOk m
  fit : ∀ p ∈ w, Fit k p.2
theorem WishOk.fews {k : Nat} {w : Wish} (h : WishOk k w) : FewW w := ⟨h.len, fun p hp => ⟨by have := h.few p hp; omega, fun m hm => by have := (h.mom p hp m hm).1; omega⟩⟩
def TrueM (s : Src) (acc : List (Mom × Rat)) : Prop := ∀ p ∈ acc, p.2 = momAt s p.1
theorem mstep_true {s : Src} {acc : List (Mom × Rat)} (h : TrueM s acc) (m : Mom) : TrueM s (mstep s acc m) := by
  unfold mstep
  split
  · exact h
  · intro p hp
    rcases tset_mem hp with e | e
    · exact h p e
    · rw [e]
theorem tget_tset {α β : Type} [DecidableEq α] {acc : List (α × β)} {f : α} {q : β} (h : tget acc f = none) : tget (tset acc f q) f = some q := by
  unfold tset
  rw [h]
  unfold tget at h ⊢
  rw [Option.map_eq_none_iff] at h
  simp [List.find?_append, h]
theorem mstep_get {s : Src} {acc : List (Mom × Rat)} (h : TrueM s acc) (m : Mom) : tget (mstep s acc m) m = some (momAt s m) := by
  unfold mstep
  cases e : tget acc m with
  | none =>
    simp only [Option.isSome_none, Bool.false_eq_true, if_false]
    exact tget_tset e
  | some v =>
    simp only [Option.isSome_some, if_true]
    obtain ⟨p, h1, h2, h3⟩ := tget_mem e
    rw [e, ← h3, h p h1, h2]
theorem mstep_len (s : Src) (acc : List (Mom × Rat)) (m : Mom) : (mstep s acc m).length ≤ acc.length + 1 := by
  unfold mstep
  split
  · omega
  · exact tset_len _ _ _
theorem macc_ok {s : Src} : ∀ (f : Fac) (acc : List (Mom × Rat)), TrueM s acc → TrueM s (macc s acc f) ∧ (macc s acc f).length ≤ acc.length + f.length
  | [], acc, h => ⟨h, Nat.le_refl _⟩
  | m :: f, acc, h => by
    obtain ⟨h1, h2⟩ := macc_ok f (mstep s acc m) (mstep_true h m)
    refine ⟨h1, ?_⟩
    have := mstep_len s acc m
    show (macc s (mstep s acc m) f).length ≤ _
    rw [List.length_cons]
    omega
theorem wacc_ok {s : Src} {w : Wish} (hw : ∀ p ∈ w, p.1.length ≤ 4) : TrueM s (wacc s w) ∧ (wacc s w).length ≤ 4 * w.length := by
  induction w using rev_ind with
  | h0 => exact ⟨fun p hp => by simp [wacc] at hp, Nat.le_refl _⟩
  | h1 w p ih =>
    obtain ⟨h1, h2⟩ := ih fun p hp => hw p (List.mem_append_left _ hp)
    have e : wacc s (w ++ [p]) = macc s (wacc s w) p.1 := by simp [wacc, List.foldl_append]
    obtain ⟨h3, h4⟩ := macc_ok p.1 (wacc s w) h1
    rw [e]
    refine ⟨h3, ?_⟩
    have := hw p (by simp)
    rw [List.length_append, List.length_singleton]
    omega
theorem xval_fit {s : Src} (hs : SrcOk s) : ∀ (f : Fac) (x : Rat) (k : Nat), (∀ m ∈ f, MomOk m) → Fit k x → Fit (k + 5 * f.length) (xval s x f)
  | [], x, k, _, h => h
  | m :: f, x, k, hf, h => by
    have h1 : Fit (k + 5) (x * momAt s m) := h.mul (momAt_fit hs (hf m List.mem_cons_self))
    have := xval_fit hs f (x * momAt s m) (k + 5) (fun m hm => hf m (List.mem_cons_of_mem _ hm)) h1
    show Fit _ (xval s (x * momAt s m) f)
    refine this.mono ?_
    rw [List.length_cons]
    omega
theorem xval_fit4 {s : Src} {k : Nat} {w : Wish} (hs : SrcOk s) (hw : WishOk k w) {p : Fac × Rat} (hp : p ∈ w) : Fit (k + 20) (xval s p.2 p.1) :=
  (xval_fit hs p.1 p.2 k (hw.mom p hp) (hw.fit p hp)).mono (by have := hw.few p hp; omega)
theorem G_big : (1000 : Nat) ≤ G := by decide
theorem wishVal_fit {s : Src} {k : Nat} {w : Wish} (hs : SrcOk s) (hw : WishOk k w) : Fit (k + 21) (wishVal s w) := by
  refine Fit.sum (k := k + 20) (fun x hx => ?_) ?_
  · obtain ⟨p, hp, rfl⟩ := List.mem_map.mp hx
    exact xval_fit4 hs hw hp
  · rw [List.length_map]
    exact Nat.le_trans hw.len G_big
section
variable {P : Program} {w : World} {K : PySem.W.Frag} {mg : Str → Option Value} {base : Heap}
def R_degree (ds : List PyData) (d : PyData) : Prop := ∃ w : Wish, ds = [eW w] ∧ w.length ≤ 1000 ∧ d = .int (deg w)
theorem ok_wish_degree (D : Df K mg "wish_degree" s_wish_degree) (m1 : mg "max" = none) (m2 : mg "len" = none) : Fn P w K mg base 1 "wish_degree" (spP K R_degree) := by
  refine fn_pure (k := 0) D sc_wish_degree ?_ (fun _ _ _ _ _ _ us hl => match us, hl with | [_], _ => by kernel_rfl) ?_
  · rintro ds d ⟨x, rfl, _⟩
    rfl
  · rintro f cdv A outer s H E ds d hr ⟨w, rfl, hl, rfl⟩
    have e : [PyData.int 0] ++ (w.map fun p => PyData.int (p.1.length : Nat)) = ((0 : Int) :: w.map fun p => ((p.1.length : Nat) : Int)).map .int := by
      rw [List.map_cons, List.map_map]
      rfl
    obtain ⟨h1, h2⟩ := foldr_max (w.map fun p => p.1.length)
    refine ⟨[], bj_one (sj_ret (ev_max m1 (lv_of_ef (ef_eq (ef_add (ev_of_ef (ef_lst (av_cons ev_int av_nil))) (ev_of_ef (ef_lc (own := [("factors", 1), ("_", 2)]) sc_wish_degree.nd (iv_tup (ev_name 0 rfl)) (blkOk_by (by kernel_rfl)) (lc_all eP (fun p => .int (p.1.length : Nat)) (fun p => [.d (eW w), .d (eF p.1), .d (rd p.2)]) (is := [1, 2]) (by simp) w (fun z hz s H C cl fp => gv_pair 1 2 sc_wish_degree.nd)
      (fun z hz s H C cl fp => ev_eq (ev_lenT m2 (ev_name 1 rfl)) (by rw [List.length_map]))) (by rw [List.length_map]; omega))) (by rw [List.length_map]; show 1 + _ ≤ _; omega)) e)) ?_ ?_))⟩
    · have h1' : deg w ∈ 0 :: w.map fun p => p.1.length := h1
      rcases List.mem_cons.mp h1' with e | e
      · rw [e]; exact List.mem_cons_self
      · obtain ⟨p, hp, e⟩ := List.mem_map.mp e
        exact List.mem_cons_of_mem _ (List.mem_map.mpr ⟨p, hp, by rw [e]⟩)
    · intro y hy
      have h2' : ∀ n ∈ 0 :: w.map fun p => p.1.length, n ≤ deg w := h2
      rcases List.mem_cons.mp hy with e | e
      · rw [e]; omega
      · obtain ⟨p, hp, e⟩ := List.mem_map.mp e
        have := h2' p.1.length (List.mem_cons_of_mem _ (List.mem_map.mpr ⟨p, hp, rfl⟩))
        omega
def R_wishVal (ds : List PyData) (d : PyData) : Prop := ∃ w s k, ds = [eW w, eS s] ∧ WishOk k w ∧ SrcOk s ∧ k ≤ 120 ∧ d = rd (wishVal s w)
theorem ok_wish_value (D : Df K mg "wish_value" s_wish_value) (G1 : Fn P w K mg base 2 "times" (spP K (R_two (· * ·)))) (G2 : Fn P w K mg base 2 "plus" (spP K (R_two (· + ·)))) (G3 : Fn P w K mg base 6 "moment_at" (spP K R_momAt)) (G4 : Fn P w K mg base 5 "tuple_of" (spP K (R_tupleOf 4))) (g0 : GlD K mg "ZERO_wishes" (rd 0)) : Fn P w K mg base 7 "wish_value" (spP K R_wishVal) := by
  refine fn_pure (k := 6) D sc_wish_value ?_ (fun _ _ _ _ _ _ us hl => match us, hl with | [_, _], _ => by kernel_rfl) ?_
  · rintro ds d ⟨w, s, k, rfl, _⟩
    rfl
  · rintro f cdv A outer s H E ds d hr ⟨w, src, k, rfl, hw, hs, hk, rfl⟩
    have hsum := sum_sz (k := k + 20) (xs := w.map fun p => xval src p.2 p.1) (fun x hx => by
      obtain ⟨p, hp, rfl⟩ := List.mem_map.mp hx
      exact xval_fit4 hs hw hp) (by omega) (by rw [List.length_map]; exact Nat.le_trans hw.len G_big)
    refine ⟨[.m (kvO kN rd (wacc src w))], bj_cons (sj_par3M 1 2 3 sc_wish_value.nd (ev_call G4 hr (av_cons (ev_name 1 rfl) av_nil) ⟨_, rfl, tt_eS hs.few, rfl⟩) (ev_glob g0)) (bj_cons (sj_for (iv_tup (ev_call G4 hr (av_cons (ev_name 0 rfl) av_nil) ⟨_, rfl, tt_eW hw.fews, rfl⟩))
      (for_pre eP (fun pre => [.d (eW w), .d (eS src), .h 0, .d (rd (rsum (pre.map fun p => xval src p.2 p.1))), .u, .u, .u]) (fun pre => [.m (kvO kN rd (wacc src pre))]) w fun pre z suf e => ?_)) (bj_one (sj_ret (ev_name 3 rfl))))⟩
    have hzw : z ∈ w := by rw [e]; simp
    have hpre : ∀ p ∈ pre, p ∈ w := fun p hp => by rw [e]; exact List.mem_append_left _ hp
    obtain ⟨t1, t2⟩ := wacc_ok (s := src) (w := pre) fun p hp => hw.few p (hpre p hp)
    have hlp : pre.length ≤ 1000 := by
      have : pre.length ≤ w.length := by rw [e, List.length_append]; omega
      have := hw.len
      omega
    have ew : wacc src (pre ++ [z]) = macc src (wacc src pre) z.1 := by simp [wacc, List.foldl_append]
    have es : rsum ((pre ++ [z]).map fun p => xval src p.2 p.1) = rsum (pre.map fun p => xval src p.2 p.1) + xval src z.2 z.1 := by simp [rsum, List.map_append, List.foldl_append]
    refine ⟨_, _, [.d (eW w), .d (eS src), .h 0, .d (rd (rsum (pre.map fun p => xval src p.2 p.1) + xval src z.2 z.1)), .d (eF z.1), .d (rd (xval src z.2 z.1)), .u], gv_pair 4 5 sc_wish_value.nd, bj_cons (sj_for (iv_tup (ev_name 4 rfl)) (for_pre eM (fun q => [.d (eW w), .d (eS src), .h 0, .d (rd (rsum (pre.map fun p => xval src p.2 p.1))), .d (eF z.1), .d (rd (xval src z.2 q)), .u]) (fun q => [.m (kvO kN rd (macc src (wacc src pre) q))]) z.1 fun q m r e2 => ?_))
      (bj_one (sj_eq (sj_set 3 sc_wish_value.nd (ev_call G2 hr (av_cons (ev_name 3 rfl) (av_cons (ev_name 5 rfl) av_nil)) ⟨_, _, rfl, hsum.2 _ ?_, hsum.1 _ ?_, rfl⟩)) ?_)), ?_⟩
    · -- a moment
      have hm : MomOk m := hw.mom z hzw m (by rw [e2]; simp)
      have hq : ∀ m ∈ q, MomOk m := fun m' h => hw.mom z hzw m' (by rw [e2]; exact List.mem_append_left _ h)
      have hql : q.length + 1 ≤ 4 := by
        have := hw.few z hzw
        rw [e2, List.length_append, List.length_cons] at this
        omega
      obtain ⟨t3, t4⟩ := macc_ok q (wacc src pre) t1
      have em : macc src (wacc src pre) (q ++ [m]) = mstep src (macc src (wacc src pre) q) m := by simp [macc, List.foldl_append]
      have ex : xval src z.2 (q ++ [m]) = xval src z.2 q * momAt src m := by simp [xval, List.foldl_append]
      have hx : Sz (xval src z.2 q) := sz_of ((xval_fit hs q z.2 k hq (hw.fit z hzw)).mono (j := k + 20) (by omega)) (by omega)
      refine ⟨_, _, [.d (eW w), .d (eS src), .h 0, .d (rd (rsum (pre.map fun p => xval src p.2 p.1))), .d (eF z.1), .d (rd (xval src z.2 q * momAt src m)), .d (eM m)], gv_name 6 sc_wish_value.nd,
        bj_cons (ρ1 := [.d (eW w), .d (eS src), .h 0, .d (rd (rsum (pre.map fun p => xval src p.2 p.1))), .d (eF z.1), .d (rd (xval src z.2 q)), .d (eM m)]) (μ1 := [.m (kvO kN rd (mstep src (macc src (wacc src pre) q) m))]) (sj_if (tv_dnotin 2 (ks := m.map fun n => .num (n : Nat)) hr rfl (ev_name 6 rfl) rfl (kN_data m) (Nat.le_trans (kN_depth m) (by decide))) (fun h => ?_) (fun h => ?_))
        (bj_one (sj_eq (sj_set 5 sc_wish_value.nd (ev_call G1 hr (av_cons (ev_name 5 rfl) (av_cons (ev_dix 2 (ks := m.map fun n => .num (n : Nat)) hr rfl (ev_name 6 rfl) rfl (kN_data m) (Nat.le_trans (kN_depth m) (by decide)) ?_) av_nil)) ⟨_, _, rfl, hx, sz_of (momAt_fit hs hm) (by decide), rfl⟩)) ?_)), ?_⟩
      · have e3 : tget (macc src (wacc src pre) q) m = none := by
          have h' : (!(kvGet (kvO kN rd (macc src (wacc src pre) q)) (kN m)).isSome) = true := h
          rw [kv_tget (fun a b => kN_inj)] at h'
          cases e4 : tget (macc src (wacc src pre) q) m with
          | none => rfl
          | some v => rw [e4] at h'; cases h'
        refine bj_one (sj_eq (sj_dset 2 (ks := m.map fun n => .num (n : Nat)) hr (ev_call G3 hr (av_cons (ev_name 1 rfl) (av_cons (ev_name 6 rfl) av_nil)) ⟨_, _, rfl, hs, hm, rfl⟩) rfl (ev_name 6 rfl) rfl (kN_data m) (Nat.le_trans (kN_depth m) (by decide)) ?_) ?_)
        · unfold kvO
          rw [List.length_map]
          omega
        · have e5 := kv_tset (k := kN) (e := rd) (fun a b => kN_inj) (macc src (wacc src pre) q) m (momAt src m)
          have e6 : mstep src (macc src (wacc src pre) q) m = tset (macc src (wacc src pre) q) m (momAt src m) := by
            unfold mstep
            rw [e3]
            rfl
          rw [e6, ← e5]
          rfl
      · have e3 : ∃ v, tget (macc src (wacc src pre) q) m = some v := by
          have h' : (!(kvGet (kvO kN rd (macc src (wacc src pre) q)) (kN m)).isSome) = false := h
          rw [kv_tget (fun a b => kN_inj)] at h'
          cases e4 : tget (macc src (wacc src pre) q) m with
          | none => rw [e4] at h'; cases h'
          | some v => exact ⟨v, rfl⟩
        obtain ⟨v, e4⟩ := e3
        have e6 : mstep src (macc src (wacc src pre) q) m = macc src (wacc src pre) q := by
          unfold mstep
          rw [e4]
          rfl
        rw [e6]
        exact bj_nil
      · have e5 := kv_tget (k := kN) (e := rd) (fun a b => kN_inj) m (mstep src (macc src (wacc src pre) q) m)
        show kvGet _ (kN m) = _
        rw [e5, mstep_get t3 m]
        rfl
      · rw [em]
        rfl
      · rw [ex]
        exact .keep (.keep (.keep (.keep (.keep (.keep (.drop .nil))))))
    · rw [e, List.map_append]
      exact List.prefix_append _ _
    · exact List.mem_map.mpr ⟨z, hzw, rfl⟩
    · rw [ew]
      rfl
    · rw [es]
      exact .keep (.keep (.keep (.keep (.drop (.drop (.drop .nil))))))
end
end DW

/-! Pr7: wishes added, multiplied; moments joined; places met. -/
namespace DW
open PySem PySem.Spec PyProof.Rows L2 DM
def scaleW (w : Wish) (x : Rat) : Wish := w.map fun p => (p.1, p.2 * x)
def joinM (a b : Mom) : Mom := (a.zip b).map fun p => p.1 + p.2
def fillF (f : Fac) (d : Nat) : Fac := f ++ List.replicate (d - f.length) []
def pairM (a b : Mom) : Mom := if (!a.isEmpty && !b.isEmpty) = true then joinM a b else if (!a.isEmpty) = true then a else b
def metL (near far : Fac) (lot image : List Nat) : Fac := (lot.zip image).map (fun p => pairM (near.getD p.1 []) (far.getD p.2 [])) ++ (near.zipIdx.filter fun p => !decide (p.2 ∈ lot)).map (·.1) ++ (far.zipIdx.filter fun p => !decide (p.2 ∈ image)).map (·.1)
def leM (a b : Mom) : Bool := PySem.W.dataLe false (fun d : PyData => d) (eM a) (eM b)
@[irreducible] def sortM (fs : Fac) : Fac := ms leM fs.length fs
theorem sortM_def (fs : Fac) : sortM fs = fs.mergeSort leM := by
  unfold sortM
  exact ms_eq leM _ fs (Nat.le_refl _)
theorem perm_sortM (fs : Fac) : (sortM fs).Perm fs := sortM_def fs ▸ List.mergeSort_perm fs leM
def met (near far : Fac) (lot image : List Nat) : Fac := sortM ((metL near far lot image).filter fun m => !m.isEmpty)
theorem sortD_eM (fs : List Mom) : sortD (fs.map eM) = (sortM fs).map eM := by
  rw [sortM_def]
  unfold sortD
  exact (List.map_mergeSort (r := leM) (s := PySem.W.dataLe false id) (f := eM) (l := fs) fun a _ b _ => rfl).symm
theorem canLayAll_map {α : Type} (f : α → PyData) (h : ∀ a, (f a).canLay0 = true) : ∀ xs : List α, PyData.canLayAll0 (xs.map f) = true
  | [] => rfl
  | x :: xs => by
    show PyData.canLayAll0 (f x :: xs.map f) = true
    rw [PyData.canLayAll0, h, canLayAll_map f h xs]
    rfl
theorem shaped_eM (m : Mom) : SeqAt.shaped (eM m) = true := by
  unfold SeqAt.shaped
  rw [PyData.canLay0, canLayAll_map eN (fun _ => rfl) m, decide_eq_true (Nat.le_trans (depth_eM m) (by decide))]
  rfl
theorem isEmpty_map {α β : Type} (f : α → β) (xs : List α) : (xs.map f).isEmpty = xs.isEmpty := by cases xs <;> rfl
theorem at_map {α : Type} {f : α → PyData} {xs : List α} {i : Nat} {d : α} (h : i < xs.length) : atI (xs.map f) (i : Int) = some (f (xs.getD i d)) := by
  apply atI_nat
  rw [List.getElem?_map, List.getElem?_eq_getElem h, List.getD_eq_getElem?_getD, List.getElem?_eq_getElem h]
  rfl
theorem enum_map {α : Type} (f : α → PyData) (xs : List α) : (enumD (xs.map f)).map (fun p => pairD p.1 p.2) = xs.zipIdx.map fun p => pairD (eN p.2) (f p.1) := by
  unfold enumD
  apply List.ext_getElem?
  intro i
  simp only [List.getElem?_map, List.getElem?_mapIdx, List.getElem?_zipIdx, Option.map_map]
  cases xs[i]? <;> simp
theorem cast_map (ns : List Nat) : ns.map eN = (ns.map fun n => ((n : Nat) : Int)).map PyData.int := by rw [List.map_map]; rfl
theorem mem_cast (i : Nat) (ns : List Nat) : decide ((i : Int) ∈ ns.map fun n => ((n : Nat) : Int)) = decide (i ∈ ns) := by
  rw [decide_eq_decide]
  constructor
  · intro h
    obtain ⟨n, h1, h2⟩ := List.mem_map.mp h
    have e : n = i := by omega
    rw [← e]
    exact h1
  · intro h
    exact List.mem_map.mpr ⟨i, h, rfl⟩
section
variable {P : Program} {w : World} {K : PySem.W.Frag} {mg : Str → Option Value} {base : Heap}
def R_plusW (ds : List PyData) (d : PyData) : Prop := ∃ (a b : Wish) (k : Nat), ds = [eW a, eW b] ∧ FewW a ∧ FewW b ∧ k ≤ 148 ∧ (∀ p ∈ a, Fit k p.2) ∧ (∀ p ∈ b, Fit k p.2) ∧ d = eW (gath (a ++ b))
theorem ok_wish_plus (D : Df K mg "wish_plus" s_wish_plus) (G1 : Fn P w K mg base 3 "gathered_wish" (spP K R_gath)) (G2 : Fn P w K mg base 5 "tuple_of" (spP K (R_tupleOf 4))) : Fn P w K mg base 6 "wish_plus" (spP K R_plusW) := by
  refine fn_pure (k := 5) D sc_wish_plus ?_ (fun _ _ _ _ _ _ us hl => match us, hl with | [_, _], _ => by kernel_rfl) ?_
  · rintro ds d ⟨a, b, k, rfl, _⟩
    rfl
  · rintro f cdv A outer s H E ds d hr ⟨a, b, k, rfl, h1, h2, hk, h3, h4, rfl⟩
    refine ⟨[], bj_one (sj_ret (ev_call G1 hr (av_cons (ev_bin op_catA (ov_cat ?_) (ev_call G2 hr (av_cons (ev_name 0 rfl) av_nil) ⟨_, rfl, tt_eW h1, rfl⟩) (ev_call G2 hr (av_cons (ev_name 1 rfl) av_nil) ⟨_, rfl, tt_eW h2, rfl⟩)) av_nil) ⟨_, rfl, a ++ b, k, .inr (by rw [List.map_append]), hk, fun p hp => ?_, ?_, rfl⟩))⟩
    · rw [List.length_map, List.length_map]
      have := h1.1
      have := h2.1
      omega
    · rcases List.mem_append.mp hp with hp | hp
      · exact h3 p hp
      · exact h4 p hp
    · rw [List.length_append]
      have := h1.1
      have := h2.1
      have : 2000 ≤ G := by decide
      omega
def R_scale (ds : List PyData) (d : PyData) : Prop := ∃ (a : Wish) (x : Rat) (k : Nat), ds = [eW a, rd x] ∧ FewW a ∧ k ≤ 140 ∧ (∀ p ∈ a, Fit k p.2) ∧ Fit 5 x ∧ d = eW (gath (scaleW a x))
theorem ok_wish_scaled (D : Df K mg "wish_scaled" s_wish_scaled) (G1 : Fn P w K mg base 3 "gathered_wish" (spP K R_gath)) (G2 : ∀ n, Fn P w K mg base (n + 1) "tuple_of" (spP K (R_tupleOf n))) (G3 : Fn P w K mg base 2 "times" (spP K (R_two (· * ·)))) : Fn P w K mg base 6 "wish_scaled" (spP K R_scale) := by
  refine fn_pure (k := 5) D sc_wish_scaled ?_ (fun _ _ _ _ _ _ us hl => match us, hl with | [_, _], _ => by kernel_rfl) ?_
  · rintro ds d ⟨a, b, k, rfl, _⟩
    rfl
  · rintro f cdv A outer s H E ds d hr ⟨a, x, k, rfl, h1, hk, h3, h4, rfl⟩
    refine ⟨[], bj_cons (sj_set 1 sc_wish_scaled.nd (ev_call (G2 1) hr (av_cons (ev_name 1 rfl) av_nil) ⟨_, rfl, tt_rd 0 x, rfl⟩)) (bj_one (sj_ret (ev_call G1 hr (av_cons (ev_of_ef (ef_lc (own := [("factors", 2), ("own", 3)]) sc_wish_scaled.nd (iv_tup (ev_call (G2 4) hr (av_cons (ev_name 0 rfl) av_nil) ⟨_, rfl, tt_eW h1, rfl⟩)) (blkOk_by (by kernel_rfl)) (lc_all eP (fun p => eP (p.1, p.2 * x)) (fun p => [.d (eW a), .d (rd x), .d (eF p.1), .d (rd p.2)]) (is := [2, 3]) (by simp) a (fun z hz s H C cl fp => gv_pair 2 3 sc_wish_scaled.nd)
      (fun z hz s H C cl fp => ev_tup (av_cons (ev_name 2 rfl) (av_cons (ev_call G3 hr (av_cons (ev_name 3 rfl) (av_cons (ev_name 1 rfl) av_nil)) ⟨_, _, rfl, sz_of (h3 z hz) (by omega), sz_of h4 (by decide), rfl⟩) av_nil)))) (by rw [List.length_map]; have := h1.1; omega))) av_nil) ⟨_, rfl, scaleW a x, k + 5, .inl ?_, by omega, fun p hp => ?_, ?_, rfl⟩)))⟩
    · unfold scaleW
      rw [List.map_map]
      rfl
    · obtain ⟨q, hq, rfl⟩ := List.mem_map.mp hp
      exact (h3 q hq).mul h4
    · unfold scaleW
      rw [List.length_map]
      have := h1.1
      have : 2000 ≤ G := by decide
      omega
def R_join (ds : List PyData) (d : PyData) : Prop := ∃ a b : Mom, ds = [eM a, eM b] ∧ a.length ≤ 1000 ∧ d = eM (joinM a b)
theorem ok_joined_moment (D : Df K mg "joined_moment" s_joined_moment) (m1 : mg "zip" = none) (m2 : mg "tuple" = none) : Fn P w K mg base 1 "joined_moment" (spP K R_join) := by
  refine fn_pure (k := 0) D sc_joined_moment ?_ (fun _ _ _ _ _ _ us hl => match us, hl with | [_, _], _ => by kernel_rfl) ?_
  · rintro ds d ⟨a, b, rfl, _⟩
    rfl
  · rintro f cdv A outer s H E ds d hr ⟨a, b, rfl, h1, rfl⟩
    have ez : ((a.map eN).zip (b.map eN)).map (fun p => pairD p.1 p.2) = (a.zip b).map fun p => pairD (eN p.1) (eN p.2) := by
      rw [List.zip_map, List.map_map]
      rfl
    refine ⟨[], bj_one (sj_eq (sj_ret (ev_tupleL m2 (lv_of_ef (ef_lc (own := [("power", 2), ("more", 3)]) sc_joined_moment.nd (iv_eq (iv_zipT m1 (av_cons (ev_name 0 rfl) (av_cons (ev_name 1 rfl) av_nil))) ez) (blkOk_by (by kernel_rfl)) (lc_all (fun p : Nat × Nat => pairD (eN p.1) (eN p.2)) (fun p => eN (p.1 + p.2)) (fun p => [.d (eM a), .d (eM b), .d (eN p.1), .d (eN p.2)]) (is := [2, 3]) (by simp) (a.zip b) (fun z hz s H C cl fp => gv_pair 2 3 sc_joined_moment.nd)
      (fun z hz s H C cl fp => ev_eq (ev_add (ev_name 2 rfl) (ev_name 3 rfl)) (by rw [← Int.natCast_add]))) (by rw [List.length_map, List.length_zip]; omega))))) ?_)⟩
    refine congrArg (fun l => Rs.rt (PyData.tuple l) _) ?_
    unfold joinM
    rw [List.map_map]
    rfl
def R_fill (ds : List PyData) (d : PyData) : Prop := ∃ (f : Fac) (n : Nat), ds = [eF f, .int n] ∧ f.length ≤ n ∧ n ≤ 100 ∧ d = eF (fillF f n)
theorem ok_filled (D : Df K mg "_filled" s__filled) (g0 : GlD K mg "BLANK" (eM [])) (m1 : mg "len" = none) : Fn P w K mg base 1 "_filled" (spP K R_fill) := by
  refine fn_pure (k := 0) D sc__filled ?_ (fun _ _ _ _ _ _ us hl => match us, hl with | [_, _], _ => by kernel_rfl) ?_
  · rintro ds d ⟨a, b, rfl, _⟩
    rfl
  · rintro f cdv A outer s H E ds d hr ⟨a, n, rfl, h1, h2, rfl⟩
    refine ⟨[], bj_one (sj_eq (sj_ret (ev_bin op_catA (ov_cat ?_) (ev_name 0 rfl) (ev_repT (ev_tup (av_cons (ev_glob g0) av_nil)) (ev_sub (ev_name 1 rfl) (ev_lenT m1 (ev_name 0 rfl))) (by simp) ?_ ?_ ?_))) ?_)⟩
    · rw [flat_len, List.length_map]
      simp only [List.length_singleton, List.length_map]
      omega
    · rw [List.length_map]; omega
    · rw [List.length_map]; omega
    · show 1 ≤ 1000; decide
    · refine congrArg (fun l => Rs.rt (PyData.tuple l) _) ?_
      unfold fillF
      have e : ((n : Int) - ((a.map eM).length : Nat)).toNat = n - a.length := by
        rw [List.length_map]
        omega
      rw [e, List.map_append, List.map_replicate]
      congr 1
      induction n - a.length with
      | zero => rfl
      | succ j ih => rw [List.replicate_succ, List.replicate_succ, List.flatten_cons, ih]; rfl
def R_met (ds : List PyData) (d : PyData) : Prop := ∃ (near far : Fac) (lot image : List Nat), ds = [eF near, eF far, eM lot, eM image] ∧ (∀ m ∈ near, m.length ≤ 1000) ∧ (∀ m ∈ far, m.length ≤ 1000) ∧ near.length ≤ 100 ∧ far.length ≤ 100 ∧ lot.length ≤ 100 ∧ (∀ i ∈ lot, i < near.length) ∧ (∀ i ∈ image, i < far.length) ∧ d = eF (met near far lot image)
theorem mem_getD {f : Fac} {i : Nat} (h : i < f.length) : f.getD i [] ∈ f := by
  rw [List.getD_eq_getElem?_getD, List.getElem?_eq_getElem h]
  exact List.getElem_mem h
theorem ok_met (D : Df K mg "_met" s__met) (G1 : Fn P w K mg base 1 "joined_moment" (spP K R_join)) (g0 : GlD K mg "BLANK" (eM [])) (m1 : mg "zip" = none) (m2 : mg "enumerate" = none) (m3 : mg "sorted" = none) (m4 : mg "tuple" = none) : Fn P w K mg base 2 "_met" (spP K R_met) := by
  refine fn_pure (k := 1) D sc__met ?_ (fun _ _ _ _ _ _ us hl => match us, hl with | [_, _, _, _], _ => by kernel_rfl) ?_
  · rintro ds d ⟨a, b, c, e, rfl, _⟩
    rfl
  · rintro f cdv A outer s H E ds d hr ⟨near, far, lot, image, rfl, l1, l2, l3, l4, l5, h1, h2, rfl⟩
    have ez : ((lot.map eN).zip (image.map eN)).map (fun p => pairD p.1 p.2) = (lot.zip image).map fun p => pairD (eN p.1) (eN p.2) := by
      rw [List.zip_map, List.map_map]
      rfl
    have hz : ∀ z ∈ lot.zip image, z.1 < near.length ∧ z.2 < far.length := fun z hz => ⟨h1 _ (List.of_mem_zip hz).1, h2 _ (List.of_mem_zip hz).2⟩
    have la := List.length_filter_le (fun p : Mom × Nat => !decide (p.2 ∈ lot)) near.zipIdx
    have lb := List.length_filter_le (fun p : Mom × Nat => !decide (p.2 ∈ image)) far.zipIdx
    have lc : (lot.zip image).length ≤ 100 := by rw [List.length_zip]; omega
    rw [List.length_zipIdx] at la lb
    have t1 : ∀ m : Mom, truD (eM m) = !m.isEmpty := fun m => by
      show (!(m.map eN).isEmpty) = _
      rw [isEmpty_map]
    have em : ∀ m : Mom, PyData.eqv (eM m) (eM []) = m.isEmpty := fun m => by cases m <;> rfl
    refine ⟨[.dead], bj_cons (sj_ownLc 4 (own := [("i", 5), ("j", 6)]) sc__met.nd (iv_eq (iv_zipT m1 (av_cons (ev_name 2 rfl) (av_cons (ev_name 3 rfl) av_nil))) ez) (blkOk_by (by kernel_rfl))
      (lc_all (fun p : Nat × Nat => pairD (eN p.1) (eN p.2)) (fun p => eM (pairM (near.getD p.1 []) (far.getD p.2 []))) (fun p => [.d (eF near), .d (eF far), .d (eM lot), .d (eM image), .u, .d (eN p.1), .d (eN p.2), .u]) (is := [5, 6]) (by simp) (lot.zip image) (fun z hz s H C cl fp => gv_pair 5 6 sc__met.nd) (fun z hzz s H C cl fp =>
        ev_eq (ev_if (tv_and (tv_ev (ev_ixT (ev_name 0 rfl) (ev_name 5 rfl) (at_map (f := eM) (d := []) (hz z hzz).1))) (fun _ => tv_ev (ev_ixT (ev_name 1 rfl) (ev_name 6 rfl) (at_map (f := eM) (d := []) (hz z hzz).2)))) (fun _ => ev_call G1 hr (av_cons (ev_ixT (ev_name 0 rfl) (ev_name 5 rfl) (at_map (f := eM) (d := []) (hz z hzz).1)) (av_cons (ev_ixT (ev_name 1 rfl) (ev_name 6 rfl) (at_map (f := eM) (d := []) (hz z hzz).2)) av_nil)) ⟨_, _, rfl, l1 _ (mem_getD (hz z hzz).1), rfl⟩)
          (fun _ => ev_orT (ev_ixT (ev_name 0 rfl) (ev_name 5 rfl) (at_map (f := eM) (d := []) (hz z hzz).1)) trivial fun _ => ev_ixT (ev_name 1 rfl) (ev_name 6 rfl) (at_map (f := eM) (d := []) (hz z hzz).2))) (by
            rw [t1, t1]
            unfold pairM
            split
            · rfl
            · split <;> rfl))) (by rw [List.length_map, List.length_zip]; omega))
      (bj_cons (sj_extend 4 rfl (ef_lc (own := [("i", 5), ("own", 7)]) sc__met.nd (iv_eq (iv_enumT m2 (ev_name 0 rfl)) (enum_map eM near)) (blkOk_by (by kernel_rfl)) (lc_flt (fun p : Mom × Nat => pairD (eN p.2) (eM p.1)) (fun p => !decide (p.2 ∈ lot)) (fun p => eM p.1) (fun p => [.d (eF near), .d (eF far), .d (eM lot), .d (eM image), .h 0, .d (eN p.2), .u, .d (eM p.1)]) (is := [5, 7]) (by simp) near.zipIdx (fun z hz s H C cl fp => gv_pair 5 7 sc__met.nd)
          (fun z hz s H C cl fp => tv_eq (tv_cmp op_notIn_seq ov_notin (ev_name 5 rfl) (ev_eq (ev_name 2 rfl) (congrArg PyData.tuple (cast_map lot)))) (by rw [mem_cast])) (fun z hz hk s H C cl fp => ev_name 7 rfl)) ?_) rfl rfl ?_)
      (bj_cons (sj_extend 4 rfl (ef_lc (own := [("j", 6), ("own", 7)]) sc__met.nd (iv_eq (iv_enumT m2 (ev_name 1 rfl)) (enum_map eM far)) (blkOk_by (by kernel_rfl)) (lc_flt (fun p : Mom × Nat => pairD (eN p.2) (eM p.1)) (fun p => !decide (p.2 ∈ image)) (fun p => eM p.1) (fun p => [.d (eF near), .d (eF far), .d (eM lot), .d (eM image), .h 0, .u, .d (eN p.2), .d (eM p.1)]) (is := [6, 7]) (by simp) far.zipIdx (fun z hz s H C cl fp => gv_pair 6 7 sc__met.nd)
          (fun z hz s H C cl fp => tv_eq (tv_cmp op_notIn_seq ov_notin (ev_name 6 rfl) (ev_eq (ev_name 3 rfl) (congrArg PyData.tuple (cast_map image)))) (by rw [mem_cast])) (fun z hz hk s H C cl fp => ev_name 7 rfl)) ?_) rfl rfl ?_)
      (bj_freeze 0 (Nat.le_refl _) (xs := (metL near far lot image).map eM) ?_ (bj_one (sj_eq (sj_ret (ev_tupleL m4 (lv_of_ef (ef_eq (ef_sortL hr m3 (lv_of_ef (ef_lc (own := [("own", 7)]) sc__met.nd (iv_list (ev_name 4 rfl)) (blkOk_by (by kernel_rfl)) (lc_flt eM (fun m => !m.isEmpty) eM (fun m => [.d (eF near), .d (eF far), .d (eM lot), .d (eM image), .d (.list ((metL near far lot image).map eM)), .u, .u, .d (eM m)]) (is := [7]) (by simp) (metL near far lot image) (fun z hz s H C cl fp => gv_name 7 sc__met.nd)
        (fun z hz s H C cl fp => tv_eq (tv_cmp (op_neD (by have := room100 hr; exact Nat.lt_of_le_of_lt (Nat.add_le_add_left (by decide) _) this)) (ov_neD (shaped_eM z) rfl) (ev_name 7 rfl) (ev_glob g0)) (by rw [em])) (fun z hz hk s H C cl fp => ev_name 7 rfl)) ?_)) (tups_eM _)) (sortD_eM _))))) rfl)))))⟩
    · rw [List.length_map]; omega
    · rw [List.length_map, List.length_map]; omega
    · rw [List.length_map]; omega
    · rw [List.length_append, List.length_map, List.length_map, List.length_map]; omega
    · show some (MO.l _) = some (MO.l _)
      unfold metL
      rw [List.map_append, List.map_append, List.map_map, List.map_map, List.map_map]
      rfl
    · rw [List.length_map]
      have h3 := List.length_filter_le (fun m : Mom => !m.isEmpty) (metL near far lot image)
      have h4 : (metL near far lot image).length ≤ 300 := by
        unfold metL
        rw [List.length_append, List.length_append, List.length_map, List.length_map, List.length_map]
        omega
      omega
end
end DW

/-! Pr8: shared means, layers. -/
namespace DW
open PySem PySem.Spec PyProof.Rows L2 DM
def shareQ (d k : Nat) : Rat := Rat.divInt 1 (PySem.W.mcComb d k * PySem.W.mcPerm d k)
def shIn (d k : Nat) (p q : Fac × Rat) (lot : List Nat) : Wish := (permT d k).map fun image => (met (fillF p.1 d) (fillF q.1 d) lot image, shareQ d k * (p.2 * q.2))
def shPair (d k : Nat) (p q : Fac × Rat) : Wish := (combT d k).flatMap (shIn d k p q)
def sharedPairs (w : Wish) (k : Nat) : Wish := w.flatMap fun p => w.flatMap fun q => shPair (deg w) k p q
def sharedW (w : Wish) (k : Nat) : Wish := gath (sharedPairs w k)
/-- the drawn wishes -/
structure W0 (w : Wish) : Prop where
  len : w.length ≤ 5
  deg : deg w ≤ 2
  mom : ∀ p ∈ w, ∀ m ∈ p.1, m.length ≤ 2 ∧ ∀ n ∈ m, n ≤ 2
  fit : ∀ p ∈ w, Fit 1 p.2
theorem deg_le {w : Wish} {p : Fac × Rat} (h : p ∈ w) : p.1.length ≤ deg w :=
  (foldr_max (w.map fun p => p.1.length)).2 _ (List.mem_cons_of_mem _ (List.mem_map.mpr ⟨p, h, rfl⟩))
theorem six {d k : Nat} (hd : d ≤ 2) (hk : k ≤ d) : (d, k) = (0, 0) ∨ (d, k) = (1, 0) ∨ (d, k) = (1, 1) ∨ (d, k) = (2, 0) ∨ (d, k) = (2, 1) ∨ (d, k) = (2, 2) := by
  have : d = 0 ∨ d = 1 ∨ d = 2 := by omega
  rcases this with rfl | rfl | rfl
  · have : k = 0 := by omega
    subst this; simp
  · have : k = 0 ∨ k = 1 := by omega
    rcases this with rfl | rfl <;> simp
  · have : k = 0 ∨ k = 1 ∨ k = 2 := by omega
    rcases this with rfl | rfl | rfl <;> simp
theorem cp_small {d k : Nat} (hd : d ≤ 2) (hk : k ≤ d) : 0 < PySem.W.mcComb d k ∧ PySem.W.mcComb d k ≤ 2 ∧ 0 < PySem.W.mcPerm d k ∧ PySem.W.mcPerm d k ≤ 2 := by
  rcases six hd hk with e | e | e | e | e | e <;> (cases e; decide +kernel)
theorem share_fit {d k : Nat} (hd : d ≤ 2) (hk : k ≤ d) : Fit 1 (shareQ d k) := by
  refine fit_dec ?_
  unfold shareQ
  rcases six hd hk with e | e | e | e | e | e <;> (cases e; decide +kernel)
theorem combT_ok {d k : Nat} (hd : d ≤ 2) (hk : k ≤ d) : (combT d k).length ≤ 2 ∧ ∀ l ∈ combT d k, l.length ≤ 2 ∧ ∀ i ∈ l, i < d := by
  rcases six hd hk with e | e | e | e | e | e <;> (cases e; decide)
theorem permT_ok {d k : Nat} (hd : d ≤ 2) (hk : k ≤ d) : (permT d k).length ≤ 2 ∧ ∀ l ∈ permT d k, l.length ≤ 2 ∧ ∀ i ∈ l, i < d := by
  rcases six hd hk with e | e | e | e | e | e <;> (cases e; decide)
theorem fillF_len {f : Fac} {d : Nat} (h : f.length ≤ d) : (fillF f d).length = d := by
  unfold fillF
  rw [List.length_append, List.length_replicate]
  omega
theorem fillF_mem {f : Fac} {d : Nat} {m : Mom} (h : m ∈ fillF f d) : m ∈ f ∨ m = [] := by
  rcases List.mem_append.mp h with h | h
  · exact .inl h
  · exact .inr (List.eq_of_mem_replicate h)
theorem len_flatMap_le {α β : Type} {c : Nat} {f : α → List β} : ∀ {xs : List α}, (∀ x ∈ xs, (f x).length ≤ c) → (xs.flatMap f).length ≤ xs.length * c
  | [], _ => by simp
  | x :: xs, h => by
    rw [List.flatMap_cons, List.length_append, List.length_cons, Nat.succ_mul]
    have h1 := h x List.mem_cons_self
    have h2 := len_flatMap_le (xs := xs) fun y hy => h y (List.mem_cons_of_mem _ hy)
    omega
theorem shIn_len {d k : Nat} (hd : d ≤ 2) (hk : k ≤ d) (p q : Fac × Rat) (lot : List Nat) : (shIn d k p q lot).length ≤ 2 := by
  unfold shIn
  rw [List.length_map]
  exact (permT_ok hd hk).1
theorem shPair_len {d k : Nat} (hd : d ≤ 2) (hk : k ≤ d) (p q : Fac × Rat) : (shPair d k p q).length ≤ 4 := by
  have h := len_flatMap_le (c := 2) (f := shIn d k p q) (xs := combT d k) fun x _ => shIn_len hd hk p q x
  have h2 := (combT_ok hd hk).1
  unfold shPair
  omega
section
variable {P : Program} {w : World} {K : PySem.W.Frag} {mg : Str → Option Value} {base : Heap}
def R_shared (ds : List PyData) (d : PyData) : Prop := ∃ (w : Wish) (k : Nat), ds = [eW w, .int k] ∧ W0 w ∧ k ≤ deg w ∧ d = eW (sharedW w k)
theorem sh_fit {w : Wish} {k : Nat} (hw : W0 w) (hk : k ≤ deg w) : ∀ p ∈ sharedPairs w k, Fit 3 p.2 := by
  intro p hp
  obtain ⟨a, ha, hp⟩ := List.mem_flatMap.mp hp
  obtain ⟨b, hb, hp⟩ := List.mem_flatMap.mp hp
  obtain ⟨lot, hl, hp⟩ := List.mem_flatMap.mp hp
  obtain ⟨im, hi, rfl⟩ := List.mem_map.mp hp
  exact (share_fit hw.deg hk).mul ((hw.fit a ha).mul (hw.fit b hb))
theorem sh_len {w : Wish} {k : Nat} (hw : W0 w) (hk : k ≤ deg w) : (sharedPairs w k).length ≤ 100 := by
  have h1 : ∀ p ∈ w, (w.flatMap fun q => shPair (deg w) k p q).length ≤ 20 := fun p _ => by
    have := len_flatMap_le (c := 4) (f := fun q => shPair (deg w) k p q) (xs := w) fun q _ => shPair_len hw.deg hk p q
    have := hw.len
    omega
  have h2 := len_flatMap_le (c := 20) h1
  have := hw.len
  unfold sharedPairs
  omega
theorem ok_shared (D : Df K mg "_shared" s__shared) (G1 : Fn P w K mg base 1 "wish_degree" (spP K R_degree)) (G2 : Fn P w K mg base 1 "fraction" (spP K R_fraction)) (G3 : Fn P w K mg base 1 "_filled" (spP K R_fill)) (G4 : Fn P w K mg base 2 "times" (spP K (R_two (· * ·)))) (G5 : Fn P w K mg base 2 "_met" (spP K R_met)) (G6 : Fn P w K mg base 3 "_summed" (spP K R_gath))
    (m1 : mg "comb" = some (.builtin "math.comb")) (m2 : mg "perm" = some (.builtin "math.perm")) (m3 : mg "list" = none) (m4 : mg "range" = none) (m5 : mg "combinations" = some (.type "itertools.combinations")) (m6 : mg "permutations" = some (.type "itertools.permutations")) (m7 : mg "int" = none) : Fn P w K mg base 4 "_shared" (spP K R_shared) := by
  refine fn_pure (k := 3) D sc__shared ?_ (fun _ _ _ _ _ _ us hl => match us, hl with | [_, _], _ => by kernel_rfl) ?_
  · rintro ds d ⟨a, b, rfl, _⟩
    rfl
  · rintro f cdv A outer s H E ds d hr ⟨w, k, rfl, hw, hk, rfl⟩
    have hd := hw.deg
    obtain ⟨c1, c2, c3, c4⟩ := cp_small hd hk
    have hcp : (0 : Int) < PySem.W.mcComb (deg w) k * PySem.W.mcPerm (deg w) k ∧ PySem.W.mcComb (deg w) k * PySem.W.mcPerm (deg w) k ≤ 4 := by
      have a1 : PySem.W.mcComb (deg w) k = 1 ∨ PySem.W.mcComb (deg w) k = 2 := by omega
      have a2 : PySem.W.mcPerm (deg w) k = 1 ∨ PySem.W.mcPerm (deg w) k = 2 := by omega
      rcases a1 with a1 | a1 <;> rcases a2 with a2 | a2 <;> rw [a1, a2] <;> decide
    have hwl : w.length ≤ 1000 := by have := hw.len; omega
    refine ⟨[.dead], bj_cons (sj_parL 2 3 sc__shared.nd (ev_call G1 hr (av_cons (ev_name 0 rfl) av_nil) ⟨w, rfl, hwl, rfl⟩) (ef_lst av_nil))
      (bj_cons (sj_set 4 sc__shared.nd (ev_call G2 hr (av_cons ev_int (av_cons (ev_mul ?_ (ev_comb m1 (av_cons (ev_name 2 rfl) (av_cons (ev_name 1 rfl) av_nil)) ?_ ?_ ?_ ?_) (ev_perm m2 (av_cons (ev_name 2 rfl) (av_cons (ev_name 1 rfl) av_nil)) ?_ ?_ ?_ ?_)) av_nil)) ⟨1, _, rfl, hcp.1, ?_, rfl⟩))
      (bj_cons (sj_set 5 sc__shared.nd (ev_of_ef (ef_listComb (d := deg w) (r := k) m3 m4 m5 (ev_name 2 rfl) (ev_toInt m7 (ev_name 1 rfl)) hd hk)))
      (bj_cons (sj_set 6 sc__shared.nd (ev_of_ef (ef_listPerm (d := deg w) (r := k) m3 m4 m6 (ev_name 2 rfl) (ev_toInt m7 (ev_name 1 rfl)) hd hk)))
      (bj_cons (sj_for (iv_tup (ev_name 0 rfl)) (for_pre eP (fun _ => [.d (eW w), .d (.int k), .d (.int (deg w)), .h 0, .d (rd (shareQ (deg w) k)), .d (.list ((combT (deg w) k).map eM)), .d (.list ((permT (deg w) k).map eM)), .u, .u, .u, .u, .u, .u, .u, .u, .u])
        (fun pre => [.l ((pre.flatMap fun p => w.flatMap fun q => shPair (deg w) k p q).map eP)]) w fun pre p suf e => ?_))
      (bj_freeze 0 (Nat.le_refl _) (xs := (sharedPairs w k).map eP) rfl (bj_one (sj_ret (ev_call G6 hr (av_cons (ev_name 3 rfl) av_nil) ⟨_, rfl, sharedPairs w k, 3, .inl rfl, by decide, sh_fit hw hk, ?_, rfl⟩))))))))⟩
    · exact wide_mul (a := 2) (b := 2) (by omega) (by omega) (by decide) (by decide) (by decide)
    · omega
    · omega
    · omega
    · omega
    · omega
    · omega
    · omega
    · omega
    · have : (PySem.W.mcComb (deg w) k * PySem.W.mcPerm (deg w) k).natAbs ≤ 4 := by omega
      have h2 : (2 : Nat) ^ 3 ≤ 2 ^ 8999 := Nat.pow_le_pow_right (by decide) (by decide)
      omega
    · -- a pair of the wish
      have hp : p ∈ w := by rw [e]; simp
      have hpl : p.1.length ≤ deg w := deg_le hp
      have hpre : (pre.flatMap fun p => w.flatMap fun q => shPair (deg w) k p q).length ≤ 100 := by
        have h1 : ∀ p ∈ pre, (w.flatMap fun q => shPair (deg w) k p q).length ≤ 20 := fun p _ => by
          have := len_flatMap_le (c := 4) (f := fun q => shPair (deg w) k p q) (xs := w) fun q _ => shPair_len hw.deg hk p q
          have := hw.len
          omega
        have h2 := len_flatMap_le (c := 20) h1
        have : pre.length ≤ w.length := by rw [e, List.length_append]; omega
        have := hw.len
        omega
      generalize hR : (pre.flatMap fun p => w.flatMap fun q => shPair (deg w) k p q) = R at hpre ⊢
      have e1 : ((pre ++ [p]).flatMap fun p => w.flatMap fun q => shPair (deg w) k p q) = R ++ w.flatMap fun q => shPair (deg w) k p q := by
        rw [List.flatMap_append, hR]
        simp
      refine ⟨_, _, [.d (eW w), .d (.int k), .d (.int (deg w)), .h 0, .d (rd (shareQ (deg w) k)), .d (.list ((combT (deg w) k).map eM)), .d (.list ((permT (deg w) k).map eM)), .d (eF p.1), .d (rd p.2), .u, .u, .u, .u, .u, .u, .u], gv_pair 7 8 sc__shared.nd,
        bj_one (sj_eq (sj_for (iv_tup (ev_name 0 rfl)) (for_preM eP (fun _ => [.d (eW w), .d (.int k), .d (.int (deg w)), .h 0, .d (rd (shareQ (deg w) k)), .d (.list ((combT (deg w) k).map eM)), .d (.list ((permT (deg w) k).map eM)), .d (eF p.1), .d (rd p.2), .u, .u, .u, .u, .u, .u, .u]) (fun pre2 => [.l ((R ++ pre2.flatMap fun q => shPair (deg w) k p q).map eP)]) w (by simp) fun pre2 q suf2 e2 => ?_)) ?_), ?_⟩
      · have hq : q ∈ w := by rw [e2]; simp
        have hql : q.1.length ≤ deg w := deg_le hq
        have hpre2 : (R ++ pre2.flatMap fun q => shPair (deg w) k p q).length ≤ 120 := by
          have h2 := len_flatMap_le (c := 4) (f := fun q => shPair (deg w) k p q) (xs := pre2) fun q _ => shPair_len hw.deg hk p q
          have : pre2.length ≤ w.length := by rw [e2, List.length_append]; omega
          have := hw.len
          rw [List.length_append]
          omega
        generalize hR2 : (R ++ pre2.flatMap fun q => shPair (deg w) k p q) = R2 at hpre2 ⊢
        have e3 : (R ++ (pre2 ++ [q]).flatMap fun q => shPair (deg w) k p q) = R2 ++ shPair (deg w) k p q := by
          rw [List.flatMap_append, ← List.append_assoc, hR2]
          simp
        have hz : Fit 3 (shareQ (deg w) k * (p.2 * q.2)) := (share_fit hd hk).mul ((hw.fit p hp).mul (hw.fit q hq))
        refine ⟨_, _, [.d (eW w), .d (.int k), .d (.int (deg w)), .h 0, .d (rd (shareQ (deg w) k)), .d (.list ((combT (deg w) k).map eM)), .d (.list ((permT (deg w) k).map eM)), .d (eF p.1), .d (rd p.2), .d (eF q.1), .d (rd q.2), .d (eF (fillF p.1 (deg w))), .d (eF (fillF q.1 (deg w))), .d (rd (shareQ (deg w) k * (p.2 * q.2))), .u, .u], gv_pair 9 10 sc__shared.nd,
          bj_cons (sj_asg (ev_tup (av_cons (ev_call G3 hr (av_cons (ev_name 7 rfl) (av_cons (ev_name 2 rfl) av_nil)) ⟨p.1, deg w, rfl, hpl, by omega, rfl⟩) (av_cons (ev_call G3 hr (av_cons (ev_name 9 rfl) (av_cons (ev_name 2 rfl) av_nil)) ⟨q.1, deg w, rfl, hql, by omega, rfl⟩)
            (av_cons (ev_call G4 hr (av_cons (ev_name 4 rfl) (av_cons (ev_call G4 hr (av_cons (ev_name 8 rfl) (av_cons (ev_name 10 rfl) av_nil)) ⟨p.2, q.2, rfl, sz_of (hw.fit p hp) (by decide), sz_of (hw.fit q hq) (by decide), rfl⟩) av_nil)) ⟨_, _, rfl, sz_of (share_fit hd hk) (by decide), sz_of ((hw.fit p hp).mul (hw.fit q hq)) (by decide), rfl⟩) av_nil)))) (gv_tri 11 12 13 sc__shared.nd))
          (bj_one (sj_eq (sj_for (iv_list (ev_name 5 rfl)) (for_preM eM (fun _ => [.d (eW w), .d (.int k), .d (.int (deg w)), .h 0, .d (rd (shareQ (deg w) k)), .d (.list ((combT (deg w) k).map eM)), .d (.list ((permT (deg w) k).map eM)), .d (eF p.1), .d (rd p.2), .d (eF q.1), .d (rd q.2), .d (eF (fillF p.1 (deg w))), .d (eF (fillF q.1 (deg w))), .d (rd (shareQ (deg w) k * (p.2 * q.2))), .u, .u])
            (fun pre3 => [.l ((R2 ++ pre3.flatMap (shIn (deg w) k p q)).map eP)]) (combT (deg w) k) (by simp) fun pre3 lot suf3 e4 => ?_)) ?_)), ?_⟩
        · have hlot : lot ∈ combT (deg w) k := by rw [e4]; simp
          have hlo := (combT_ok hd hk).2 lot hlot
          refine ⟨_, _, _, gv_name 14 sc__shared.nd, bj_one (sj_eq (sj_extend 3 rfl (ef_lc (own := [("image", 15)]) sc__shared.nd (iv_list (ev_name 6 rfl)) (blkOk_by (by kernel_rfl)) (lc_all eM (fun im => eP (met (fillF p.1 (deg w)) (fillF q.1 (deg w)) lot im, shareQ (deg w) k * (p.2 * q.2))) (fun im => [.d (eW w), .d (.int k), .d (.int (deg w)), .h 0, .d (rd (shareQ (deg w) k)), .d (.list ((combT (deg w) k).map eM)), .d (.list ((permT (deg w) k).map eM)), .d (eF p.1), .d (rd p.2), .d (eF q.1), .d (rd q.2), .d (eF (fillF p.1 (deg w))), .d (eF (fillF q.1 (deg w))), .d (rd (shareQ (deg w) k * (p.2 * q.2))), .d (eM lot), .d (eM im)]) (is := [15]) (by simp) (permT (deg w) k)
              (fun z hz s H C cl fp => gv_name 15 sc__shared.nd) (fun im him s H C cl fp => ev_tup (av_cons (ev_call G5 hr (av_cons (ev_name 11 rfl) (av_cons (ev_name 12 rfl) (av_cons (ev_name 14 rfl) (av_cons (ev_name 15 rfl) av_nil)))) ⟨fillF p.1 (deg w), fillF q.1 (deg w), lot, im, rfl, fun m hm => ?_, fun m hm => ?_, ?_, ?_, ?_, ?_, ?_, rfl⟩) (av_cons (ev_name 13 rfl) av_nil)))) ?_) rfl rfl ?_) (r' := .nx [.d (eW w), .d (.int k), .d (.int (deg w)), .h 0, .d (rd (shareQ (deg w) k)), .d (.list ((combT (deg w) k).map eM)), .d (.list ((permT (deg w) k).map eM)), .d (eF p.1), .d (rd p.2), .d (eF q.1), .d (rd q.2), .d (eF (fillF p.1 (deg w))), .d (eF (fillF q.1 (deg w))), .d (rd (shareQ (deg w) k * (p.2 * q.2))), .d (eM lot), .u] _) ?_), ?_⟩
          · rcases fillF_mem hm with h | h
            · have := (hw.mom p hp m h).1; omega
            · rw [h]; exact Nat.zero_le _
          · rcases fillF_mem hm with h | h
            · have := (hw.mom q hq m h).1; omega
            · rw [h]; exact Nat.zero_le _
          · rw [fillF_len hpl]; omega
          · rw [fillF_len hql]; omega
          · have := hlo.1; omega
          · rw [fillF_len hpl]; exact hlo.2
          · rw [fillF_len hql]; exact ((permT_ok hd hk).2 im him).2
          · rw [List.length_map]; have := (permT_ok hd hk).1; omega
          · rw [List.length_map, List.length_map, List.length_append]
            have h1 := len_flatMap_le (c := 2) (f := shIn (deg w) k p q) (xs := pre3) fun x _ => shIn_len hd hk p q x
            have h2 := (permT_ok hd hk).1
            have h3 : pre3.length ≤ (combT (deg w) k).length := by rw [e4, List.length_append]; omega
            have h4 := (combT_ok hd hk).1
            omega
          · have e5 : (R2 ++ (pre3 ++ [lot]).flatMap (shIn (deg w) k p q)) = (R2 ++ pre3.flatMap (shIn (deg w) k p q)) ++ shIn (deg w) k p q lot := by
              rw [List.flatMap_append, ← List.append_assoc]
              simp
            rw [e5, List.map_append (l₁ := R2 ++ pre3.flatMap (shIn (deg w) k p q))]
            have e6 : (shIn (deg w) k p q lot).map eP = (permT (deg w) k).map fun im => eP (met (fillF p.1 (deg w)) (fillF q.1 (deg w)) lot im, shareQ (deg w) k * (p.2 * q.2)) := by
              unfold shIn
              rw [List.map_map]
              rfl
            rw [e6]
            rfl
          · exact .keep (.keep (.keep (.keep (.keep (.keep (.keep (.keep (.keep (.keep (.keep (.keep (.keep (.keep (.drop (.keep .nil)))))))))))))))
        · rw [e3]
          rfl
        · exact .keep (.keep (.keep (.keep (.keep (.keep (.keep (.keep (.keep (.drop (.drop (.drop (.drop (.drop (.keep (.keep .nil)))))))))))))))
      · rw [e1]
      · exact .keep (.keep (.keep (.keep (.keep (.keep (.keep (.drop (.drop (.keep (.keep (.keep (.keep (.keep (.keep (.keep .nil)))))))))))))))
    · have := sh_len hw hk
      have : 100 ≤ G := by decide
      omega
end
end DW

/-! Pr9: layers, shares, spreads. -/
namespace DW
open PySem PySem.Spec PyProof.Rows L2 DM
/-! ### what is gathered keeps its shape -/
theorem gacc_keys : ∀ (ps : Wish), ∀ p ∈ gacc ps, ∃ q ∈ ps, q.1 = p.1 := by
  intro ps
  induction ps using rev_ind with
  | h0 => intro p hp; simp [gacc] at hp
  | h1 ps z ih =>
    intro p hp
    rw [gacc_snoc] at hp
    rcases tset_mem hp with e | e
    · obtain ⟨q, h1, h2⟩ := ih p e
      exact ⟨q, List.mem_append_left _ h1, h2⟩
    · exact ⟨z, by simp, by rw [e]⟩
theorem gath_mem {ps : Wish} {p : Fac × Rat} (h : p ∈ gath ps) : (∃ q ∈ ps, q.1 = p.1) ∧ p.2 = gval (gacc ps) p.1 := by
  obtain ⟨f, hf, rfl⟩ := List.mem_map.mp h
  refine ⟨?_, rfl⟩
  have h1 := mem_sortF.mp (List.mem_filter.mp hf).1
  obtain ⟨q, hq, e⟩ := List.mem_map.mp h1
  obtain ⟨q', hq', e'⟩ := gacc_keys ps q hq
  exact ⟨q', hq', e'.trans e⟩
theorem gath_len (ps : Wish) : (gath ps).length ≤ ps.length := by
  unfold gath
  rw [List.length_map]
  have h := List.length_filter_le (fun f => decide (gval (gacc ps) f ≠ 0)) (sortF ((gacc ps).map (·.1)))
  rw [len_sortF, List.length_map] at h
  have h2 : (gacc ps).length ≤ ps.length := by
    clear h
    induction ps using rev_ind with
    | h0 => exact Nat.le_refl _
    | h1 ps z ih =>
      rw [gacc_snoc, List.length_append, List.length_singleton]
      have := tset_len (gacc ps) z.1 ((tget (gacc ps) z.1).getD 0 + z.2)
      show (tset _ _ _).length ≤ _
      omega
  omega
def FacOk (f : Fac) : Prop := f.length ≤ 4 ∧ ∀ m ∈ f, MomOk m
structure WK (n k : Nat) (w : Wish) : Prop where
  len : w.length ≤ n
  fac : ∀ p ∈ w, FacOk p.1
  fit : ∀ p ∈ w, Fit k p.2
theorem WK.ok {n k : Nat} {w : Wish} (h : WK n k w) (hn : n ≤ 1000) : WishOk k w := ⟨by have := h.len; omega, fun p hp => (h.fac p hp).1, fun p hp => (h.fac p hp).2, h.fit⟩
theorem WK.few {n k : Nat} {w : Wish} (h : WK n k w) (hn : n ≤ 1000) : FewW w := (h.ok hn).fews
theorem WK.gath {n k : Nat} {w : Wish} (h : WK n k w) (hn : n ≤ 1000) : WK n (k + 1) (gath w) where
  len := Nat.le_trans (gath_len w) h.len
  fac := fun p hp => by
    obtain ⟨⟨q, h1, h2⟩, _⟩ := gath_mem hp
    rw [← h2]
    exact h.fac q h1
  fit := fun p hp => by
    rw [(gath_mem hp).2]
    exact (gval_fit h.fit p.1).fit (by have := h.len; have := G_big; omega)
theorem WK.app {n m k : Nat} {a b : Wish} (h : WK n k a) (h' : WK m k b) : WK (n + m) k (a ++ b) where
  len := by rw [List.length_append]; have := h.len; have := h'.len; omega
  fac := fun p hp => (List.mem_append.mp hp).elim (h.fac p) (h'.fac p)
  fit := fun p hp => (List.mem_append.mp hp).elim (h.fit p) (h'.fit p)
theorem WK.scale {n k j : Nat} {w : Wish} {x : Rat} (h : WK n k w) (hx : Fit j x) : WK n (k + j) (scaleW w x) where
  len := by unfold scaleW; rw [List.length_map]; exact h.len
  fac := fun p hp => by
    obtain ⟨q, hq, rfl⟩ := List.mem_map.mp hp
    exact h.fac q hq
  fit := fun p hp => by
    obtain ⟨q, hq, rfl⟩ := List.mem_map.mp hp
    exact (h.fit q hq).mul hx
theorem WK.mono {n m k j : Nat} {w : Wish} (h : WK n k w) (e : n ≤ m) (e2 : k ≤ j) : WK m j w := ⟨Nat.le_trans h.len e, h.fac, fun p hp => (h.fit p hp).mono e2⟩
/-! ### shared means -/
theorem filter_zipIdx {α : Type} (P : Nat → Bool) (xs : List α) : (xs.zipIdx.filter fun p => P p.2).length = ((List.range xs.length).filter P).length := by
  have e : xs.zipIdx.map (·.2) = List.range xs.length := by simp [List.range_eq_range']
  rw [← e, List.filter_map, List.length_map]
  rfl
theorem met_cnt {d k : Nat} (hd : d ≤ 2) (hk : k ≤ d) : ∀ lot ∈ combT d k, ∀ im ∈ permT d k, (lot.zip im).length + ((List.range d).filter fun i => !decide (i ∈ lot)).length + ((List.range d).filter fun i => !decide (i ∈ im)).length ≤ 4 := by
  rcases six hd hk with e | e | e | e | e | e <;> (cases e; decide)
theorem join_ok {a b : Mom} (ha : a.length ≤ 2 ∧ ∀ n ∈ a, n ≤ 2) (hb : b.length ≤ 2 ∧ ∀ n ∈ b, n ≤ 2) : MomOk (joinM a b) := by
  refine ⟨?_, fun n hn => ?_⟩
  · unfold joinM
    rw [List.length_map, List.length_zip]
    omega
  · obtain ⟨p, hp, rfl⟩ := List.mem_map.mp hn
    have h1 := ha.2 _ (List.of_mem_zip (a := p.1) (b := p.2) hp).1
    have h2 := hb.2 _ (List.of_mem_zip (a := p.1) (b := p.2) hp).2
    show p.1 + p.2 ≤ 4
    omega
theorem met_ok {d k : Nat} (hd : d ≤ 2) (hk : k ≤ d) {near far : Fac} {lot im : List Nat} (hl : lot ∈ combT d k) (hi : im ∈ permT d k) (n1 : near.length = d) (n2 : far.length = d) (h1 : ∀ m ∈ near, m.length ≤ 2 ∧ ∀ n ∈ m, n ≤ 2) (h2 : ∀ m ∈ far, m.length ≤ 2 ∧ ∀ n ∈ m, n ≤ 2) : FacOk (met near far lot im) := by
  have perm : (met near far lot im).Perm ((metL near far lot im).filter fun m => !m.isEmpty) := perm_sortM _
  have small : ∀ m : Mom, (m.length ≤ 2 ∧ ∀ n ∈ m, n ≤ 2) → MomOk m := fun m h => ⟨h.1, fun n hn => by have := h.2 n hn; omega⟩
  have g0 : (([] : Mom).length ≤ 2 ∧ ∀ n ∈ ([] : Mom), n ≤ 2) := ⟨by decide, by simp⟩
  have getn : ∀ {f : Fac}, (∀ m ∈ f, m.length ≤ 2 ∧ ∀ n ∈ m, n ≤ 2) → ∀ i, ((f.getD i []).length ≤ 2 ∧ ∀ n ∈ f.getD i [], n ≤ 2) := fun {f} h i => by
    by_cases hi : i < f.length
    · exact h _ (mem_getD hi)
    · rw [List.getD_eq_getElem?_getD, List.getElem?_eq_none (by omega)]
      exact g0
  refine ⟨?_, fun m hm => ?_⟩
  · rw [perm.length_eq]
    refine Nat.le_trans (List.length_filter_le _ _) ?_
    unfold metL
    rw [List.length_append, List.length_append, List.length_map, List.length_map, List.length_map, filter_zipIdx (fun i => !decide (i ∈ lot)), filter_zipIdx (fun i => !decide (i ∈ im)), n1, n2]
    exact met_cnt hd hk lot hl im hi
  · have hm' := (List.mem_filter.mp (perm.mem_iff.mp hm)).1
    unfold metL at hm'
    rcases List.mem_append.mp hm' with hm' | hm'
    · rcases List.mem_append.mp hm' with hm' | hm'
      · obtain ⟨p, hp, rfl⟩ := List.mem_map.mp hm'
        have a := getn h1 p.1
        have b := getn h2 p.2
        unfold pairM
        split
        · exact join_ok a b
        · split
          · exact small _ a
          · exact small _ b
      · obtain ⟨p, hp, rfl⟩ := List.mem_map.mp hm'
        exact small _ (h1 _ (List.fst_mem_of_mem_zipIdx (List.mem_filter.mp hp).1))
    · obtain ⟨p, hp, rfl⟩ := List.mem_map.mp hm'
      exact small _ (h2 _ (List.fst_mem_of_mem_zipIdx (List.mem_filter.mp hp).1))
theorem fill_small {w : Wish} (hw : W0 w) {p : Fac × Rat} (hp : p ∈ w) : ∀ m ∈ fillF p.1 (deg w), m.length ≤ 2 ∧ ∀ n ∈ m, n ≤ 2 := fun m hm => by
  rcases fillF_mem hm with h | h
  · exact hw.mom p hp m h
  · subst h
    exact ⟨by decide, by simp⟩
theorem sharedPairs_ok {w : Wish} {k : Nat} (hw : W0 w) (hk : k ≤ deg w) : WK 100 3 (sharedPairs w k) where
  len := sh_len hw hk
  fac := fun p hp => by
    obtain ⟨a, ha, hp⟩ := List.mem_flatMap.mp hp
    obtain ⟨b, hb, hp⟩ := List.mem_flatMap.mp hp
    obtain ⟨lot, hl, hp⟩ := List.mem_flatMap.mp hp
    obtain ⟨im, hi, rfl⟩ := List.mem_map.mp hp
    exact met_ok hw.deg hk hl hi (fillF_len (deg_le ha)) (fillF_len (deg_le hb)) (fill_small hw ha) (fill_small hw hb)
  fit := sh_fit hw hk
theorem sharedW_ok {w : Wish} {k : Nat} (hw : W0 w) (hk : k ≤ deg w) : WK 100 4 (sharedW w k) := (sharedPairs_ok hw hk).gath (by decide)
/-! ### layers -/
def sgnI (k j : Nat) : Int := if (k - j) % 2 = 0 then 1 else -1
def layC (k j : Nat) : Rat := ((sgnI k j * PySem.W.mcComb k j : Int) : Rat)
def layT (w : Wish) (k : Nat) (t : Wish) (j : Nat) : Wish := gath (t ++ gath (scaleW (sharedW w j) (layC k j)))
def layW (w : Wish) (k : Nat) : Wish := (List.range (k + 1)).foldl (layT w k) []
theorem layC_fit {k j : Nat} (hk : k ≤ 2) (hj : j ≤ k) : Fit 1 (layC k j) := by
  refine fit_int ?_
  unfold sgnI
  rcases six hk hj with e | e | e | e | e | e <;> (cases e; decide +kernel)
theorem lay_ok {w : Wish} (hw : W0 w) {k : Nat} (hk : k ≤ deg w) : ∀ j, j ≤ k + 1 → WK (100 * j) (10 + j) ((List.range j).foldl (layT w k) [])
  | 0, _ => ⟨Nat.zero_le _, fun p hp => by simp at hp, fun p hp => by simp at hp⟩
  | j + 1, h => by
    have ih := lay_ok hw hk j (by omega)
    rw [List.range_succ, List.foldl_append]
    have h1 : WK 100 (10 + j) (gath (scaleW (sharedW w j) (layC k j))) := (((sharedW_ok hw (k := j) (by omega)).scale (layC_fit (by have := hw.deg; omega) (by omega))).gath (by decide)).mono (Nat.le_refl _) (by omega)
    have h2 := (ih.app h1).gath (by have := hw.deg; omega)
    exact h2.mono (by omega) (by omega)
theorem layW_ok {w : Wish} (hw : W0 w) {k : Nat} (hk : k ≤ deg w) : WK 300 13 (layW w k) := (lay_ok hw hk (k + 1) (Nat.le_refl _)).mono (by have := hw.deg; omega) (by have := hw.deg; omega)
def shareN (d n k : Nat) : Rat := Rat.divInt (PySem.W.mcComb d k ^ 2) (PySem.W.mcComb n k)
def sharesL (d n : Nat) : List Rat := (List.range d).map fun i => shareN d n (i + 1)
def bestT (w : Wish) (n : Nat) (t : Wish) (i : Nat) : Wish := gath (t ++ gath (scaleW (layW w (i + 1)) (shareN (deg w) n (i + 1))))
def bestS (w : Wish) (n : Nat) : Wish := (List.range (deg w)).foldl (bestT w n) []
theorem share_small {d n k : Nat} (hd : d ≤ 2) (hn : n ≤ 3) (hdn : d ≤ n) (hk : k ≤ d) : Fit 1 (shareN d n k) := by
  refine fit_dec ?_
  unfold shareN
  have : n = 0 ∨ n = 1 ∨ n = 2 ∨ n = 3 := by omega
  rcases this with e' | e' | e' | e' <;> subst e' <;> rcases six hd hk with e | e | e | e | e | e <;> cases e <;> first | (exfalso; omega) | decide +kernel
theorem best_ok {w : Wish} (hw : W0 w) {n : Nat} (hn : n ≤ 3) (hdn : deg w ≤ n) : ∀ j, j ≤ deg w → WK (300 * j) (20 + j) ((List.range j).foldl (bestT w n) [])
  | 0, _ => ⟨Nat.zero_le _, fun p hp => by simp at hp, fun p hp => by simp at hp⟩
  | j + 1, h => by
    have ih := best_ok hw hn hdn j (by omega)
    rw [List.range_succ, List.foldl_append]
    have h1 : WK 300 (20 + j) (gath (scaleW (layW w (j + 1)) (shareN (deg w) n (j + 1)))) := (((layW_ok hw (k := j + 1) h).scale (share_small hw.deg hn hdn h)).gath (by decide)).mono (Nat.le_refl _) (by omega)
    have h2 := (ih.app h1).gath (by have := hw.deg; omega)
    exact h2.mono (by omega) (by omega)
theorem bestS_ok {w : Wish} (hw : W0 w) {n : Nat} (hn : n ≤ 3) (hdn : deg w ≤ n) : WK 600 22 (bestS w n) := (best_ok hw hn hdn (deg w) (Nat.le_refl _)).mono (by have := hw.deg; omega) (by have := hw.deg; omega)
end DW

/-! Pr10: the walks of the layers, the shares, the best spread. -/
namespace DW
open PySem PySem.Spec PyProof.Rows L2 DM
theorem range_split {n : Nat} {pre suf : List Nat} {j : Nat} (e : List.range n = pre ++ j :: suf) : pre = List.range j ∧ j < n := by
  have hl : pre.length < n := by
    have := congrArg List.length e
    rw [List.length_range, List.length_append, List.length_cons] at this
    omega
  have h1 : (List.range n)[pre.length]? = some j := by rw [e, List.getElem?_append_right (Nat.le_refl _)]; simp
  rw [List.getElem?_range hl] at h1
  have h2 : pre.length = j := by simpa using h1
  have h3 : (List.range n).take pre.length = pre := by rw [e, List.take_left]
  refine ⟨?_, by omega⟩
  rw [← h3, h2, List.take_range]
  congr 1
  omega
theorem rng0 (n : Nat) : rangeD 0 ((n : Int)).toNat = (List.range n).map eN := by
  unfold rangeD
  rw [Int.toNat_natCast]
  refine List.map_congr_left fun i _ => ?_
  rw [Int.zero_add]
theorem rng1 (n : Nat) : rangeD 1 n = (List.range n).map fun i => eN (i + 1) := by
  unfold rangeD
  refine List.map_congr_left fun i _ => ?_
  show PyData.int _ = PyData.int _
  congr 1
  omega
theorem W0.few {w : Wish} (h : W0 w) : FewW w := ⟨by have := h.len; omega, fun p hp => ⟨by have := deg_le hp; have := h.deg; omega, fun m hm => by have := (h.mom p hp m hm).1; omega⟩⟩
theorem W0.l3 {w : Wish} (h : W0 w) : w.length ≤ 1000 := by have := h.len; omega
theorem sgn_eq {k j : Nat} (h : j ≤ k) : (if (((k : Int) - (j : Int)) % 2 == 0) = true then PyData.int 1 else .int (-1)) = .int (sgnI k j) := by
  unfold sgnI
  by_cases e : (k - j) % 2 = 0
  · rw [if_pos e, if_pos (by rw [beq_iff_eq]; omega)]
  · rw [if_neg e, if_neg (by rw [beq_iff_eq]; omega)]
theorem sgn_abs (k j : Nat) : (sgnI k j).natAbs < 2 ^ 1 := by
  unfold sgnI
  split <;> decide
section
variable {P : Program} {w : World} {K : PySem.W.Frag} {mg : Str → Option Value} {base : Heap}
def R_shMean (ds : List PyData) (d : PyData) : Prop := ∃ (w : Wish) (k : Nat), ds = [eW w, .int k] ∧ W0 w ∧ k ≤ deg w ∧ d = eW (sharedW w k)
theorem ok_shared_mean (D : Df K mg "shared_mean" s_shared_mean) (G1 : Fn P w K mg base 1 "wish_degree" (spP K R_degree)) (G2 : ∀ n, Fn P w K mg base (n + 1) "tuple_of" (spP K (R_tupleOf n))) (G3 : Fn P w K mg base 4 "_shared" (spP K R_shared)) : Fn P w K mg base 6 "shared_mean" (spP K R_shMean) := by
  refine fn_pure (k := 5) D sc_shared_mean ?_ (fun _ _ _ _ _ _ us hl => match us, hl with | [_, _], _ => by kernel_rfl) ?_
  · rintro ds d ⟨a, b, rfl, _⟩
    rfl
  · rintro f cdv A outer s H E ds d hr ⟨w, k, rfl, hw, hk, rfl⟩
    refine ⟨[], bj_cons (sj_set 0 sc_shared_mean.nd (ev_call (G2 4) hr (av_cons (ev_name 0 rfl) av_nil) ⟨_, rfl, tt_eW hw.few, rfl⟩)) (bj_cons (sj_if (tv_not (tv_chain op_le op_le ov_B0 ov_B0 ev_int (ev_name 1 rfl) (ev_call G1 hr (av_cons (ev_name 0 rfl) av_nil) ⟨w, rfl, hw.l3, rfl⟩))) (fun z => ?_) fun _ => bj_nil)
      (bj_one (sj_ret (ev_call G3 hr (av_cons (ev_name 0 rfl) (av_cons (ev_name 1 rfl) av_nil)) ⟨w, k, rfl, hw, hk, rfl⟩))))⟩
    rw [decide_eq_true (by omega), decide_eq_true (by omega)] at z
    cases z
def R_lay (lo : Nat) (ds : List PyData) (d : PyData) : Prop := ∃ (w : Wish) (k : Nat), ds = [eW w, .int k] ∧ W0 w ∧ lo ≤ k ∧ k ≤ deg w ∧ d = eW (layW w k)
theorem ok__layer (D : Df K mg "_layer" s__layer) (G1 : Fn P w K mg base 4 "_shared" (spP K R_shared)) (G2 : Fn P w K mg base 6 "wish_plus" (spP K R_plusW)) (G3 : Fn P w K mg base 6 "wish_scaled" (spP K R_scale)) (m1 : mg "range" = none) (m2 : mg "comb" = some (.builtin "math.comb")) : Fn P w K mg base 7 "_layer" (spP K (R_lay 0)) := by
  refine fn_pure (k := 6) D sc__layer ?_ (fun _ _ _ _ _ _ us hl => match us, hl with | [_, _], _ => by kernel_rfl) ?_
  · rintro ds d ⟨a, b, rfl, _⟩
    rfl
  · rintro f cdv A outer s H E ds d hr ⟨w, k, rfl, hw, _, hk, rfl⟩
    have hd := hw.deg
    refine ⟨[], bj_cons (sj_set 2 sc__layer.nd (ev_tup av_nil)) (bj_cons (sj_for (iv_eq (iv_range m1 (ev_add (ev_name 1 rfl) ev_int) (by omega) (by omega)) (rng0 (k + 1))) (for_pre eN (fun pre => [.d (eW w), .d (.int k), .d (eW (pre.foldl (layT w k) [])), .u, .u]) (fun _ => []) (List.range (k + 1)) fun pre j suf e => ?_)) (bj_one (sj_ret (ev_name 2 rfl))))⟩
    obtain ⟨rfl, hj⟩ := range_split e
    have hjk : j ≤ k := by omega
    obtain ⟨c1, c2, _, _⟩ := cp_small (d := k) (k := j) (by omega) hjk
    have hT := lay_ok hw hk j (by omega)
    have hS := sharedW_ok hw (k := j) (by omega)
    have hC := layC_fit (k := k) (j := j) (by omega) hjk
    have hs2 : WK 100 13 (gath (scaleW (sharedW w j) (layC k j))) := ((hS.scale hC).gath (by decide)).mono (Nat.le_refl _) (by omega)
    have hT2 := hT.mono (m := 300) (j := 13) (by omega) (by omega)
    refine ⟨_, _, [.d (eW w), .d (.int k), .d (eW (layT w k ((List.range j).foldl (layT w k) []) j)), .d (.int j), .d (.int (sgnI k j))], gv_name 3 sc__layer.nd, bj_cons (sj_set 4 sc__layer.nd (ev_eq (ev_if (tv_cmp op_eq ov_eqI (ev_mod (by decide) (ev_sub (ev_name 1 rfl) (ev_name 3 rfl)) ev_int) ev_int) (fun _ => ev_int) (fun _ => ev_neg ev_int)) (sgn_eq hjk)))
      (bj_one (sj_set 2 sc__layer.nd (ev_call G2 hr (av_cons (ev_name 2 rfl) (av_cons (ev_call G3 hr (av_cons (ev_call G1 hr (av_cons (ev_name 0 rfl) (av_cons (ev_name 3 rfl) av_nil)) ⟨w, j, rfl, hw, by omega, rfl⟩) (av_cons (ev_tup (av_cons (ev_mul ?_ (ev_name 4 rfl) (ev_comb m2 (av_cons (ev_name 1 rfl) (av_cons (ev_name 3 rfl) av_nil)) (by omega) (by omega) (by omega) (by omega))) (av_cons ev_int av_nil))) av_nil)) ⟨sharedW w j, layC k j, 4, rfl, hS.few (by decide), by decide, hS.fit, hC.mono (by decide), rfl⟩) av_nil))
        ⟨_, _, 13, rfl, hT2.few (by decide), hs2.few (by decide), by decide, hT2.fit, hs2.fit, rfl⟩))), ?_⟩
    · exact wide_mul (a := 1) (b := 2) (sgn_abs k j) (by omega) (by decide) (by decide) (by decide)
    · rw [List.foldl_append]
      exact .keep (.keep (.keep (.drop (.drop .nil))))
theorem ok_layer (D : Df K mg "layer" s_layer) (G1 : Fn P w K mg base 1 "wish_degree" (spP K R_degree)) (G2 : ∀ n, Fn P w K mg base (n + 1) "tuple_of" (spP K (R_tupleOf n))) (G3 : Fn P w K mg base 7 "_layer" (spP K (R_lay 0))) : Fn P w K mg base 8 "layer" (spP K (R_lay 1)) := by
  refine fn_pure (k := 7) D sc_layer ?_ (fun _ _ _ _ _ _ us hl => match us, hl with | [_, _], _ => by kernel_rfl) ?_
  · rintro ds d ⟨a, b, rfl, _⟩
    rfl
  · rintro f cdv A outer s H E ds d hr ⟨w, k, rfl, hw, h1, hk, rfl⟩
    refine ⟨[], bj_cons (sj_set 0 sc_layer.nd (ev_call (G2 4) hr (av_cons (ev_name 0 rfl) av_nil) ⟨_, rfl, tt_eW hw.few, rfl⟩)) (bj_cons (sj_if (tv_not (tv_chain op_le op_le ov_B0 ov_B0 ev_int (ev_name 1 rfl) (ev_call G1 hr (av_cons (ev_name 0 rfl) av_nil) ⟨w, rfl, hw.l3, rfl⟩))) (fun z => ?_) fun _ => bj_nil)
      (bj_one (sj_ret (ev_call G3 hr (av_cons (ev_name 0 rfl) (av_cons (ev_name 1 rfl) av_nil)) ⟨w, k, rfl, hw, Nat.zero_le _, hk, rfl⟩))))⟩
    rw [decide_eq_true (by omega), decide_eq_true (by omega)] at z
    cases z
def layVals (w : Wish) (s : Src) : List Rat := (List.range (deg w)).map fun i => wishVal s (layW w (i + 1))
def R_laysAt (ds : List PyData) (xs : List PyData) : Prop := ∃ (w : Wish) (s : Src), ds = [eW w, eS s] ∧ W0 w ∧ SrcOk s ∧ xs = (layVals w s).map rd
theorem ok_layers_at (D : Df K mg "layers_at" s_layers_at) (G1 : Fn P w K mg base 1 "wish_degree" (spP K R_degree)) (G2 : ∀ n, Fn P w K mg base (n + 1) "tuple_of" (spP K (R_tupleOf n))) (G3 : Fn P w K mg base 7 "_layer" (spP K (R_lay 0))) (G4 : Fn P w K mg base 7 "wish_value" (spP K R_wishVal)) (m1 : mg "range" = none) : Fn P w K mg base 8 "layers_at" (spL K R_laysAt) := by
  refine fn_list (k := 7) D sc_layers_at ?_ (fun _ _ _ _ _ _ us hl => match us, hl with | [_, _], _ => by kernel_rfl) ?_
  · rintro ds d ⟨a, b, rfl, _⟩
    rfl
  · rintro f cdv A outer s H E ds xs hr ⟨w, src, rfl, hw, hs, rfl⟩
    have hd := hw.deg
    have er : rangeD 1 (((deg w : Int) + 1) - 1).toNat = (List.range (deg w)).map fun i => eN (i + 1) := by
      rw [show ((deg w : Int) + 1 - 1).toNat = deg w by omega]
      exact rng1 _
    have e2 : (layVals w src).map rd = (List.range (deg w)).map fun i => rd (wishVal src (layW w (i + 1))) := by
      unfold layVals
      rw [List.map_map]
      rfl
    rw [e2]
    refine bj_cons (sj_set 0 sc_layers_at.nd (ev_call (G2 4) hr (av_cons (ev_name 0 rfl) av_nil) ⟨_, rfl, tt_eW hw.few, rfl⟩)) (bj_one (sj_retF (ef_lc (own := [("k", 2)]) sc_layers_at.nd (iv_eq (iv_range2 m1 (av_cons ev_int (av_cons (ev_add (ev_call G1 hr (av_cons (ev_name 0 rfl) av_nil) ⟨w, rfl, hw.l3, rfl⟩) ev_int) av_nil)) ⟨by omega, by omega, by omega, by omega⟩) er) (blkOk_by (by kernel_rfl))
      (lc_all (fun i => eN (i + 1)) (fun i => rd (wishVal src (layW w (i + 1)))) (fun i => [.d (eW w), .d (eS src), .d (eN (i + 1))]) (is := [2]) (by simp) (List.range (deg w)) (fun z hz s H C cl fp => gv_name 2 sc_layers_at.nd)
        (fun z hz s H C cl fp => ev_call G4 hr (av_cons (ev_call G3 hr (av_cons (ev_name 0 rfl) (av_cons (ev_name 2 rfl) av_nil)) ⟨w, z + 1, rfl, hw, Nat.zero_le _, List.mem_range.mp hz, rfl⟩) (av_cons (ev_name 1 rfl) av_nil)) ⟨_, src, 13, rfl, (layW_ok hw (List.mem_range.mp hz)).ok (by decide), hs, by decide, rfl⟩)) ?_)))
    rw [List.length_map, List.length_range]
    omega
/-! ### shares -/
def R_shares (ds : List PyData) (xs : List PyData) : Prop := ∃ d n : Nat, ds = [.int d, .int n] ∧ d ≤ 2 ∧ d ≤ n ∧ n ≤ 1000 ∧ xs = (sharesL d n).map rd
theorem comb_le {n k : Nat} (hk : k ≤ n) (h : n ≤ 1000) (h2 : k ≤ 2) : (0 : Int) < PySem.W.mcComb n k ∧ (PySem.W.mcComb n k : Int) ≤ 1000000 := by
  have h0 := PySem.W.mcComb_pos (a := (n : Int)) (b := (k : Int)) (by omega) (by omega)
  refine ⟨by omega, ?_⟩
  have : k = 0 ∨ k = 1 ∨ k = 2 := by omega
  rcases this with rfl | rfl | rfl
  · have := PySem.W.mcComb_ends (a := (n : Int)) (b := 0) (by decide) (by omega) (.inl rfl)
    show PySem.W.mcComb n 0 ≤ _
    omega
  · have := PySem.W.mcComb_one (a := (n : Int)) (by omega)
    show PySem.W.mcComb n 1 ≤ _
    omega
  · have h1 := PySem.W.mcComb_two (a := (n : Int)) (by omega)
    have h2 : (n : Int) * ((n : Int) - 1) ≤ 1000 * 1000 := Int.mul_le_mul (by omega) (by omega) (by omega) (by decide)
    show PySem.W.mcComb n 2 ≤ _
    omega
theorem ok__shares (D : Df K mg "_shares" s__shares) (G1 : Fn P w K mg base 1 "fraction" (spP K R_fraction)) (m1 : mg "range" = none) (m2 : mg "comb" = some (.builtin "math.comb")) : Fn P w K mg base 2 "_shares" (spL K R_shares) := by
  refine fn_list (k := 1) D sc__shares ?_ (fun _ _ _ _ _ _ us hl => match us, hl with | [_, _], _ => by kernel_rfl) ?_
  · rintro ds d ⟨a, b, rfl, _⟩
    rfl
  · rintro f cdv A outer s H E ds xs hr ⟨d, n, rfl, hd, hdn, hn, rfl⟩
    have er : rangeD 1 (((d : Int) + 1) - 1).toNat = (List.range d).map fun i => eN (i + 1) := by
      rw [show ((d : Int) + 1 - 1).toNat = d by omega]
      exact rng1 _
    have e2 : (sharesL d n).map rd = (List.range d).map fun i => rd (shareN d n (i + 1)) := by
      unfold sharesL
      rw [List.map_map]
      rfl
    rw [e2]
    refine bj_one (sj_retF (ef_lc (own := [("k", 2)]) sc__shares.nd (iv_eq (iv_range2 m1 (av_cons ev_int (av_cons (ev_add (ev_name 0 rfl) ev_int) av_nil)) ⟨by omega, by omega, by omega, by omega⟩) er) (blkOk_by (by kernel_rfl))
      (lc_all (fun i => eN (i + 1)) (fun i => rd (shareN d n (i + 1))) (fun i => [.d (.int d), .d (.int n), .d (eN (i + 1))]) (is := [2]) (by simp) (List.range d) (fun z hz s H C cl fp => gv_name 2 sc__shares.nd) (fun z hz s H C cl fp => ?_)) ?_))
    · have hz' := List.mem_range.mp hz
      obtain ⟨c1, c2, _, _⟩ := cp_small (d := d) (k := z + 1) hd (by omega)
      obtain ⟨c3, c4⟩ := comb_le (n := n) (k := z + 1) (by omega) hn (by omega)
      refine ev_call G1 hr (av_cons (ev_pow ?_ (ev_comb m2 (av_cons (ev_name 0 rfl) (av_cons (ev_name 2 rfl) av_nil)) (by omega) (by omega) (by omega) (by omega)) ev_int) (av_cons (ev_comb m2 (av_cons (ev_name 1 rfl) (av_cons (ev_name 2 rfl) av_nil)) (by omega) (by omega) (by omega) (by omega)) av_nil)) ⟨_, _, rfl, c3, ?_, rfl⟩
      · exact ⟨by decide, by decide, by omega⟩
      · have h2 : (2 : Nat) ^ 20 ≤ 2 ^ 8999 := Nat.pow_le_pow_right (by decide) (by decide)
        omega
    · rw [List.length_map, List.length_range]
      omega
def R_layShares (ds : List PyData) (xs : List PyData) : Prop := ∃ (w : Wish) (n : Nat), ds = [eW w, .int n] ∧ W0 w ∧ deg w ≤ n ∧ n ≤ 1000 ∧ xs = (sharesL (deg w) n).map rd
theorem ok_layer_shares (D : Df K mg "layer_shares" s_layer_shares) (G1 : Fn P w K mg base 1 "wish_degree" (spP K R_degree)) (G2 : Fn P w K mg base 2 "_shares" (spL K R_shares)) : Fn P w K mg base 3 "layer_shares" (spL K R_layShares) := by
  refine fn_list (k := 2) D sc_layer_shares ?_ (fun _ _ _ _ _ _ us hl => match us, hl with | [_, _], _ => by kernel_rfl) ?_
  · rintro ds d ⟨a, b, rfl, _⟩
    rfl
  · rintro f cdv A outer s H E ds xs hr ⟨w, n, rfl, hw, h1, h2, rfl⟩
    refine bj_cons (sj_set 2 sc_layer_shares.nd (ev_call G1 hr (av_cons (ev_name 0 rfl) av_nil) ⟨w, rfl, hw.l3, rfl⟩)) (bj_cons (sj_if (tv_cmp op_lt ov_B0 (ev_name 1 rfl) (ev_name 2 rfl)) (fun z => ?_) fun _ => bj_nil)
      (bj_one (sj_retF (ef_call G2 hr (av_cons (ev_name 2 rfl) (av_cons (ev_name 1 rfl) av_nil)) ⟨deg w, n, rfl, hw.deg, h1, h2, rfl⟩))))
    have z' := of_decide_eq_true z
    omega
def R_best (ds : List PyData) (d : PyData) : Prop := ∃ (w : Wish) (n : Nat), ds = [eW w, .int n] ∧ W0 w ∧ deg w ≤ n ∧ n ≤ 3 ∧ d = eW (bestS w n)
theorem ok_best_spread (D : Df K mg "best_spread" s_best_spread) (G1 : ∀ n, Fn P w K mg base (n + 1) "tuple_of" (spP K (R_tupleOf n))) (G2 : Fn P w K mg base 3 "layer_shares" (spL K R_layShares)) (G3 : Fn P w K mg base 7 "_layer" (spP K (R_lay 0))) (G4 : Fn P w K mg base 6 "wish_plus" (spP K R_plusW)) (G5 : Fn P w K mg base 6 "wish_scaled" (spP K R_scale)) (m1 : mg "enumerate" = none) : Fn P w K mg base 8 "best_spread" (spP K R_best) := by
  refine fn_pure (k := 7) D sc_best_spread ?_ (fun _ _ _ _ _ _ us hl => match us, hl with | [_, _], _ => by kernel_rfl) ?_
  · rintro ds d ⟨a, b, rfl, _⟩
    rfl
  · rintro f cdv A outer s H E ds d hr ⟨w, n, rfl, hw, h1, h2, rfl⟩
    have hd := hw.deg
    have er : (enumD ((sharesL (deg w) n).map rd)).map (fun p => pairD p.1 p.2) = (List.range (deg w)).map fun i => pairD (eN i) (rd (shareN (deg w) n (i + 1))) := by
      rw [enum_map]
      unfold sharesL
      apply List.ext_getElem?
      intro i
      simp only [List.getElem?_map, List.getElem?_zipIdx, List.getElem?_range', Option.map_map]
      by_cases hi : i < deg w
      · simp [hi]
      · simp [hi]
    refine ⟨[], bj_cons (sj_par 0 2 sc_best_spread.nd (av_cons (ev_call (G1 4) hr (av_cons (ev_name 0 rfl) av_nil) ⟨_, rfl, tt_eW hw.few, rfl⟩) (av_cons (ev_tup av_nil) av_nil))) (bj_cons (sj_for (iv_eq (iv_enumL m1 (ev_of_ef (ef_call G2 hr (av_cons (ev_name 0 rfl) (av_cons (ev_name 1 rfl) av_nil)) ⟨w, n, rfl, hw, h1, by omega, rfl⟩))) er)
      (for_pre (fun i => pairD (eN i) (rd (shareN (deg w) n (i + 1)))) (fun pre => [.d (eW w), .d (.int n), .d (eW (pre.foldl (bestT w n) [])), .u, .u]) (fun _ => []) (List.range (deg w)) fun pre j suf e => ?_)) (bj_one (sj_ret (ev_name 2 rfl))))⟩
    obtain ⟨rfl, hj⟩ := range_split e
    have hT := (best_ok hw h2 h1 j (by omega)).mono (m := 600) (j := 23) (by omega) (by omega)
    have hL := layW_ok hw (k := j + 1) (by omega)
    have hC := share_small (d := deg w) (n := n) (k := j + 1) hd h2 h1 (by omega)
    have hs2 : WK 300 23 (gath (scaleW (layW w (j + 1)) (shareN (deg w) n (j + 1)))) := ((hL.scale hC).gath (by decide)).mono (Nat.le_refl _) (by omega)
    refine ⟨_, _, [.d (eW w), .d (.int n), .d (eW (bestT w n ((List.range j).foldl (bestT w n) []) j)), .d (.int j), .d (rd (shareN (deg w) n (j + 1)))], gv_pair 3 4 sc_best_spread.nd,
      bj_one (sj_set 2 sc_best_spread.nd (ev_call G4 hr (av_cons (ev_name 2 rfl) (av_cons (ev_call G5 hr (av_cons (ev_call G3 hr (av_cons (ev_name 0 rfl) (av_cons (ev_add (ev_name 3 rfl) ev_int) av_nil)) ⟨w, j + 1, rfl, hw, Nat.zero_le _, by omega, rfl⟩) (av_cons (ev_name 4 rfl) av_nil)) ⟨layW w (j + 1), _, 13, rfl, hL.few (by decide), by decide, hL.fit, hC.mono (by decide), rfl⟩) av_nil))
        ⟨_, _, 23, rfl, hT.few (by decide), hs2.few (by decide), by decide, hT.fit, hs2.fit, rfl⟩)), ?_⟩
    rw [List.foldl_append]
    exact .keep (.keep (.keep (.drop (.drop .nil))))
end
end DW

/-! Pr11: how many samples are enough. -/
namespace DW
open PySem PySem.Spec PyProof.Rows L2 DM
def spList (d n : Nat) (V : List Rat) : List Rat := ((sharesL d n).zip V).map fun p => p.1 * p.2
def spV (d n : Nat) (V : List Rat) : Rat := rsum (spList d n V)
structure SpSz (d n : Nat) (V : List Rat) : Prop where
  two : ∀ p ∈ (sharesL d n).zip V, Sz p.1 ∧ Sz p.2
  all : ∀ x ∈ spList d n V, Sz x
  pre : ∀ q, q <+: spList d n V → Sz (rsum q)
section
variable {X : Cx} {c : Expr} {body : List Stmt} {R : Int → Int → List SV} {d due : Nat} {T : Nat → Bool}
theorem en_one (h1 : ∀ n, d ≤ n → n < due → T n = true) (h2 : ∀ n, due ≤ n → n ≤ 1000 → T n = false) (hdue : due ≤ 200)
    (ht : ∀ (lo : Int) (hi : Nat), d ≤ hi → hi ≤ 1000 → TV X c (R lo hi) [] (T hi) [])
    (hb : ∀ (lo : Int) (hi : Nat), hi ≤ 1000 → BJ X 0 body (R lo hi) [] (.nx (R hi (2 * (hi : Int))) [])) (hw : ∀ lo hi, Wk (R lo hi) (R lo hi)) :
    ∀ (m : Nat) (lo : Int) (hi : Nat), due ≤ hi + m → d ≤ hi → 1 ≤ hi → hi ≤ 400 → (d : Int) - 1 ≤ lo → lo < due → lo < hi → ∃ (lo' : Int) (hi' : Nat) (n : Nat), WhR X 0 c body n (R lo hi) [] (R lo' hi') [] ∧ (d : Int) - 1 ≤ lo' ∧ lo' < due ∧ due ≤ hi' ∧ lo' < hi' ∧ hi' ≤ 400
  | m, lo, hi, e, a1, a2, a3, a4, a5, a6 => by
    by_cases h : due ≤ hi
    · exact ⟨lo, hi, 0, .stop (by have := ht lo hi a1 (by omega); rw [h2 hi h (by omega)] at this; exact this) (hw _ _), a4, a5, h, a6, a3⟩
    · match m, e with
      | 0, e => omega
      | m + 1, e =>
        obtain ⟨lo', hi', n, g1, g2⟩ := en_one h1 h2 hdue ht hb hw m (hi : Int) (2 * hi) (by omega) (by omega) (by omega) (by omega) (by omega) (by omega) (by omega)
        exact ⟨lo', hi', n + 1, .step (by have := ht lo hi a1 (by omega); rw [h1 hi a1 (by omega)] at this; exact this) (hb lo hi (by omega)) (hw _ _) (by rw [Int.natCast_mul] at g1; exact g1), g2⟩
theorem en_two (h1 : ∀ n, d ≤ n → n < due → T n = true) (h2 : ∀ n, due ≤ n → n ≤ 1000 → T n = false)
    (ht : ∀ (lo : Int) (hi : Nat), TV X c (R lo hi) [] (decide ((hi : Int) - lo > 1)) [])
    (hb : ∀ (lo : Int) (hi mid : Nat), (lo + hi) / 2 = (mid : Int) → d ≤ mid → mid ≤ 1000 → ∃ ρ1, BJ X 0 body (R lo hi) [] (.nx ρ1 []) ∧ Wk ρ1 (if T mid = true then R mid hi else R lo mid)) (hw : ∀ lo, Wk (R lo due) ρ') :
    ∀ (m : Nat) (lo : Int) (hi : Nat), hi ≤ lo + m → (d : Int) - 1 ≤ lo → lo < due → due ≤ hi → hi ≤ 400 → ∃ n, WhR X 0 c body n (R lo hi) [] ρ' []
  | m, lo, hi, e, a1, a2, a3, a4 => by
    by_cases h : (hi : Int) - lo > 1
    · match m, e with
      | 0, e => omega
      | m + 1, e =>
        have hm : (lo + hi) / 2 = ((((lo + hi) / 2).toNat : Nat) : Int) := by omega
        generalize hg : ((lo + hi) / 2).toNat = mid at hm
        obtain ⟨ρ1, b1, b2⟩ := hb lo hi mid hm (by omega) (by omega)
        by_cases hd : mid < due
        · rw [h1 mid (by omega) hd, if_pos rfl] at b2
          obtain ⟨n, g⟩ := en_two h1 h2 ht hb hw m (mid : Int) hi (by omega) (by omega) (by omega) a3 a4
          exact ⟨n + 1, .step (by have := ht lo hi; rw [decide_eq_true h] at this; exact this) b1 b2 g⟩
        · rw [h2 mid (by omega) (by omega), if_neg (by decide)] at b2
          obtain ⟨n, g⟩ := en_two h1 h2 ht hb hw m lo mid (by omega) a1 a2 (by omega) (by omega)
          exact ⟨n + 1, .step (by have := ht lo hi; rw [decide_eq_true h] at this; exact this) b1 b2 g⟩
    · have e2 : hi = due := by omega
      subst e2
      exact ⟨0, .stop (by have := ht lo hi; rw [decide_eq_false h] at this; exact this) (hw lo)⟩
theorem en_both {rest : List Stmt} {c2 : Expr} {body2 : List Stmt} {p1 p2 : Pos} {r : Rs} {ρ0 : List SV} (lo : Int) (hi : Nat) (e0 : ρ0 = R lo hi) (h1 : ∀ n, d ≤ n → n < due → T n = true) (h2 : ∀ n, due ≤ n → n ≤ 1000 → T n = false) (hdue : due ≤ 200) (hw : ∀ lo hi, Wk (R lo hi) (R lo hi)) (hw2 : ∀ lo, Wk (R lo due) ρ')
    (a1 : d ≤ hi) (a2 : 1 ≤ hi) (a3 : hi ≤ 400) (a4 : (d : Int) - 1 ≤ lo) (a5 : lo < due) (a6 : lo < hi)
    (ht : ∀ (lo : Int) (hi : Nat), d ≤ hi → hi ≤ 1000 → TV X c (R lo hi) [] (T hi) [])
    (hb : ∀ (lo : Int) (hi : Nat), hi ≤ 1000 → BJ X 0 body (R lo hi) [] (.nx (R hi (2 * (hi : Int))) []))
    (ht2 : ∀ (lo : Int) (hi : Nat), TV X c2 (R lo hi) [] (decide ((hi : Int) - lo > 1)) [])
    (hb2 : ∀ (lo : Int) (hi mid : Nat), (lo + hi) / 2 = (mid : Int) → d ≤ mid → mid ≤ 1000 → ∃ ρ1, BJ X 0 body2 (R lo hi) [] (.nx ρ1 []) ∧ Wk ρ1 (if T mid = true then R mid hi else R lo mid))
    (hr : BJ X 0 rest ρ' [] r) (q1 : PassesOwn (model X.prog X.w) X.A X.env X.xe := by exact PassesOwn.never) : BJ X 0 (.While c body [] p1 :: .While c2 body2 [] p2 :: rest) ρ0 [] r := by
  obtain ⟨lo', hi', n1, g1, g2, g3, g4, g5, g6⟩ := en_one h1 h2 hdue ht hb hw due lo hi (by omega) a1 a2 a3 a4 a5 a6
  obtain ⟨n2, t1⟩ := en_two h1 h2 ht2 hb2 hw2 (hi' + 1) lo' hi' (by omega) g2 g3 g4 g6
  subst e0
  exact bj_cons (sj_while g1 q1) (bj_cons (sj_while t1 q1) hr)
end
section
variable {P : Program} {w : World} {K : PySem.W.Frag} {mg : Str → Option Value} {base : Heap}
def R_enough (ds : List PyData) (d : PyData) : Prop := ∃ (w : Wish) (s : Src) (most : Rat) (due : Nat), ds = [eW w, eS s, rd most] ∧ W0 w ∧ SrcOk s ∧ Sz most ∧ deg w ≤ due ∧ due ≤ 200 ∧ (∀ n, deg w ≤ n → n < due → most < spV (deg w) n (layVals w s)) ∧ (∀ n, due ≤ n → n ≤ 1000 → ¬ most < spV (deg w) n (layVals w s)) ∧ (∀ n, deg w ≤ n → n ≤ 1000 → SpSz (deg w) n (layVals w s)) ∧ d = .int due
theorem ok_enough (D : Df K mg "enough_samples" s_enough_samples) (G1 : Fn P w K mg base 1 "wish_degree" (spP K R_degree)) (G2 : Fn P w K mg base 8 "layers_at" (spL K R_laysAt)) (G3 : Fn P w K mg base 1 "is_less" (spP K R_isLess)) (G4 : Fn P w K mg base 3 "sum_of" (spP K R_sum)) (G5 : Fn P w K mg base 2 "times" (spP K (R_two (· * ·)))) (G6 : Fn P w K mg base 2 "_shares" (spL K R_shares)) (m1 : mg "max" = none) (m2 : mg "zip" = none) : Fn P w K mg base 9 "enough_samples" (spP K R_enough) := by
  refine fn_pure (k := 8) D sc_enough_samples ?_ (fun _ _ _ _ _ _ us hl => match us, hl with | [_, _, _], _ => by kernel_rfl) ?_
  · rintro ds d ⟨a, b, c, e, rfl, _⟩
    rfl
  · rintro f cdv A outer s H E ds d hr ⟨w, src, most, due, rfl, hw, hs, hm, u1, u2, u3, u4, u5, rfl⟩
    have hd := hw.deg
    generalize hV : layVals w src = V at u3 u4 u5
    have k1 : ∀ n, deg w ≤ n → n < due → (fun n => decide (most < spV (deg w) n V)) n = true := fun n a b => decide_eq_true (u3 n a b)
    have k2 : ∀ n, due ≤ n → n ≤ 1000 → (fun n => decide (most < spV (deg w) n V)) n = false := fun n a b => decide_eq_false (u4 n a b)
    have ez : ∀ n, (((sharesL (deg w) n).map rd).zip (V.map rd)).map (fun p => pairD p.1 p.2) = ((sharesL (deg w) n).zip V).map fun p => pairD (rd p.1) (rd p.2) := fun n => by
      rw [List.zip_map, List.map_map]
      rfl
    have el : ∀ n, ((sharesL (deg w) n).zip V).map (fun p => rd (p.1 * p.2)) = (spList (deg w) n V).map rd := fun n => by
      unfold spList
      rw [List.map_map]
      rfl
    have ll : ∀ n, (((sharesL (deg w) n).zip V).map (fun p => rd (p.1 * p.2))).length ≤ 1000000 := fun n => by
      rw [List.length_map, List.length_zip]
      unfold sharesL
      rw [List.length_map, List.length_range]
      omega
    have hmax : (if (1 : Int) > (deg w : Int) then (1 : Int) else (deg w : Int)) = ((if deg w = 0 then 1 else deg w : Nat) : Int) := by
      by_cases h : deg w = 0
      · rw [if_pos h, if_pos (by omega)]; rfl
      · rw [if_neg h, if_neg (by omega)]
    refine ⟨[], bj_cons (sj_par 3 4 sc_enough_samples.nd (av_cons (ev_call G1 hr (av_cons (ev_name 0 rfl) av_nil) ⟨w, rfl, hw.l3, rfl⟩) (av_cons (ev_of_ef (ef_call G2 hr (av_cons (ev_name 0 rfl) (av_cons (ev_name 1 rfl) av_nil)) ⟨w, src, rfl, hw, hs, by rw [hV]⟩)) av_nil)))
      (bj_cons (sj_par 5 6 sc_enough_samples.nd (av_cons (ev_sub (ev_name 3 rfl) ev_int) (av_cons (ev_eq (ev_max2 m1 (av_cons (ev_name 3 rfl) (av_cons ev_int av_nil))) (congrArg PyData.int hmax)) av_nil)))
      (en_both (R := fun lo hi : Int => [SV.d (eW w), .d (eS src), .d (rd most), .d (.int (deg w)), .d (.list (V.map rd)), .d (.int lo), .d (.int hi), .u, .u, .u]) (d := deg w) (due := due) (T := fun n => decide (most < spV (deg w) n V)) (ρ' := [SV.d (eW w), .d (eS src), .d (rd most), .d (.int (deg w)), .d (.list (V.map rd)), .u, .d (.int due), .u, .u, .u])
        ((deg w : Int) - 1) (if deg w = 0 then 1 else deg w) rfl k1 k2 u2 (fun lo hi => Wk.refl _) (fun lo => .keep (.keep (.keep (.keep (.keep (.drop (.keep (.keep (.keep (.keep .nil))))))))))
        (by split <;> omega) (by split <;> omega) (by split <;> omega) (by omega) (by omega) (by split <;> omega) (fun lo hi a1 a2 => ?_) (fun lo hi a1 => ?_) (fun lo hi => ?_) (fun lo hi mid e a1 a2 => ?_) (bj_one (sj_ret (ev_name 6 rfl)))))⟩
    · exact tv_b (ev_call G3 hr (av_cons (ev_name 2 rfl) (av_cons (ev_call G4 hr (av_cons (ev_of_ef (ef_lc (own := [("x", 8), ("y", 9)]) sc_enough_samples.nd (iv_eq (iv_zipL m2 (av_cons (ev_of_ef (ef_call G6 hr (av_cons (ev_name 3 rfl) (av_cons (ev_name 6 rfl) av_nil)) ⟨deg w, hi, rfl, hd, a1, a2, rfl⟩)) (av_cons (ev_name 4 rfl) av_nil))) (ez hi)) (blkOk_by (by kernel_rfl))
          (lc_all (fun p : Rat × Rat => pairD (rd p.1) (rd p.2)) (fun p => rd (p.1 * p.2)) (fun p => [SV.d (eW w), .d (eS src), .d (rd most), .d (.int (deg w)), .d (.list (V.map rd)), .d (.int lo), .d (.int hi), .u, .d (rd p.1), .d (rd p.2)]) (is := [8, 9]) (by simp) _ (fun z hz s H C cl fp => gv_pair 8 9 sc_enough_samples.nd)
            (fun z hz s H C cl fp => ev_call G5 hr (av_cons (ev_name 8 rfl) (av_cons (ev_name 9 rfl) av_nil)) ⟨z.1, z.2, rfl, ((u5 hi a1 a2).two z hz).1, ((u5 hi a1 a2).two z hz).2, rfl⟩)) (ll hi))) av_nil) ⟨_, by rw [el], (u5 hi a1 a2).all, (u5 hi a1 a2).pre, rfl⟩) av_nil)) ⟨most, _, rfl, hm, (u5 hi a1 a2).pre _ (List.prefix_refl _), rfl⟩)
    · exact bj_one (sj_par 5 6 sc_enough_samples.nd (av_cons (ev_name 6 rfl) (av_cons (ev_mul (wide_mul (a := 2) (b := 10) (by decide) (by omega) (by decide) (by decide) (by decide)) ev_int (ev_name 6 rfl)) av_nil)))
    · exact tv_cmp op_gt ov_B0 (ev_sub (ev_name 6 rfl) (ev_name 5 rfl)) ev_int
    · refine ⟨if decide (most < spV (deg w) mid V) = true then [SV.d (eW w), .d (eS src), .d (rd most), .d (.int (deg w)), .d (.list (V.map rd)), .d (.int mid), .d (.int hi), .d (.int mid), .u, .u] else [SV.d (eW w), .d (eS src), .d (rd most), .d (.int (deg w)), .d (.list (V.map rd)), .d (.int lo), .d (.int mid), .d (.int mid), .u, .u],
          bj_cons (sj_set 7 sc_enough_samples.nd (ev_eq (ev_fdiv ⟨by decide, by decide⟩ (ev_add (ev_name 5 rfl) (ev_name 6 rfl)) ev_int) (congrArg PyData.int e))) (bj_one (sj_if (tv_b (ev_call G3 hr (av_cons (ev_name 2 rfl) (av_cons (ev_call G4 hr (av_cons (ev_of_ef (ef_lc (own := [("x", 8), ("y", 9)]) sc_enough_samples.nd (iv_eq (iv_zipL m2 (av_cons (ev_of_ef (ef_call G6 hr (av_cons (ev_name 3 rfl) (av_cons (ev_name 7 rfl) av_nil)) ⟨deg w, mid, rfl, hd, a1, a2, rfl⟩)) (av_cons (ev_name 4 rfl) av_nil))) (ez mid)) (blkOk_by (by kernel_rfl))
          (lc_all (fun p : Rat × Rat => pairD (rd p.1) (rd p.2)) (fun p => rd (p.1 * p.2)) (fun p => [SV.d (eW w), .d (eS src), .d (rd most), .d (.int (deg w)), .d (.list (V.map rd)), .d (.int lo), .d (.int hi), .d (.int mid), .d (rd p.1), .d (rd p.2)]) (is := [8, 9]) (by simp) _ (fun z hz s H C cl fp => gv_pair 8 9 sc_enough_samples.nd)
            (fun z hz s H C cl fp => ev_call G5 hr (av_cons (ev_name 8 rfl) (av_cons (ev_name 9 rfl) av_nil)) ⟨z.1, z.2, rfl, ((u5 mid a1 a2).two z hz).1, ((u5 mid a1 a2).two z hz).2, rfl⟩)) (ll mid))) av_nil) ⟨_, by rw [el], (u5 mid a1 a2).all, (u5 mid a1 a2).pre, rfl⟩) av_nil)) ⟨most, _, rfl, hm, (u5 mid a1 a2).pre _ (List.prefix_refl _), rfl⟩)) (fun z => ?_) (fun z => ?_))), ?_⟩
      · rw [show decide (most < spV (deg w) mid V) = true from z, if_pos rfl]
        exact bj_one (sj_set 5 sc_enough_samples.nd (ev_name 7 rfl))
      · rw [show decide (most < spV (deg w) mid V) = false from z, if_neg (by decide)]
        exact bj_one (sj_set 6 sc_enough_samples.nd (ev_name 7 rfl))
      · show Wk _ (if decide (most < spV (deg w) mid V) = true then _ else _)
        split
        · exact .keep (.keep (.keep (.keep (.keep (.keep (.keep (.drop (.keep (.keep .nil)))))))))
        · exact .keep (.keep (.keep (.keep (.keep (.keep (.keep (.drop (.keep (.keep .nil)))))))))
end
end DW

/-! Pr12: the told means, the form of a part. -/
namespace DW
open PySem PySem.Spec PyProof.Rows L2 DM
def orM (m b : Mom) : Mom := if (!m.isEmpty) = true then m else b
def ymul (s : Src) (image : List Nat) (y : Rat) (p : Mom × Nat) : Rat := if (!decide (p.2 ∈ image) && !p.1.isEmpty) = true then y * momAt s p.1 else y
def yOf (s : Src) (full : Fac) (image : List Nat) (x : Rat) : Rat := full.zipIdx.foldl (ymul s image) x
def putM (full : Fac) (b : Mom) (a : Fac) (p : Nat × Nat) : Fac := a.set p.1 (orM (full.getD p.2 []) b)
def powsOf (full : Fac) (b : Mom) (ps : List (Nat × Nat)) (k : Nat) : Fac := ps.foldl (putM full b) (List.replicate k b)
def toldIn (s : Src) (lot : List Nat) (k d : Nat) (b : Mom) (p : Fac × Rat) (image : List Nat) : Fac × Rat :=
  (powsOf (fillF p.1 d) b (lot.zip image) k, yOf s (fillF p.1 d) image (p.2 * Rat.divInt 1 (permT d lot.length).length))
def toldP (s : Src) (lot : List Nat) (k d : Nat) (b : Mom) (p : Fac × Rat) : Wish := (permT d lot.length).map (toldIn s lot k d b p)
def toldM (w : Wish) (s : Src) (lot : List Nat) (k d : Nat) (b : Mom) : Wish := w.flatMap (toldP s lot k d b)
def blankM (s : Src) : Mom := match s with
  | [] => []
  | p :: _ => List.replicate p.1.length 0
theorem orM_d (m b : Mom) : (if truD (eM m) = true then eM m else eM b) = eM (orM m b) := by
  have e : truD (eM m) = !m.isEmpty := by
    show (!(m.map eN).isEmpty) = _
    rw [isEmpty_map]
  rw [e]
  unfold orM
  split <;> rfl
theorem permT_pos {d k : Nat} (hd : d ≤ 2) (hk : k ≤ d) : 0 < (permT d k).length := by
  rcases six hd hk with e | e | e | e | e | e <;> (cases e; decide)
theorem one_fit {n : Nat} (h0 : 0 < n) (h : n ≤ 2) : Fit 1 (Rat.divInt 1 n) := by
  have : n = 1 ∨ n = 2 := by omega
  rcases this with rfl | rfl <;> exact fit_dec (by decide +kernel)
theorem yOf_fit {s : Src} (hs : SrcOk s) {image : List Nat} : ∀ (ps : List (Mom × Nat)) (x : Rat) (k : Nat), (∀ p ∈ ps, MomOk p.1) → Fit k x → Fit (k + 5 * ps.length) (ps.foldl (ymul s image) x)
  | [], x, k, _, h => h
  | p :: ps, x, k, hp, h => by
    have h1 : Fit (k + 5) (ymul s image x p) := by
      unfold ymul
      split
      · exact h.mul (momAt_fit hs (hp p List.mem_cons_self))
      · exact h.mono (by omega)
    exact (yOf_fit hs ps _ (k + 5) (fun q hq => hp q (List.mem_cons_of_mem _ hq)) h1).mono (by rw [List.length_cons]; omega)
theorem put_len (full : Fac) (b : Mom) : ∀ (ps : List (Nat × Nat)) (a : Fac), (ps.foldl (putM full b) a).length = a.length
  | [], a => rfl
  | p :: ps, a => by
    rw [List.foldl_cons, put_len full b ps]
    unfold putM
    rw [List.length_set]
theorem pows_len (full : Fac) (b : Mom) (ps : List (Nat × Nat)) (k : Nat) : (powsOf full b ps k).length = k := by
  unfold powsOf
  rw [put_len, List.length_replicate]
theorem toldP_len {d : Nat} (hd : d ≤ 2) (s : Src) {lot : List Nat} (hl : lot.length ≤ d) (k : Nat) (b : Mom) (p : Fac × Rat) : (toldP s lot k d b p).length ≤ 2 := by
  unfold toldP
  rw [List.length_map]
  exact (permT_ok hd hl).1
theorem ix_nat {n i : Nat} (h : i < n) : ixN n (i : Int) = some i := by
  unfold ixN
  rw [if_pos (by omega), if_pos (by omega), Int.toNat_natCast]
theorem rep_flat (b : PyData) (k : Nat) : (List.replicate k [b]).flatten = List.replicate k b := by
  induction k with
  | zero => rfl
  | succ k ih => rw [List.replicate_succ, List.replicate_succ, List.flatten_cons, ih]; rfl
abbrev MM (R : List PyData) (n : Nat) (ys : List PyData) : List MO := .l R :: (List.replicate n .dead ++ [MO.l ys])
theorem mm_len (R : List PyData) (n : Nat) : (MO.l R :: List.replicate n MO.dead).length = n + 1 := by rw [List.length_cons, List.length_replicate]
theorem mm_get (R ys : List PyData) (n : Nat) : (MM R n ys)[n + 1]? = some (MO.l ys) := by
  show (List.replicate n MO.dead ++ [MO.l ys])[n]? = _
  rw [List.getElem?_append_right (by rw [List.length_replicate]; omega), List.length_replicate, Nat.sub_self]
  rfl
theorem mm_set (R ys : List PyData) (o : MO) (n : Nat) : (MM R n ys).set (n + 1) o = MO.l R :: (List.replicate n MO.dead ++ [o]) := by
  show _ :: (List.replicate n MO.dead ++ [MO.l ys]).set n o = _
  rw [List.set_append_right _ _ (by rw [List.length_replicate]; omega), List.length_replicate, Nat.sub_self]
  rfl
theorem mm_dead (n : Nat) : List.replicate n MO.dead ++ [MO.dead] = List.replicate (n + 1) MO.dead := by rw [List.replicate_succ']
theorem bj_eq2 {X : Cx} {u : Nat} {sts : List Stmt} {ρ ρ' : List SV} {μ μ' : List MO} {r : Rs} (e : ρ = ρ') (e2 : μ = μ') (h : BJ X u sts ρ' μ' r) : BJ X u sts ρ μ r := e ▸ e2 ▸ h
section
variable {P : Program} {w : World} {K : PySem.W.Frag} {mg : Str → Option Value} {base : Heap}
def R_told (ds : List PyData) (r : PyData) : Prop := ∃ (w : Wish) (s : Src) (lot : List Nat) (k : Nat), ds = [eW w, eS s, eM lot, .int k, .int (deg w)] ∧ W0 w ∧ SrcOk s ∧ s ≠ [] ∧ k ≤ deg w ∧ lot.length ≤ deg w ∧ (∀ i ∈ lot, i < k) ∧ r = .list ((toldM w s lot k (deg w) (blankM s)).map eP)
theorem ok_told_mean (D : Df K mg "_told_mean" s__told_mean) (G1 : Fn P w K mg base 1 "_filled" (spP K R_fill)) (G2 : Fn P w K mg base 1 "fraction" (spP K R_fraction)) (G3 : Fn P w K mg base 2 "times" (spP K (R_two (· * ·)))) (G4 : Fn P w K mg base 6 "moment_at" (spP K R_momAt)) (g0 : GlD K mg "BLANK" (eM [])) (m1 : mg "len" = none) (m2 : mg "list" = none) (m3 : mg "range" = none) (m4 : mg "permutations" = some (.type "itertools.permutations")) (m5 : mg "enumerate" = none) (m6 : mg "zip" = none) (m7 : mg "tuple" = none) : Fn P w K mg base 7 "_told_mean" (spP K R_told) := by
  refine fn_pure (k := 6) D sc__told_mean ?_ (fun _ _ _ _ _ _ us hl => match us, hl with | [_, _, _, _, _], _ => by kernel_rfl) ?_
  · rintro ds d ⟨a, b, c, e, rfl, _⟩
    rfl
  · rintro f cdv A outer s H E ds d hr ⟨w, src, lot, k, rfl, hw, hs, hne, hk, hl, hi, rfl⟩
    have hd := hw.deg
    obtain ⟨p0, src', rfl⟩ : ∃ p0 src', src = p0 :: src' := by
      cases src with
      | nil => exact absurd rfl hne
      | cons a b => exact ⟨a, b, rfl⟩
    have hc := (hs.row p0 List.mem_cons_self).len
    generalize hB : blankM (p0 :: src') = B
    have hblank : (List.replicate ((((p0.1.map rd).length : Nat) : Int)).toNat [PyData.int 0]).flatten = B.map eN := by
      rw [rep_flat, ← hB]
      show List.replicate _ _ = (List.replicate p0.1.length 0).map eN
      rw [List.map_replicate, Int.toNat_natCast, List.length_map]
      rfl
    have hpl := permT_ok hd hl
    have hpp := permT_pos hd hl
    generalize hI : permT (deg w) lot.length = IM at hpl hpp
    have hTP : ∀ p, toldP (p0 :: src') lot k (deg w) B p = IM.map (toldIn (p0 :: src') lot k (deg w) B p) := fun p => by rw [← hI]; rfl
    let C : List SV := [.d (eW w), .d (eS (p0 :: src')), .d (eM lot), .d (.int k), .d (.int (deg w)), .d (eM B), .h 0, .d (.list (IM.map eM))]
    refine ⟨.dead :: List.replicate (toldM w (p0 :: src') lot k (deg w) B).length .dead, bj_cons (sj_parL 5 6 sc__told_mean.nd (ev_eq (ev_repT (ev_tup (av_cons ev_int av_nil)) (ev_lenT m1 (ev_ixT (ds := [eR p0.1, rd p0.2]) (ev_ixT (ev_name 1 rfl) ev_int (at_map (f := eQ) (xs := p0 :: src') (i := 0) (d := p0) (by simp))) ev_int rfl)) (by simp) ?_ ?_ (by decide)) (congrArg PyData.tuple hblank)) (ef_lst av_nil))
      (bj_cons (sj_set 7 sc__told_mean.nd (ev_eq (ev_of_ef (ef_listPerm (d := deg w) (r := lot.length) m2 m3 m4 (ev_name 4 rfl) (ev_eq (ev_lenT m1 (ev_name 2 rfl)) (by rw [List.length_map])) hd hl)) (by rw [hI])))
      (bj_cons (sj_for (iv_tup (ev_name 0 rfl)) (for_pre eP (fun _ => C ++ ([.u, .u, .u, .u, .u, .u, .u, .u, .u] : List SV)) (fun pre => .l ((pre.flatMap (toldP (p0 :: src') lot k (deg w) B)).map eP) :: List.replicate (pre.flatMap (toldP (p0 :: src') lot k (deg w) B)).length .dead) w fun pre p suf e => ?_))
      (bj_freeze 0 (Nat.le_refl _) (xs := (toldM w (p0 :: src') lot k (deg w) B).map eP) rfl (bj_one (sj_ret (ev_name 6 rfl))))))⟩
    · omega
    · rw [List.length_map]; omega
    · have hp : p ∈ w := by rw [e]; simp
      have hpd : p.1.length ≤ deg w := deg_le hp
      have hpre : (pre.flatMap (toldP (p0 :: src') lot k (deg w) B)).length ≤ 10 := by
        have h2 := len_flatMap_le (c := 2) (f := toldP (p0 :: src') lot k (deg w) B) (xs := pre) fun x _ => toldP_len hd _ hl k B x
        have : pre.length ≤ w.length := by rw [e, List.length_append]; omega
        have := hw.len
        omega
      generalize hR : pre.flatMap (toldP (p0 :: src') lot k (deg w) B) = R at hpre ⊢
      have e1 : (pre ++ [p]).flatMap (toldP (p0 :: src') lot k (deg w) B) = R ++ IM.map (toldIn (p0 :: src') lot k (deg w) B p) := by
        rw [List.flatMap_append, hR, ← hTP]
        simp
      generalize hfull : fillF p.1 (deg w) = full
      have hfl : full.length = deg w := by rw [← hfull]; exact fillF_len hpd
      have hfm : ∀ m ∈ full, MomOk m := fun m hm => by
        have := fill_small hw hp m (by rw [hfull]; exact hm)
        exact ⟨this.1, fun n hn => by have := this.2 n hn; omega⟩
      let C2 : List SV := C ++ ([.d (eF p.1), .d (rd p.2), .d (eF full)] : List SV)
      refine ⟨_, _, C2 ++ ([.u, .u, .u, .u, .u, .u] : List SV), gv_pair 8 9 sc__told_mean.nd, bj_cons (sj_set 10 sc__told_mean.nd (ev_call G1 hr (av_cons (ev_name 8 rfl) (av_cons (ev_name 4 rfl) av_nil)) ⟨p.1, deg w, rfl, hpd, by omega, by rw [hfull]⟩))
        (bj_one (sj_eq (sj_for (iv_list (ev_name 7 rfl)) (for_preM eM (fun _ => C2 ++ ([.u, .u, .u, .u, .u, .u] : List SV)) (fun pre2 => .l ((R ++ pre2.map (toldIn (p0 :: src') lot k (deg w) B p)).map eP) :: List.replicate (R ++ pre2.map (toldIn (p0 :: src') lot k (deg w) B p)).length .dead) IM (by simp) fun pre2 im suf2 e2 => ?_)) ?_)), ?_⟩
      · have him : im ∈ IM := by rw [e2]; simp
        have hpre2 : (R ++ pre2.map (toldIn (p0 :: src') lot k (deg w) B p)).length ≤ 12 := by
          have : pre2.length ≤ IM.length := by rw [e2, List.length_append]; omega
          have := hpl.1
          rw [List.length_append, List.length_map]
          omega
        generalize hR2 : R ++ pre2.map (toldIn (p0 :: src') lot k (deg w) B p) = R2 at hpre2 ⊢
        have e3 : R ++ (pre2 ++ [im]).map (toldIn (p0 :: src') lot k (deg w) B p) = R2 ++ [toldIn (p0 :: src') lot k (deg w) B p im] := by
          rw [List.map_append, ← List.append_assoc, hR2]
          rfl
        have hx0 : Fit 2 (p.2 * Rat.divInt 1 IM.length) := (hw.fit p hp).mul (one_fit hpp hpl.1)
        generalize hx0e : p.2 * Rat.divInt 1 IM.length = x0 at hx0
        have hT : toldIn (p0 :: src') lot k (deg w) B p im = (powsOf full B (lot.zip im) k, yOf (p0 :: src') full im x0) := by
          unfold toldIn
          rw [hfull, hI, hx0e]
        have hzi : ∀ q ∈ full.zipIdx, MomOk q.1 := fun q hq => hfm _ (List.fst_mem_of_mem_zipIdx hq)
        have hyf : Fit 12 (yOf (p0 :: src') full im x0) := (yOf_fit hs (image := im) full.zipIdx x0 2 hzi hx0).mono (by rw [List.length_zipIdx]; omega)
        have ez : ((lot.map eN).zip (im.map eN)).map (fun p => pairD p.1 p.2) = (lot.zip im).map fun p => pairD (eN p.1) (eN p.2) := by
          rw [List.zip_map, List.map_map]
          rfl
        generalize hL : R2.map eP = RD
        have hLl : RD.length = R2.length := by rw [← hL, List.length_map]
        generalize hn : R2.length = n at hLl hpre2
        let C3 : List SV := C2 ++ ([.d (eM im)] : List SV)
        refine ⟨_, _, C3 ++ ([.d (rd (yOf (p0 :: src') full im x0)), .u, .u, .d (.list ((powsOf full B (lot.zip im) k).map eM)), .u] : List SV), gv_name 11 sc__told_mean.nd,
          bj_cons (sj_set 12 sc__told_mean.nd (ev_eq (d' := rd x0) (ev_call G3 hr (av_cons (ev_name 9 rfl) (av_cons (ev_call G2 hr (av_cons ev_int (av_cons (ev_eq (ev_lenL m1 (lv_of_ev (ev_name 7 rfl))) (by rw [List.length_map])) av_nil)) ⟨1, (IM.length : Int), rfl, by omega, ?_, rfl⟩) av_nil)) ⟨p.2, _, rfl, sz_of (hw.fit p hp) (by decide), sz_of (one_fit hpp hpl.1) (by decide), rfl⟩) (congrArg rd hx0e)))
          (bj_cons (ρ1 := C3 ++ ([.d (rd (yOf (p0 :: src') full im x0)), .u, .u, .u, .u] : List SV)) (μ1 := .l RD :: List.replicate n .dead) ?_
          (bj_cons (ρ1 := C3 ++ ([.d (rd (yOf (p0 :: src') full im x0)), .u, .u, .h (n + 1), .u] : List SV)) (μ1 := MM RD n ((List.replicate k B).map eM)) (sj_eq (sj_own 15 sc__told_mean.nd (ef_eq (ef_rep (ef_lst (av_cons (ev_name 5 rfl) av_nil)) (ev_name 3 rfl) (by omega) (by omega) (by show 1 ≤ 1000; decide)) (d' := (List.replicate k B).map eM) ?_)) ?_)
          (bj_cons (sj_for (iv_eq (iv_zipT m6 (av_cons (ev_name 2 rfl) (av_cons (ev_name 11 rfl) av_nil))) ez) (for_preM (fun p : Nat × Nat => pairD (eN p.1) (eN p.2)) (fun _ => C3 ++ ([.d (rd (yOf (p0 :: src') full im x0)), .u, .u, .h (n + 1), .u] : List SV)) (fun q => MM RD n ((powsOf full B q k).map eM)) (lot.zip im) rfl fun q z suf3 e4 => ?_))
          (bj_freeze (n + 1) (Nat.zero_le _) (mm_get _ _ _) (bj_eq2 (ρ' := C3 ++ ([.d (rd (yOf (p0 :: src') full im x0)), .u, .u, .d (.list ((powsOf full B (lot.zip im) k).map eM)), .u] : List SV)) (μ' := .l RD :: List.replicate (n + 1) .dead) ?_ ?_
          (bj_one (sj_eq (sj_append 6 rfl (ev_tup (av_cons (ev_tupleL m7 (lv_of_ev (ev_name 15 rfl))) (av_cons (ev_name 12 rfl) av_nil))) rfl rfl ?_) ?_))))))), ?_⟩
        · have h2 : (2 : Nat) ^ 3 ≤ 2 ^ 8999 := Nat.pow_le_pow_right (by decide) (by decide)
          have := hpl.1
          omega
        · -- the told values
          refine sj_for (iv_eq (iv_enumT m5 (ev_name 10 rfl)) (enum_map eM full)) (for_preM (fun p : Mom × Nat => pairD (eN p.2) (eM p.1)) (fun q => C3 ++ ([.d (rd (q.foldl (ymul (p0 :: src') im) x0)), .u, .u, .u, .u] : List SV)) (fun _ => .l RD :: List.replicate n .dead) full.zipIdx rfl fun q z suf3 e4 => ?_)
          have hz : z ∈ full.zipIdx := by rw [e4]; simp
          have hq : ∀ q' ∈ q, MomOk q'.1 := fun q' h => hzi q' (by rw [e4]; exact List.mem_append_left _ h)
          have hql : q.length ≤ 2 := by
            have : q.length ≤ full.zipIdx.length := by rw [e4, List.length_append]; omega
            rw [List.length_zipIdx] at this
            omega
          have hyq : Fit 12 (q.foldl (ymul (p0 :: src') im) x0) := (yOf_fit hs (image := im) q x0 2 hq hx0).mono (by omega)
          have em : PyData.eqv (eM z.1) (eM []) = z.1.isEmpty := by cases z.1 <;> rfl
          have ef : (q ++ [z]).foldl (ymul (p0 :: src') im) x0 = ymul (p0 :: src') im (q.foldl (ymul (p0 :: src') im) x0) z := by rw [List.foldl_append]; rfl
          refine ⟨_, _, C3 ++ ([.d (rd (ymul (p0 :: src') im (q.foldl (ymul (p0 :: src') im) x0) z)), .d (eN z.2), .d (eM z.1), .u, .u] : List SV), gv_pair 13 14 sc__told_mean.nd, bj_one (sj_if (tv_and (tv_cmp op_notIn_seq ov_notin (ev_name 13 rfl) (ev_eq (ev_name 11 rfl) (congrArg PyData.tuple (cast_map im)))) (fun _ => tv_cmp (op_neD (by have := room100 hr; exact Nat.lt_of_le_of_lt (Nat.add_le_add_left (by decide) _) this)) (ov_neD (shaped_eM z.1) rfl) (ev_name 14 rfl) (ev_glob g0))) (fun h => ?_) (fun h => ?_)), ?_⟩
          · rw [mem_cast, em] at h
            have e5 : ymul (p0 :: src') im (q.foldl (ymul (p0 :: src') im) x0) z = q.foldl (ymul (p0 :: src') im) x0 * momAt (p0 :: src') z.1 := if_pos h
            rw [e5]
            exact bj_one (sj_set 12 sc__told_mean.nd (ev_call G3 hr (av_cons (ev_name 12 rfl) (av_cons (ev_call G4 hr (av_cons (ev_name 1 rfl) (av_cons (ev_name 14 rfl) av_nil)) ⟨_, _, rfl, hs, hzi z hz, rfl⟩) av_nil)) ⟨_, _, rfl, sz_of hyq (by decide), sz_of (momAt_fit hs (hzi z hz)) (by decide), rfl⟩))
          · rw [mem_cast, em] at h
            have e5 : ymul (p0 :: src') im (q.foldl (ymul (p0 :: src') im) x0) z = q.foldl (ymul (p0 :: src') im) x0 := if_neg (by rw [h]; decide)
            rw [e5]
            exact bj_nil
          · rw [ef]
            exact .keep (.keep (.keep (.keep (.keep (.keep (.keep (.keep (.keep (.keep (.keep (.keep (.keep (.drop (.drop (.keep (.keep .nil))))))))))))))))
        · show (List.replicate _ [eM B]).flatten = _
          rw [rep_flat, List.map_replicate, Int.toNat_natCast]
        · rw [mm_len]
          rfl
        · -- a place of the powers
          have hz : z ∈ lot.zip im := by rw [e4]; simp
          have hz1 : z.1 < k := hi _ (List.of_mem_zip hz).1
          have hz2 : z.2 < full.length := by rw [hfl]; exact (hpl.2 im him).2 _ (List.of_mem_zip hz).2
          have e5 : powsOf full B (q ++ [z]) k = putM full B (powsOf full B q k) z := by unfold powsOf; rw [List.foldl_append]; rfl
          refine ⟨_, _, C3 ++ ([.d (rd (yOf (p0 :: src') full im x0)), .d (eN z.2), .u, .h (n + 1), .d (eN z.1)] : List SV), gv_pair 16 13 sc__told_mean.nd, bj_one (sj_eq (sj_ixset 15 (n := z.1) (ev_eq (ev_orT (ev_ixT (ev_name 10 rfl) (ev_name 13 rfl) (at_map (f := eM) (d := []) hz2)) trivial fun _ => ev_name 5 rfl) (orM_d _ _)) rfl (ev_name 16 rfl) (mm_get _ _ _) ?_) ?_), ?_⟩
          · rw [List.length_map, pows_len]
            exact ix_nat hz1
          · rw [mm_set, e5]
            unfold putM
            rw [List.map_set]
            rfl
          · exact .keep (.keep (.keep (.keep (.keep (.keep (.keep (.keep (.keep (.keep (.keep (.keep (.keep (.drop (.keep (.keep (.drop .nil))))))))))))))))
        · show C3.map (frz (n + 1) _) ++ [_, _, _, frz (n + 1) _ (.h (n + 1)), _] = _
          have e5 : ∀ xs, frz (n + 1) xs (.h (n + 1)) = .d (.list xs) := fun xs => if_pos rfl
          rw [e5]
          rfl
        · rw [mm_set, mm_dead]
        · rw [hLl]; omega
        · rw [e3, hT, List.map_append, List.length_append, hL, hn]
          rfl
        · exact .keep (.keep (.keep (.keep (.keep (.keep (.keep (.keep (.keep (.keep (.keep (.drop (.drop (.keep (.keep (.drop (.keep .nil))))))))))))))))
      · rw [e1]
      · exact .keep (.keep (.keep (.keep (.keep (.keep (.keep (.keep (.drop (.drop (.drop (.keep (.keep (.keep (.keep (.keep (.keep .nil))))))))))))))))
end
end DW

/-! Pr13: the form of a part. -/
namespace DW
open PySem PySem.Spec PyProof.Rows L2 DM
def sgnQ (k j : Nat) : Rat := if (k - j) % 2 = 0 then 1 else -1
def partL (w : Wish) (s : Src) (k many : Nat) (lot : List Nat) : Wish := (toldM w s lot k (deg w) (blankM s)).map fun p => (p.1, sgnQ k many * p.2)
def partN (w : Wish) (s : Src) (k many : Nat) : Wish := (combT k many).flatMap (partL w s k many)
def partP (w : Wish) (s : Src) (k : Nat) : Wish := (List.range (k + 1)).flatMap (partN w s k)
def partF (w : Wish) (s : Src) (k : Nat) : Wish := gath (partP w s k)
theorem told_fit {w : Wish} (hw : W0 w) {s : Src} (hs : SrcOk s) {lot : List Nat} {k : Nat} (hl : lot.length ≤ deg w) : ∀ p ∈ toldM w s lot k (deg w) (blankM s), Fit 12 p.2 := by
  intro p hp
  obtain ⟨q, hq, hp⟩ := List.mem_flatMap.mp hp
  obtain ⟨im, hi, rfl⟩ := List.mem_map.mp hp
  have hqd : q.1.length ≤ deg w := deg_le hq
  have h2 := (permT_ok hw.deg hl).1
  refine (yOf_fit hs (image := im) (fillF q.1 (deg w)).zipIdx _ 2 (fun r hr => ?_) ((hw.fit q hq).mul (one_fit (permT_pos hw.deg hl) h2))).mono (by rw [List.length_zipIdx, fillF_len hqd]; have := hw.deg; omega)
  have := fill_small hw hq _ (List.fst_mem_of_mem_zipIdx hr)
  exact ⟨this.1, fun n hn => by have := this.2 n hn; omega⟩
theorem told_len {w : Wish} (hw : W0 w) (s : Src) {lot : List Nat} (k : Nat) (hl : lot.length ≤ deg w) : (toldM w s lot k (deg w) (blankM s)).length ≤ 10 := by
  have := len_flatMap_le (c := 2) (f := toldP s lot k (deg w) (blankM s)) (xs := w) fun x _ => toldP_len hw.deg s hl k _ x
  have := hw.len
  unfold toldM
  omega
theorem comb_lot {k many : Nat} (hk : k ≤ 2) (hm : many ≤ k) : ∀ l ∈ combT k many, l.length ≤ k ∧ ∀ i ∈ l, i < k := by
  rcases six hk hm with e | e | e | e | e | e <;> (cases e; decide)
theorem partN_len {w : Wish} (hw : W0 w) (s : Src) {k many : Nat} (hk : k ≤ deg w) (hm : many ≤ k) : ∀ {pre : List (List Nat)}, (∀ l ∈ pre, l ∈ combT k many) → pre.length ≤ 2 → (pre.flatMap (partL w s k many)).length ≤ 20 := by
  intro pre hp hl
  have hd := hw.deg
  have := len_flatMap_le (c := 10) (f := partL w s k many) (xs := pre) fun x hx => by
    unfold partL
    rw [List.length_map]
    exact told_len hw s k (by have := (comb_lot (by omega) hm x (hp x hx)).1; omega)
  omega
theorem sgnQ_fit (k j : Nat) : Fit 1 (sgnQ k j) := by
  unfold sgnQ
  split <;> exact fit_dec (by decide +kernel)
theorem sgnQ_d {k j : Nat} (h : j ≤ k) : (if (((k : Int) - (j : Int)) % 2 == 0) = true then rd 1 else rd (-1)) = rd (sgnQ k j) := by
  unfold sgnQ
  by_cases e : (k - j) % 2 = 0
  · rw [if_pos e, if_pos (by rw [beq_iff_eq]; omega)]
  · rw [if_neg e, if_neg (by rw [beq_iff_eq]; omega)]
theorem partP_fit {w : Wish} (hw : W0 w) {s : Src} (hs : SrcOk s) {k : Nat} (hk : k ≤ deg w) : ∀ p ∈ partP w s k, Fit 13 p.2 := by
  intro p hp
  have hd := hw.deg
  obtain ⟨m, hm, hp⟩ := List.mem_flatMap.mp hp
  obtain ⟨l, hl, hp⟩ := List.mem_flatMap.mp hp
  obtain ⟨q, hq, rfl⟩ := List.mem_map.mp hp
  have hm' := List.mem_range.mp hm
  exact ((sgnQ_fit k m).mul (told_fit hw hs (by have := (comb_lot (by omega) (by omega) l hl).1; omega) q hq)).mono (by decide)
theorem partP_len {w : Wish} (hw : W0 w) (s : Src) {k : Nat} (hk : k ≤ deg w) {pre : List Nat} (hp : ∀ m ∈ pre, m ≤ k) : (pre.flatMap (partN w s k)).length ≤ pre.length * 20 :=
  len_flatMap_le fun m hm => partN_len hw s hk (hp m hm) (fun _ h => h) (combT_ok (by have := hw.deg; omega) (hp m hm)).1
section
variable {P : Program} {w : World} {K : PySem.W.Frag} {mg : Str → Option Value} {base : Heap}
def R_part (ds : List PyData) (r : PyData) : Prop := ∃ (w : Wish) (s : Src) (k : Nat), ds = [eW w, eS s, .int k] ∧ W0 w ∧ SrcOk s ∧ s ≠ [] ∧ k ≤ deg w ∧ r = eW (partF w s k)
theorem ok_part_form (D : Df K mg "part_form" s_part_form) (G1 : ∀ n, Fn P w K mg base (n + 1) "tuple_of" (spP K (R_tupleOf n))) (G2 : Fn P w K mg base 1 "wish_degree" (spP K R_degree)) (G3 : Fn P w K mg base 7 "_told_mean" (spP K R_told)) (G4 : Fn P w K mg base 2 "times" (spP K (R_two (· * ·)))) (G5 : Fn P w K mg base 3 "gathered" (spP K R_gath)) (g1 : GlD K mg "ONE_layers" (rd 1)) (g2 : GlD K mg "LESS" (rd (-1))) (m1 : mg "range" = none) (m2 : mg "combinations" = some (.type "itertools.combinations")) : Fn P w K mg base 8 "part_form" (spP K R_part) := by
  refine fn_pure (k := 7) D sc_part_form ?_ (fun _ _ _ _ _ _ us hl => match us, hl with | [_, _, _], _ => by kernel_rfl) ?_
  · rintro ds d ⟨a, b, c, rfl, _⟩
    rfl
  · rintro f cdv A outer s H E ds d hr ⟨w, src, k, rfl, hw, hs, hne, hk, rfl⟩
    have hd := hw.deg
    refine ⟨[.dead], bj_cons (sj_par 0 1 sc_part_form.nd (av_cons (ev_call (G1 4) hr (av_cons (ev_name 0 rfl) av_nil) ⟨_, rfl, tt_eW hw.few, rfl⟩) (av_cons (ev_call (G1 4) hr (av_cons (ev_name 1 rfl) av_nil) ⟨_, rfl, tt_eS hs.few, rfl⟩) av_nil)))
      (bj_cons (sj_parL 3 4 sc_part_form.nd (ev_call G2 hr (av_cons (ev_name 0 rfl) av_nil) ⟨w, rfl, hw.l3, rfl⟩) (ef_lst av_nil))
      (bj_cons (sj_if (tv_not (tv_chain op_le op_le ov_B0 ov_B0 ev_int (ev_name 2 rfl) (ev_name 3 rfl))) (fun z => ?_) fun _ => bj_nil)
      (bj_cons (sj_for (iv_eq (iv_range m1 (ev_add (ev_name 2 rfl) ev_int) (by omega) (by omega)) (rng0 (k + 1))) (for_pre eN (fun _ => [.d (eW w), .d (eS src), .d (.int k), .d (.int (deg w)), .h 0, .u, .u, .u, .u, .u]) (fun pre => [.l ((pre.flatMap (partN w src k)).map eP)]) (List.range (k + 1)) fun pre j suf e => ?_))
      (bj_freeze 0 (Nat.le_refl _) (xs := (partP w src k).map eP) rfl (bj_one (sj_ret (ev_call G5 hr (av_cons (ev_name 4 rfl) av_nil) ⟨_, rfl, partP w src k, 13, .inl rfl, by decide, partP_fit hw hs hk, ?_, rfl⟩)))))))⟩
    · rw [decide_eq_true (by omega), decide_eq_true (by omega)] at z
      cases z
    · obtain ⟨hpe, hj⟩ := range_split e
      have hjk : j ≤ k := by omega
      have hR1 : (pre.flatMap (partN w src k)).length ≤ 60 := by
        have := partP_len hw src hk (pre := pre) fun m hm => by rw [hpe] at hm; have := List.mem_range.mp hm; omega
        have : pre.length = j := by rw [hpe, List.length_range]
        omega
      generalize hR : pre.flatMap (partN w src k) = R at hR1 ⊢
      have e1 : (pre ++ [j]).flatMap (partN w src k) = R ++ (combT k j).flatMap (partL w src k j) := by
        rw [List.flatMap_append, hR]
        simp [partN]
      refine ⟨_, _, [.d (eW w), .d (eS src), .d (.int k), .d (.int (deg w)), .h 0, .d (.int j), .d (rd (sgnQ k j)), .u, .u, .u], gv_name 5 sc_part_form.nd, bj_cons (sj_set 6 sc_part_form.nd (ev_eq (ev_if (tv_cmp op_eq ov_eqI (ev_mod (by decide) (ev_sub (ev_name 2 rfl) (ev_name 5 rfl)) ev_int) ev_int) (fun _ => ev_glob g1) (fun _ => ev_glob g2)) (sgnQ_d hjk)))
        (bj_one (sj_eq (sj_for (iv_comb (d := k) (r := j) m1 m2 (ev_name 2 rfl) (ev_name 5 rfl) (by omega) hjk) (for_preM eM (fun _ => [.d (eW w), .d (eS src), .d (.int k), .d (.int (deg w)), .h 0, .d (.int j), .d (rd (sgnQ k j)), .u, .u, .u]) (fun pre2 => [.l ((R ++ pre2.flatMap (partL w src k j)).map eP)]) (combT k j) (by simp) fun pre2 lot suf2 e2 => ?_)) ?_)), ?_⟩
      · have hlot : lot ∈ combT k j := by rw [e2]; simp
        obtain ⟨l1, l2⟩ := comb_lot (by omega) hjk lot hlot
        have hc := (combT_ok (d := k) (k := j) (by omega) hjk).1
        have hR2 : (R ++ pre2.flatMap (partL w src k j)).length ≤ 80 := by
          have hlp : pre2.length ≤ (combT k j).length := by rw [e2, List.length_append]; omega
          have := partN_len hw src hk hjk (pre := pre2) (fun l h => by rw [e2]; exact List.mem_append_left _ h) (by omega)
          rw [List.length_append]
          omega
        generalize hRR : R ++ pre2.flatMap (partL w src k j) = R2 at hR2 ⊢
        have e3 : R ++ (pre2 ++ [lot]).flatMap (partL w src k j) = R2 ++ partL w src k j lot := by
          rw [List.flatMap_append, ← List.append_assoc, hRR]
          simp
        have hTf := told_fit hw hs (lot := lot) (k := k) (by omega)
        have hTl := told_len hw src (lot := lot) k (by omega)
        refine ⟨_, _, [.d (eW w), .d (eS src), .d (.int k), .d (.int (deg w)), .h 0, .d (.int j), .d (rd (sgnQ k j)), .d (eM lot), .u, .u], gv_name 7 sc_part_form.nd, bj_one (sj_eq (sj_extend 4 rfl (ef_lc (own := [("powers", 8), ("x", 9)]) sc_part_form.nd (iv_list (ev_call G3 hr (av_cons (ev_name 0 rfl) (av_cons (ev_name 1 rfl) (av_cons (ev_name 7 rfl) (av_cons (ev_name 2 rfl) (av_cons (ev_name 3 rfl) av_nil))))) ⟨w, src, lot, k, rfl, hw, hs, hne, hk, by omega, l2, rfl⟩)) (blkOk_by (by kernel_rfl))
          (lc_all eP (fun p => eP (p.1, sgnQ k j * p.2)) (fun p => [.d (eW w), .d (eS src), .d (.int k), .d (.int (deg w)), .h 0, .d (.int j), .d (rd (sgnQ k j)), .d (eM lot), .d (eF p.1), .d (rd p.2)]) (is := [8, 9]) (by simp) _ (fun z hz s H C cl fp => gv_pair 8 9 sc_part_form.nd)
            (fun z hz s H C cl fp => ev_tup (av_cons (ev_name 8 rfl) (av_cons (ev_call G4 hr (av_cons (ev_name 6 rfl) (av_cons (ev_name 9 rfl) av_nil)) ⟨_, _, rfl, sz_of (sgnQ_fit k j) (by decide), sz_of (hTf z hz) (by decide), rfl⟩) av_nil)))) ?_) rfl rfl ?_) ?_), ?_⟩
        · rw [List.length_map]; omega
        · rw [List.length_map, List.length_map]; omega
        · rw [e3, List.map_append]
          have e6 : (partL w src k j lot).map eP = (toldM w src lot k (deg w) (blankM src)).map fun p => eP (p.1, sgnQ k j * p.2) := by
            unfold partL
            rw [List.map_map]
            rfl
          rw [e6]
          rfl
        · exact .keep (.keep (.keep (.keep (.keep (.keep (.keep (.drop (.keep (.keep .nil)))))))))
      · rw [e1]
      · exact .keep (.keep (.keep (.keep (.keep (.drop (.drop (.keep (.keep (.keep .nil)))))))))
    · have := partP_len hw src hk (pre := List.range (k + 1)) fun m hm => by have := List.mem_range.mp hm; omega
      have h2 : (partP w src k).length ≤ (List.range (k + 1)).length * 20 := this
      rw [List.length_range] at h2
      have : 60 ≤ G := by decide
      omega
end
end DW

/-! Pr14: the law's sums, numbers, means, worths, degrees, choices. -/
namespace DW
open PySem PySem.Spec PyProof.Rows L2 DM
theorem for_preS {α : Type} {X : Cx} {u : Nat} {tg : Expr} {body : List Stmt} {ρ0 : List SV} {μ0 : List MO} (enc : α → PyData) (S : List α → List SV) (M : List α → List MO) (zs : List α) (h00 : S [] = ρ0) (h0 : M [] = μ0) (h : ∀ (pre : List α) (z : α) (suf : List α), zs = pre ++ z :: suf → ∃ is ρ1 ρ2, GV X tg is (S pre) (enc z) ρ1 ∧ BJ X u body ρ1 (M pre) (.nx ρ2 (M (pre ++ [z]))) ∧ Wk ρ2 (S (pre ++ [z]))) :
    FoR X u tg body (zs.map enc) ρ0 μ0 (S zs) (M zs) := h00 ▸ h0 ▸ for_pre enc S M zs h
/-! ### the number of a row -/
def topN (ps : List (Rat × Nat)) : Int := ps.foldl (fun t p => t * p.1.num ^ p.2) 1
def botN (ps : List (Rat × Nat)) : Nat := ps.foldl (fun t p => t * p.1.den ^ p.2) 1
theorem topN_snoc (ps : List (Rat × Nat)) (p : Rat × Nat) : topN (ps ++ [p]) = topN ps * p.1.num ^ p.2 := by simp [topN, List.foldl_append]
theorem botN_snoc (ps : List (Rat × Nat)) (p : Rat × Nat) : botN (ps ++ [p]) = botN ps * p.1.den ^ p.2 := by simp [botN, List.foldl_append]
theorem botN_pos (ps : List (Rat × Nat)) : 0 < botN ps := by
  induction ps using rev_ind with
  | h0 => exact Nat.one_pos
  | h1 ps p ih =>
    rw [botN_snoc]
    exact Nat.mul_pos ih (Nat.pow_pos p.1.den_pos)
theorem rstep_eq (t : Rat) (p : Rat × Nat) : rstep t p = t * p.1 ^ p.2 := by
  unfold rstep
  split
  · rfl
  · rename_i h
    have : p.2 = 0 := by omega
    rw [this, Rat.pow_zero, Rat.mul_one]
theorem pow_div (x : Rat) (n : Nat) : x ^ n = Rat.divInt (x.num ^ n) ((x.den ^ n : Nat) : Int) := (Rat.num_divInt_den (x ^ n)).symm
theorem numN_eq (ps : List (Rat × Nat)) : Rat.divInt (topN ps) (botN ps) = ps.foldl rstep 1 := by
  induction ps using rev_ind with
  | h0 => rfl
  | h1 ps p ih =>
    rw [List.foldl_append, List.foldl_cons, List.foldl_nil, ← ih, rstep_eq, topN_snoc, botN_snoc, pow_div, Rat.divInt_mul_divInt, Int.natCast_mul]
theorem pool_two {x : Rat} (h : Pool x) : x.num.natAbs ≤ 2 ∧ x.den ≤ 2 := by
  have t : ∀ x ∈ ([-1, 0, 1 / 2, 1, 2] : List Rat), (decide (x.num.natAbs ≤ 2) && decide (x.den ≤ 2)) = true := by decide +kernel
  have q := t x h
  rw [Bool.and_eq_true, decide_eq_true_eq, decide_eq_true_eq] at q
  exact q
theorem topN_le {ps : List (Rat × Nat)} (h : ∀ p ∈ ps, Pool p.1 ∧ p.2 ≤ 4) : (topN ps).natAbs ≤ 2 ^ (4 * ps.length) ∧ botN ps ≤ 2 ^ (4 * ps.length) := by
  induction ps using rev_ind with
  | h0 => exact ⟨Nat.le_refl _, Nat.le_refl _⟩
  | h1 ps p ih =>
    obtain ⟨i1, i2⟩ := ih fun q hq => h q (List.mem_append_left _ hq)
    obtain ⟨h1, h2⟩ := h p (by simp)
    obtain ⟨a1, a2⟩ := pool_two h1
    have b1 : (p.1.num ^ p.2).natAbs ≤ 2 ^ 4 := by
      rw [Int.natAbs_pow]
      exact Nat.le_trans (Nat.pow_le_pow_left a1 _) (Nat.pow_le_pow_right (by decide) h2)
    have b2 : p.1.den ^ p.2 ≤ 2 ^ 4 := Nat.le_trans (Nat.pow_le_pow_left a2 _) (Nat.pow_le_pow_right (by decide) h2)
    have e : 2 ^ (4 * (ps ++ [p]).length) = 2 ^ (4 * ps.length) * 2 ^ 4 := by
      rw [← Nat.pow_add, List.length_append]
      rfl
    rw [topN_snoc, botN_snoc, Int.natAbs_mul, e]
    exact ⟨Nat.mul_le_mul i1 b1, Nat.mul_le_mul i2 b2⟩
theorem rng_all (n : Nat) : rangeD 0 (((n : Nat) : Int)).toNat = (List.range n).map eN := rng0 n
section
variable {P : Program} {w : World} {K : PySem.W.Frag} {mg : Str → Option Value} {base : Heap}
theorem ok_law_sum (D : Df K mg "_law_sum" s__law_sum) (G : Fn P w K mg base 2 "_law_add" (spP K (R_two (· + ·)))) : Fn P w K mg base 3 "_law_sum" (spP K R_sum) := by
  refine fn_pure (k := 2) D sc__law_sum ?_ (fun _ _ _ _ _ _ us hl => match us, hl with | [_], _ => by kernel_rfl) ?_
  · rintro ds d ⟨a, rfl, _⟩
    rfl
  · rintro f cdv A outer s H E ds d hr ⟨xs, rfl, h1, h2, rfl⟩
    refine ⟨[], bj_cons (sj_set 1 sc__law_sum.nd (ev_eq (d' := rd 0) (ev_tup (av_cons ev_int (av_cons ev_int av_nil))) rfl)) (bj_cons (sj_for (iv_list (ev_name 0 rfl)) (for_pre rd (fun pre => [.d (.list (xs.map rd)), .d (rd (rsum pre)), .u]) (fun _ => []) xs fun pre z suf e => ?_)) (bj_one (sj_ret (ev_name 1 rfl))))⟩
    refine ⟨_, _, _, gv_name 2 sc__law_sum.nd, bj_one (sj_set 1 sc__law_sum.nd (ev_call G hr (av_cons (ev_name 1 rfl) (av_cons (ev_name 2 rfl) av_nil)) ⟨_, _, rfl, h2 pre ⟨_, e.symm⟩, h1 z (by rw [e]; simp), rfl⟩)), ?_⟩
    rw [rsum_snoc]
    exact .keep (.keep (.drop .nil))
theorem ok_law_number (D : Df K mg "_law_number" s__law_number) (G : Fn P w K mg base 1 "_law_low" (spP K R_fraction)) (m1 : mg "zip" = none) (m2 : mg "range" = none) : Fn P w K mg base 2 "_law_number" (spP K R_rowM) := by
  refine fn_pure (k := 1) D sc__law_number ?_ (fun _ _ _ _ _ _ us hl => match us, hl with | [_, _], _ => by kernel_rfl) ?_
  · rintro ds d ⟨a, b, rfl, _⟩
    rfl
  · rintro f cdv A outer s H E ds d hr ⟨r, m, rfl, h1, h2, rfl⟩
    have ez : ((r.map rd).zip (m.map eN)).map (fun p => pairD p.1 p.2) = (r.zip m).map fun p => pairD (rd p.1) (eN p.2) := by
      rw [List.zip_map, List.map_map]
      rfl
    have hp : ∀ p ∈ r.zip m, Pool p.1 ∧ p.2 ≤ 4 := fun p hp => zip_ok' h1 h2 hp
    have hl : (r.zip m).length ≤ 2 := by
      have := h1.len
      rw [List.length_zip]
      omega
    refine ⟨[], bj_cons (sj_asg (ev_tup (av_cons ev_int (av_cons ev_int av_nil))) (gv_pair 2 3 sc__law_number.nd)) (bj_cons (sj_for (iv_eq (iv_zipT m1 (av_cons (ev_name 0 rfl) (av_cons (ev_name 1 rfl) av_nil))) ez) (for_pre (fun p : Rat × Nat => pairD (rd p.1) (eN p.2)) (fun pre => [.d (eR r), .d (eM m), .d (.int (topN pre)), .d (eN (botN pre)), .u, .u, .u]) (fun _ => []) (r.zip m) fun pre z suf e => ?_))
      (bj_one (sj_ret (ev_call G hr (av_cons (ev_name 2 rfl) (av_cons (ev_name 3 rfl) av_nil)) ⟨topN (r.zip m), botN (r.zip m), rfl, ?_, ?_, ?_⟩))))⟩
    · have hz := hp z (by rw [e]; simp)
      have hpre : pre.length ≤ 1 := by
        have := congrArg List.length e
        rw [List.length_append, List.length_cons] at this
        omega
      obtain ⟨t1, t2⟩ := topN_le (ps := pre) fun p h => hp p (by rw [e]; exact List.mem_append_left _ h)
      have u1 : (topN pre).natAbs ≤ 2 ^ 4 := Nat.le_trans t1 (Nat.pow_le_pow_right (by decide) (by omega))
      have u2 : botN pre ≤ 2 ^ 4 := Nat.le_trans t2 (Nat.pow_le_pow_right (by decide) (by omega))
      obtain ⟨p1, p2⟩ := pool_two hz.1
      refine ⟨_, _, [.d (eR r), .d (eM m), .d (.int (topN (pre ++ [z]))), .d (eN (botN (pre ++ [z]))), .d (rd z.1), .d (eN z.2), .u], gv_pair 4 5 sc__law_number.nd,
        bj_one (sj_eq (sj_for (iv_eq (iv_range m2 (ev_name 5 rfl) (by omega) (by omega)) (rng0 z.2)) (for_preS eN (fun q => [.d (eR r), .d (eM m), .d (.int (topN pre * z.1.num ^ q.length)), .d (eN (botN pre * z.1.den ^ q.length)), .d (rd z.1), .d (eN z.2), .u]) (fun _ => []) (List.range z.2) ?_ rfl fun q j suf2 e2 => ?_)) ?_), ?_⟩
      · show [_, _, SV.d (.int (topN pre * z.1.num ^ 0)), .d (eN (botN pre * z.1.den ^ 0)), _, _, _] = _
        rw [Int.pow_zero, Nat.pow_zero, Int.mul_one, Nat.mul_one]
        rfl
      · have hq : q.length ≤ 3 := by
          have := congrArg List.length e2
          rw [List.length_range, List.length_append, List.length_cons] at this
          have := hz.2
          omega
        have a1 : (topN pre * z.1.num ^ q.length).natAbs ≤ 2 ^ 7 := by
          rw [Int.natAbs_mul, Int.natAbs_pow]
          exact Nat.le_trans (Nat.mul_le_mul u1 (Nat.le_trans (Nat.pow_le_pow_left p1 _) (Nat.pow_le_pow_right (j := 3) (by decide) hq))) (by decide)
        have a2 : botN pre * z.1.den ^ q.length ≤ 2 ^ 7 := Nat.le_trans (Nat.mul_le_mul u2 (Nat.le_trans (Nat.pow_le_pow_left p2 _) (Nat.pow_le_pow_right (j := 3) (by decide) hq))) (by decide)
        refine ⟨_, _, _, gv_name 6 sc__law_number.nd, bj_one (sj_par 2 3 sc__law_number.nd (av_cons (ev_mul ?_ (ev_name 2 rfl) (ev_ixT (ev_name 4 rfl) ev_int rfl)) (av_cons (ev_mul ?_ (ev_name 3 rfl) (ev_ixT (ev_name 4 rfl) ev_int rfl)) av_nil))), ?_⟩
        · exact wide_mul (a := 8) (b := 2) (by omega) (by omega) (by decide) (by decide) (by decide)
        · exact wide_mul (a := 8) (b := 2) (by omega) (by omega) (by decide) (by decide) (by decide)
        · rw [List.length_append, List.length_singleton, Int.pow_succ, Nat.pow_succ, ← Int.mul_assoc, ← Nat.mul_assoc]
          have e3 : PyData.int (((botN pre * z.1.den ^ q.length : Nat) : Int) * ((z.1.den : Nat) : Int)) = eN (botN pre * z.1.den ^ q.length * z.1.den) := by
            rw [← Int.natCast_mul]
          rw [← e3]
          exact .keep (.keep (.keep (.keep (.keep (.keep (.drop .nil))))))
      · show Rs.nx [_, _, .d (.int (topN pre * z.1.num ^ (List.range z.2).length)), .d (eN (botN pre * z.1.den ^ (List.range z.2).length)), _, _, _] _ = _
        rw [List.length_range, topN_snoc, botN_snoc]
      · exact .keep (.keep (.keep (.keep (.drop (.drop (.keep .nil))))))
    · have := botN_pos (r.zip m)
      omega
    · have := (topN_le hp).2
      have h3 : (2 : Nat) ^ (4 * (r.zip m).length) ≤ 2 ^ 8 := Nat.pow_le_pow_right (by decide) (by omega)
      have h4 : (2 : Nat) ^ 8 < 2 ^ 8999 := Nat.pow_lt_pow_right (by decide) (by decide)
      rw [Int.natAbs_natCast]
      omega
    · rw [numN_eq]
      rfl
theorem ok_law_mean (D : Df K mg "_law_mean" s__law_mean) (G1 : Fn P w K mg base 2 "_law_mul" (spP K (R_two (· * ·)))) (G2 : Fn P w K mg base 2 "_law_number" (spP K R_rowM)) (G3 : Fn P w K mg base 3 "_law_sum" (spP K R_sum)) : Fn P w K mg base 4 "_law_mean" (spP K R_momAt) := by
  refine fn_pure (k := 3) D sc__law_mean ?_ (fun _ _ _ _ _ _ us hl => match us, hl with | [_, _], _ => by kernel_rfl) ?_
  · rintro ds d ⟨a, b, rfl, _⟩
    rfl
  · rintro f cdv A outer s H E ds d hr ⟨src, m, rfl, h1, h2, rfl⟩
    have e : (src.map fun q => rd (q.2 * rowM q.1 m)) = (src.map fun q => q.2 * rowM q.1 m).map rd := by rw [List.map_map]; rfl
    have hS := sum_sz (k := 4) (xs := src.map fun q => q.2 * rowM q.1 m) (fun x hx => by
      obtain ⟨q, hq, rfl⟩ := List.mem_map.mp hx
      exact (h1.fit q hq).mul (rowM_fit (h1.row q hq) h2)) (by decide) (by rw [List.length_map]; exact Nat.le_trans h1.len (by decide))
    refine ⟨[], bj_one (sj_ret (ev_call G3 hr (av_cons (ev_of_ef (ef_lc (own := [("_law_row_in", 2), ("_law_chance", 3)]) sc__law_mean.nd (iv_tup (ev_name 0 rfl)) (blkOk_by (by kernel_rfl)) (lc_all eQ (fun q => rd (q.2 * rowM q.1 m)) (fun q => [.d (eS src), .d (eM m), .d (eR q.1), .d (rd q.2)]) (is := [2, 3]) (by simp) src (fun z hz s H C cl fp => gv_pair 2 3 sc__law_mean.nd) (fun z hz s H C cl fp =>
      ev_call G1 hr (av_cons (ev_name 3 rfl) (av_cons (ev_call G2 hr (av_cons (ev_name 2 rfl) (av_cons (ev_name 1 rfl) av_nil)) ⟨_, _, rfl, h1.row z hz, h2, rfl⟩) av_nil)) ⟨_, _, rfl, sz_of (h1.fit z hz) (by decide), sz_of (rowM_fit (h1.row z hz) h2) (by decide), rfl⟩)) ?_)) av_nil) ⟨_, by rw [e], hS.1, hS.2, rfl⟩))⟩
    rw [List.length_map]
    have := h1.len
    omega
theorem ok_law_worth (D : Df K mg "_law_worth" s__law_worth) (G1 : Fn P w K mg base 2 "_law_mul" (spP K (R_two (· * ·)))) (G2 : Fn P w K mg base 2 "_law_add" (spP K (R_two (· + ·)))) (G3 : Fn P w K mg base 4 "_law_mean" (spP K R_momAt)) : Fn P w K mg base 5 "_law_worth" (spP K R_wishVal) := by
  refine fn_pure (k := 4) D sc__law_worth ?_ (fun _ _ _ _ _ _ us hl => match us, hl with | [_, _], _ => by kernel_rfl) ?_
  · rintro ds d ⟨a, b, c, rfl, _⟩
    rfl
  · rintro f cdv A outer s H E ds d hr ⟨w, src, k, rfl, hw, hs, hk, rfl⟩
    have hS := sum_sz (k := k + 20) (xs := w.map fun p => xval src p.2 p.1) (fun x hx => by
      obtain ⟨q, hq, rfl⟩ := List.mem_map.mp hx
      exact xval_fit4 hs hw hq) (by omega) (by rw [List.length_map]; exact Nat.le_trans hw.len G_big)
    refine ⟨[], bj_cons (sj_set 2 sc__law_worth.nd (ev_eq (d' := rd 0) (ev_tup (av_cons ev_int (av_cons ev_int av_nil))) rfl)) (bj_cons (sj_for (iv_tup (ev_name 0 rfl)) (for_pre eP (fun pre => [.d (eW w), .d (eS src), .d (rd (rsum (pre.map fun p => xval src p.2 p.1))), .u, .u, .u]) (fun _ => []) w fun pre z suf e => ?_)) (bj_one (sj_ret (ev_name 2 rfl))))⟩
    have hz : z ∈ w := by rw [e]; simp
    have hpre : Sz (rsum (pre.map fun p => xval src p.2 p.1)) := hS.2 _ (by rw [e, List.map_append]; exact List.prefix_append _ _)
    refine ⟨_, _, [.d (eW w), .d (eS src), .d (rd (rsum (pre.map fun p => xval src p.2 p.1) + xval src z.2 z.1)), .d (eF z.1), .d (rd (xval src z.2 z.1)), .u], gv_pair 3 4 sc__law_worth.nd,
      bj_cons (ρ1 := [.d (eW w), .d (eS src), .d (rd (rsum (pre.map fun p => xval src p.2 p.1))), .d (eF z.1), .d (rd (xval src z.2 z.1)), .u]) (μ1 := []) (sj_for (iv_tup (ev_name 3 rfl)) (for_pre eM (fun q => [.d (eW w), .d (eS src), .d (rd (rsum (pre.map fun p => xval src p.2 p.1))), .d (eF z.1), .d (rd (xval src z.2 q)), .u]) (fun _ => []) z.1 fun q m suf2 e2 => ?_))
        (bj_one (sj_set 2 sc__law_worth.nd (ev_call G2 hr (av_cons (ev_name 2 rfl) (av_cons (ev_name 4 rfl) av_nil)) ⟨_, _, rfl, hpre, sz_of (xval_fit4 hs hw hz) (by omega), rfl⟩))), ?_⟩
    · have hm : MomOk m := hw.mom z hz m (by rw [e2]; simp)
      have hq : Fit (k + 20) (xval src z.2 q) := (xval_fit hs q z.2 k (fun m h => hw.mom z hz m (by rw [e2]; exact List.mem_append_left _ h)) (hw.fit z hz)).mono (by
        have := congrArg List.length e2
        rw [List.length_append, List.length_cons] at this
        have := hw.few z hz
        omega)
      refine ⟨_, _, _, gv_name 5 sc__law_worth.nd, bj_one (sj_set 4 sc__law_worth.nd (ev_call G1 hr (av_cons (ev_name 4 rfl) (av_cons (ev_call G3 hr (av_cons (ev_name 1 rfl) (av_cons (ev_name 5 rfl) av_nil)) ⟨src, m, rfl, hs, hm, rfl⟩) av_nil)) ⟨_, _, rfl, sz_of hq (by omega), sz_of (momAt_fit hs hm) (by decide), rfl⟩)), ?_⟩
      have e3 : xval src z.2 (q ++ [m]) = xval src z.2 q * momAt src m := by simp [xval, List.foldl_append]
      rw [e3]
      exact .keep (.keep (.keep (.keep (.keep (.drop .nil)))))
    · rw [List.map_append, List.map_singleton, rsum_snoc]
      exact .keep (.keep (.keep (.drop (.drop (.keep .nil)))))
theorem ok_law_degree (D : Df K mg "_law_degree" s__law_degree) (m1 : mg "max" = none) (m2 : mg "len" = none) : Fn P w K mg base 1 "_law_degree" (spP K R_degree) := by
  refine fn_pure (k := 0) D sc__law_degree ?_ (fun _ _ _ _ _ _ us hl => match us, hl with | [_], _ => by kernel_rfl) ?_
  · rintro ds d ⟨x, rfl, _⟩
    rfl
  · rintro f cdv A outer s H E ds d hr ⟨w, rfl, hl, rfl⟩
    have e : [PyData.int 0] ++ (w.map fun p => PyData.int (p.1.length : Nat)) = ((0 : Int) :: w.map fun p => ((p.1.length : Nat) : Int)).map .int := by
      rw [List.map_cons, List.map_map]
      rfl
    obtain ⟨h1, h2⟩ := foldr_max (w.map fun p => p.1.length)
    refine ⟨[], bj_one (sj_ret (ev_max m1 (lv_of_ef (ef_eq (ef_add (ev_of_ef (ef_lst (av_cons ev_int av_nil))) (ev_of_ef (ef_lc (own := [("_law_factors", 1), ("_law_x", 2)]) sc__law_degree.nd (iv_tup (ev_name 0 rfl)) (blkOk_by (by kernel_rfl)) (lc_all eP (fun p => .int (p.1.length : Nat)) (fun p => [.d (eW w), .d (eF p.1), .d (rd p.2)]) (is := [1, 2]) (by simp) w (fun z hz s H C cl fp => gv_pair 1 2 sc__law_degree.nd)
      (fun z hz s H C cl fp => ev_eq (ev_lenT m2 (ev_name 1 rfl)) (by rw [List.length_map]))) (by rw [List.length_map]; omega))) (by rw [List.length_map]; show 1 + _ ≤ _; omega)) e)) ?_ ?_))⟩
    · have h1' : deg w ∈ 0 :: w.map fun p => p.1.length := h1
      rcases List.mem_cons.mp h1' with e | e
      · rw [e]; exact List.mem_cons_self
      · obtain ⟨p, hp, e⟩ := List.mem_map.mp e
        exact List.mem_cons_of_mem _ (List.mem_map.mpr ⟨p, hp, by rw [e]⟩)
    · intro y hy
      have h2' : ∀ n ∈ 0 :: w.map fun p => p.1.length, n ≤ deg w := h2
      rcases List.mem_cons.mp hy with e | e
      · rw [e]; omega
      · obtain ⟨p, hp, e⟩ := List.mem_map.mp e
        have := h2' p.1.length (List.mem_cons_of_mem _ (List.mem_map.mpr ⟨p, hp, rfl⟩))
        omega
/-! ### choices -/
def chT (n : Nat) : Nat → Int
  | 0 => 1
  | j + 1 => chT n j * ((n : Int) - (j : Int)) / ((j : Int) + 1)
theorem chT_eq {n k : Nat} (hk : k ≤ n) (h2 : k ≤ 2) : chT n k = PySem.W.mcComb n k := by
  have : k = 0 ∨ k = 1 ∨ k = 2 := by omega
  rcases this with rfl | rfl | rfl
  · exact (PySem.W.mcComb_ends (a := (n : Int)) (b := 0) (by decide) (by omega) (.inl rfl)).symm
  · have h := PySem.W.mcComb_one (a := (n : Int)) (by omega)
    show _ = PySem.W.mcComb n 1
    rw [h]
    show 1 * ((n : Int) - ((0 : Nat) : Int)) / (((0 : Nat) : Int) + 1) = _
    omega
  · have h := PySem.W.mcComb_two (a := (n : Int)) (by omega)
    show _ = PySem.W.mcComb n 2
    show 1 * ((n : Int) - ((0 : Nat) : Int)) / (((0 : Nat) : Int) + 1) * ((n : Int) - ((1 : Nat) : Int)) / (((1 : Nat) : Int) + 1) = _
    have e : 1 * ((n : Int) - ((0 : Nat) : Int)) / (((0 : Nat) : Int) + 1) = n := by omega
    rw [e]
    have e2 : ((1 : Nat) : Int) = 1 := rfl
    rw [e2, ← h]
    omega
def R_choose (ds : List PyData) (d : PyData) : Prop := ∃ n k : Nat, ds = [.int n, .int k] ∧ k ≤ n ∧ k ≤ 2 ∧ n ≤ 1000 ∧ d = .int (PySem.W.mcComb n k)
theorem ok_law_choose (D : Df K mg "_law_choose" s__law_choose) (m1 : mg "range" = none) : Fn P w K mg base 1 "_law_choose" (spP K R_choose) := by
  refine fn_pure (k := 0) D sc__law_choose ?_ (fun _ _ _ _ _ _ us hl => match us, hl with | [_, _], _ => by kernel_rfl) ?_
  · rintro ds d ⟨a, b, rfl, _⟩
    rfl
  · rintro f cdv A outer s H E ds d hr ⟨n, k, rfl, hk, h2, hn, rfl⟩
    refine ⟨[], bj_cons (sj_set 2 sc__law_choose.nd ev_int) (bj_cons (sj_for (iv_eq (iv_range m1 (ev_name 1 rfl) (by omega) (by omega)) (rng0 k)) (for_pre eN (fun pre => [.d (.int n), .d (.int k), .d (.int (chT n pre.length)), .u]) (fun _ => []) (List.range k) fun pre j suf e => ?_)) (bj_one (sj_eq (sj_ret (ev_name 2 rfl)) ?_)))⟩
    · obtain ⟨rfl, hj⟩ := range_split e
      have hb : (chT n j).natAbs ≤ 1000 := by
        have : j = 0 ∨ j = 1 := by omega
        rcases this with rfl | rfl
        · show (1 : Int).natAbs ≤ 1000; decide
        · rw [chT_eq (by omega) (by omega)]
          have h := PySem.W.mcComb_one (a := (n : Int)) (by omega)
          show (PySem.W.mcComb n 1).natAbs ≤ _
          rw [h]
          omega
      refine ⟨_, _, _, gv_name 3 sc__law_choose.nd, bj_one (sj_set 2 sc__law_choose.nd (ev_fdiv ⟨by omega, ?_⟩ (ev_mul (wide_mul (a := 10) (b := 10) (by rw [List.length_range]; omega) (by omega) (by decide) (by decide) (by decide)) (ev_name 2 rfl) (ev_sub (ev_name 0 rfl) (ev_name 3 rfl))) (ev_add (ev_name 3 rfl) ev_int))), ?_⟩
      · exact Nat.lt_of_lt_of_le (PySem.Flt.log2_lt_of (k := 8) (by decide) (by omega)) (by decide)
      · rw [List.length_append, List.length_singleton, List.length_range]
        exact .keep (.keep (.keep (.drop .nil)))
    · show Rs.rt (.int (chT n (List.range k).length)) _ = _
      rw [List.length_range, chT_eq hk h2]
end
end DW

/-! Pr15: the law's images, best programs, forms, drawings. -/
namespace DW
open PySem PySem.Spec PyProof.Rows L2 DM
def extI (n : Nat) (own : List Nat) : List (List Nat) := ((List.range n).filter fun j => !decide (j ∈ own)).map fun j => own ++ [j]
def imgs (n : Nat) : Nat → List (List Nat)
  | 0 => [[]]
  | k + 1 => (imgs n k).flatMap (extI n)
theorem extI_len (n : Nat) (own : List Nat) : (extI n own).length ≤ n := by
  unfold extI
  rw [List.length_map]
  have := List.length_filter_le (fun j => !decide (j ∈ own)) (List.range n)
  rw [List.length_range] at this
  exact this
theorem imgs_len (n : Nat) : ∀ k, (imgs n k).length ≤ n ^ k
  | 0 => Nat.le_refl _
  | k + 1 => by
    have h := len_flatMap_le (c := n) (f := extI n) (xs := imgs n k) fun x _ => extI_len n x
    have h2 := Nat.mul_le_mul_right n (imgs_len n k)
    rw [Nat.pow_succ]
    exact Nat.le_trans h h2
theorem imgs_mem (n : Nat) : ∀ k, ∀ l ∈ imgs n k, l.length = k ∧ ∀ i ∈ l, i < n
  | 0 => fun l hl => by
    have : l = [] := by simpa [imgs] using hl
    subst this
    exact ⟨rfl, by simp⟩
  | k + 1 => fun l hl => by
    obtain ⟨own, h1, h2⟩ := List.mem_flatMap.mp hl
    obtain ⟨j, h3, rfl⟩ := List.mem_map.mp h2
    obtain ⟨a, b⟩ := imgs_mem n k own h1
    refine ⟨by rw [List.length_append, a]; rfl, fun i hi => ?_⟩
    rcases List.mem_append.mp hi with h | h
    · exact b i h
    · have e : i = j := by simpa using h
      rw [e]
      exact List.mem_range.mp (List.mem_filter.mp h3).1
theorem imgs_cnt {n k : Nat} (hn : n ≤ 4) (hk : k ≤ 2) (h : k ≤ n) : 0 < (imgs n k).length ∧ (imgs n k).length ≤ 12 ∧ G % (imgs n k).length = 0 := by
  have a : n = 0 ∨ n = 1 ∨ n = 2 ∨ n = 3 ∨ n = 4 := by omega
  have b : k = 0 ∨ k = 1 ∨ k = 2 := by omega
  rcases b with rfl | rfl | rfl <;> rcases a with rfl | rfl | rfl | rfl | rfl <;> first | (exfalso; omega) | decide
theorem rd_one {n : Nat} (h : 0 < n) : PyData.tuple [.int 1, .int n] = rd (Rat.divInt 1 n) := by
  obtain ⟨e1, e2⟩ := gcd_rat (a := 1) (b := (n : Int)) (by omega)
  have g : Nat.gcd (1 : Int).natAbs ((n : Int)).natAbs = 1 := Nat.gcd_one_left _
  rw [g] at e1 e2
  show _ = PyData.tuple [.int _, .int _]
  rw [← e1, ← e2]
  simp
theorem one_fit' {n : Nat} (h : 0 < n) (h2 : G % n = 0) : Fit 1 (Rat.divInt 1 n) := by
  have := fit_frac (a := 1) h h2 (by decide)
  rw [← Rat.divInt_ofNat] at this
  exact this
/-! ### the best program -/
abbrev eRs (rows : List Row) : PyData := .tuple (rows.map eR)
def lstep (rows : List Row) (t : Rat) (q : Nat × Mom) : Rat := t * rowM (rows.getD q.1 []) q.2
def laneV (rows : List Row) (f : Fac) (x : Rat) (lane : List Nat) : Rat := (lane.zip f).foldl (lstep rows) x
def bestIn (rows : List Row) (p : Fac × Rat) : List Rat := (imgs rows.length p.1.length).map (laneV rows p.1 (p.2 * Rat.divInt 1 (imgs rows.length p.1.length).length))
def bestV (w : Wish) (rows : List Row) : Rat := rsum (w.flatMap (bestIn rows))
structure RowsOk (rows : List Row) : Prop where
  len : rows.length ≤ 4
  row : ∀ r ∈ rows, RowOk r
theorem mem_getR {rows : List Row} {i : Nat} (h : i < rows.length) : rows.getD i [] ∈ rows := by
  rw [List.getD_eq_getElem?_getD, List.getElem?_eq_getElem h]
  exact List.getElem_mem h
theorem W0.momOk {w : Wish} (h : W0 w) {p : Fac × Rat} (hp : p ∈ w) : ∀ m ∈ p.1, MomOk m := fun m hm => by
  have := h.mom p hp m hm
  exact ⟨this.1, fun n hn => by have := this.2 n hn; omega⟩
theorem lane_fit {rows : List Row} (hr : RowsOk rows) : ∀ (qs : List (Nat × Mom)) (x : Rat) (k : Nat), (∀ q ∈ qs, q.1 < rows.length ∧ MomOk q.2) → Fit k x → Fit (k + 3 * qs.length) (qs.foldl (lstep rows) x)
  | [], x, k, _, h => h
  | q :: qs, x, k, hq, h => by
    have h0 := hq q List.mem_cons_self
    have h1 : Fit (k + 3) (lstep rows x q) := h.mul (rowM_fit (hr.row _ (mem_getR h0.1)) h0.2)
    exact (lane_fit hr qs _ (k + 3) (fun q h => hq q (List.mem_cons_of_mem _ h)) h1).mono (by rw [List.length_cons]; omega)
theorem lane_ok {w : Wish} (hw : W0 w) {rows : List Row} {p : Fac × Rat} (hp : p ∈ w) {lane : List Nat} (hl : lane ∈ imgs rows.length p.1.length) : ∀ q ∈ lane.zip p.1, q.1 < rows.length ∧ MomOk q.2 := fun q hq =>
  ⟨(imgs_mem _ _ lane hl).2 _ (List.of_mem_zip (a := q.1) (b := q.2) hq).1, hw.momOk hp _ (List.of_mem_zip (a := q.1) (b := q.2) hq).2⟩
theorem few2 {w : Wish} (hw : W0 w) {p : Fac × Rat} (hp : p ∈ w) : p.1.length ≤ 2 := by
  have := deg_le hp
  have := hw.deg
  omega
theorem laneV_fit {w : Wish} (hw : W0 w) {rows : List Row} (hr : RowsOk rows) (hd : deg w ≤ rows.length) {p : Fac × Rat} (hp : p ∈ w) {lane : List Nat} (hl : lane ∈ imgs rows.length p.1.length) : Fit 8 (laneV rows p.1 (p.2 * Rat.divInt 1 (imgs rows.length p.1.length).length) lane) := by
  have h2 := few2 hw hp
  obtain ⟨c1, c2, c3⟩ := imgs_cnt hr.len h2 (Nat.le_trans (deg_le hp) hd)
  refine (lane_fit hr (lane.zip p.1) _ 2 (lane_ok hw hp hl) ((hw.fit p hp).mul (one_fit' c1 c3))).mono ?_
  rw [List.length_zip]
  omega
theorem bestIn_len {w : Wish} (hw : W0 w) {rows : List Row} (hr : RowsOk rows) (hd : deg w ≤ rows.length) {p : Fac × Rat} (hp : p ∈ w) : (bestIn rows p).length ≤ 12 := by
  unfold bestIn
  rw [List.length_map]
  exact (imgs_cnt hr.len (few2 hw hp) (Nat.le_trans (deg_le hp) hd)).2.1
theorem best_sz {w : Wish} (hw : W0 w) {rows : List Row} (hr : RowsOk rows) (hd : deg w ≤ rows.length) : (∀ x ∈ w.flatMap (bestIn rows), Fit 8 x) ∧ (w.flatMap (bestIn rows)).length ≤ G := by
  refine ⟨fun x hx => ?_, ?_⟩
  · obtain ⟨p, hp, hx⟩ := List.mem_flatMap.mp hx
    obtain ⟨lane, hl, rfl⟩ := List.mem_map.mp hx
    exact laneV_fit hw hr hd hp hl
  · have := len_flatMap_le (c := 12) (f := bestIn rows) (xs := w) fun p hp => bestIn_len hw hr hd hp
    have := hw.len
    have : 60 ≤ G := by decide
    omega
theorem bestV_fit {w : Wish} (hw : W0 w) {rows : List Row} (hr : RowsOk rows) (hd : deg w ≤ rows.length) : Fit 9 (bestV w rows) := Fit.sum (best_sz hw hr hd).1 (best_sz hw hr hd).2
/-! ### forms -/
def hstep (t : Rat) (q : Mom × Row) : Rat := t * rowM q.2 q.1
def handV (rows : List Row) (p : Fac × Rat) : Rat := (p.1.zip rows).foldl hstep p.2
def formV (F : Wish) (rows : List Row) : Rat := rsum (F.map (handV rows))
structure FormOk (F : Wish) : Prop where
  len : F.length ≤ 1000
  mom : ∀ p ∈ F, ∀ m ∈ p.1, MomOk m
  fit : ∀ p ∈ F, Fit 20 p.2
theorem hand_fit {rows : List Row} (hr : RowsOk rows) : ∀ (qs : List (Mom × Row)) (x : Rat) (k : Nat), (∀ q ∈ qs, RowOk q.2 ∧ MomOk q.1) → Fit k x → Fit (k + 3 * qs.length) (qs.foldl hstep x)
  | [], x, k, _, h => h
  | q :: qs, x, k, hq, h => by
    have h0 := hq q List.mem_cons_self
    have h1 : Fit (k + 3) (hstep x q) := h.mul (rowM_fit h0.1 h0.2)
    exact (hand_fit hr qs _ (k + 3) (fun q h => hq q (List.mem_cons_of_mem _ h)) h1).mono (by rw [List.length_cons]; omega)
theorem hand_ok {F : Wish} (hF : FormOk F) {rows : List Row} (hr : RowsOk rows) {p : Fac × Rat} (hp : p ∈ F) : ∀ q ∈ p.1.zip rows, RowOk q.2 ∧ MomOk q.1 := fun q hq =>
  ⟨hr.row _ (List.of_mem_zip (a := q.1) (b := q.2) hq).2, hF.mom p hp _ (List.of_mem_zip (a := q.1) (b := q.2) hq).1⟩
theorem hand_len {rows : List Row} (hr : RowsOk rows) (f : Fac) : (f.zip rows).length ≤ 4 := by
  have := hr.len
  rw [List.length_zip]
  omega
theorem handV_fit {F : Wish} (hF : FormOk F) {rows : List Row} (hr : RowsOk rows) {p : Fac × Rat} (hp : p ∈ F) : Fit 32 (handV rows p) :=
  (hand_fit hr _ _ 20 (hand_ok hF hr hp) (hF.fit p hp)).mono (by have := hand_len hr p.1; omega)
theorem formV_fit {F : Wish} (hF : FormOk F) {rows : List Row} (hr : RowsOk rows) : Fit 33 (formV F rows) := by
  refine Fit.sum (k := 32) (fun x hx => ?_) ?_
  · obtain ⟨p, hp, rfl⟩ := List.mem_map.mp hx
    exact handV_fit hF hr hp
  · rw [List.length_map]
    exact Nat.le_trans hF.len G_big
/-! ### drawings -/
abbrev eD (q : List Row × Rat) : PyData := pairD (eRs q.1) (rd q.2)
abbrev drawIn (s : Src) (q : List Row × Rat) : List (List Row × Rat) := s.map fun o => (q.1 ++ [o.1], q.2 * o.2)
theorem draws_succ (s : Src) (n : Nat) : draws s (n + 1) = (draws s n).flatMap (drawIn s) := rfl
theorem draws_len {s : Src} (hs : SrcOk s) : ∀ n, (draws s n).length ≤ 3 ^ n
  | 0 => Nat.le_refl _
  | n + 1 => by
    have h := len_flatMap_le (c := 3) (f := drawIn s) (xs := draws s n) fun x _ => by rw [List.length_map]; exact hs.len
    have h2 := Nat.mul_le_mul_right 3 (draws_len hs n)
    rw [draws_succ, Nat.pow_succ]
    exact Nat.le_trans h h2
theorem draws_mem {s : Src} (hs : SrcOk s) : ∀ n, ∀ q ∈ draws s n, q.1.length = n ∧ (∀ r ∈ q.1, RowOk r) ∧ Fit (n + 1) q.2
  | 0 => fun q hq => by
    have : q = ([], 1) := by simpa [draws] using hq
    subst this
    exact ⟨rfl, by simp, fit_one⟩
  | n + 1 => fun q hq => by
    rw [draws_succ] at hq
    obtain ⟨q', h1, h2⟩ := List.mem_flatMap.mp hq
    obtain ⟨o, h3, rfl⟩ := List.mem_map.mp h2
    obtain ⟨a, b, c⟩ := draws_mem hs n q' h1
    refine ⟨by rw [List.length_append, a]; rfl, fun r hr => ?_, c.mul (hs.fit o h3)⟩
    rcases List.mem_append.mp hr with h | h
    · exact b r h
    · have e : r = o.1 := by simpa using h
      rw [e]
      exact hs.row o h3
theorem draws_81 {s : Src} (hs : SrcOk s) {n : Nat} (h : n ≤ 4) : (draws s n).length ≤ 81 := Nat.le_trans (draws_len hs n) (Nat.le_trans (Nat.pow_le_pow_right (by decide) h) (by decide))
theorem draws_rows {s : Src} (hs : SrcOk s) {n : Nat} (h : n ≤ 4) {q : List Row × Rat} (hq : q ∈ draws s n) : RowsOk q.1 := ⟨by rw [(draws_mem hs n q hq).1]; exact h, (draws_mem hs n q hq).2.1⟩
section
variable {P : Program} {w : World} {K : PySem.W.Frag} {mg : Str → Option Value} {base : Heap}
def R_images (ds : List PyData) (d : PyData) : Prop := ∃ n k : Nat, ds = [.int n, .int k] ∧ n ≤ 5 ∧ k ≤ 2 ∧ d = .list ((imgs n k).map eM)
theorem ok_law_images (D : Df K mg "_law_images" s__law_images) (m1 : mg "range" = none) : Fn P w K mg base 1 "_law_images" (spP K R_images) := by
  refine fn_pure (k := 0) D sc__law_images ?_ (fun _ _ _ _ _ _ us hl => match us, hl with | [_, _], _ => by kernel_rfl) ?_
  · rintro ds d ⟨a, b, rfl, _⟩
    rfl
  · rintro f cdv A outer s H E ds d hr ⟨n, k, rfl, hn, hk, rfl⟩
    refine ⟨[], bj_cons (sj_set 2 sc__law_images.nd (ev_eq (d' := .list ((imgs n 0).map eM)) (ev_of_ef (ef_lst (av_cons (ev_tup av_nil) av_nil))) rfl)) (bj_cons (sj_for (iv_eq (iv_range m1 (ev_name 1 rfl) (by omega) (by omega)) (rng0 k)) (for_preS eN (fun pre => [.d (.int n), .d (.int k), .d (.list ((imgs n pre.length).map eM)), .u, .u, .u, .u]) (fun _ => []) (List.range k) rfl rfl fun pre j suf e => ?_)) (bj_one (sj_eq (sj_ret (ev_name 2 rfl)) ?_)))⟩
    · obtain ⟨rfl, hj⟩ := range_split e
      rw [List.length_append, List.length_singleton, List.length_range]
      have hlj : (imgs n j).length ≤ 5 := Nat.le_trans (imgs_len n j) (by
        have : j = 0 ∨ j = 1 := by omega
        rcases this with rfl | rfl
        · exact Nat.le_trans (Nat.le_of_eq (Nat.pow_zero n)) (by decide)
        · rw [Nat.pow_one]; exact hn)
      refine ⟨_, _, [.d (.int n), .d (.int k), .d (.list ((imgs n (j + 1)).map eM)), .d (.int j), .d (.list ((imgs n (j + 1)).map eM)), .u, .u], gv_name 3 sc__law_images.nd, bj_cons (sj_set 4 sc__law_images.nd (ev_of_ef (ef_lst av_nil)))
        (bj_cons (sj_for (iv_list (ev_name 2 rfl)) (for_preS eM (fun q => [.d (.int n), .d (.int k), .d (.list ((imgs n j).map eM)), .d (.int j), .d (.list ((q.flatMap (extI n)).map eM)), .u, .u]) (fun _ => []) (imgs n j) rfl rfl fun q own suf2 e2 => ?_))
          (bj_one (sj_set 2 sc__law_images.nd (ev_name 4 rfl)))), ?_⟩
      · have hown := imgs_mem n j own (by rw [e2]; simp)
        have hq : (q.flatMap (extI n)).length ≤ 25 := by
          have h := len_flatMap_le (c := n) (f := extI n) (xs := q) fun x _ => extI_len n x
          have hl := congrArg List.length e2
          rw [List.length_append] at hl
          exact Nat.le_trans h (Nat.mul_le_mul (show q.length ≤ 5 by omega) hn)
        have hx := extI_len n own
        refine ⟨_, _, _, gv_name 5 sc__law_images.nd, bj_one (sj_set 4 sc__law_images.nd (ev_of_ef (ef_add (ev_name 4 rfl) (ev_of_ef (ef_lc (own := [("_law_k", 6)]) sc__law_images.nd (iv_eq (iv_range m1 (ev_name 0 rfl) (by omega) (by omega)) (rng0 n)) (blkOk_by (by kernel_rfl))
          (lc_flt eN (fun i => !decide (i ∈ own)) (fun i => eM (own ++ [i])) (fun i => [.d (.int n), .d (.int k), .d (.list ((imgs n j).map eM)), .d (.int j), .d (.list ((q.flatMap (extI n)).map eM)), .d (eM own), .d (eN i)]) (is := [6]) (by simp) (List.range n) (fun z hz s H C cl fp => gv_name 6 sc__law_images.nd)
            (fun z hz s H C cl fp => tv_eq (tv_cmp op_notIn_seq ov_notin (ev_name 6 rfl) (ev_eq (ev_name 5 rfl) (congrArg PyData.tuple (cast_map own)))) (by rw [mem_cast]))
            (fun z hz hk s H C cl fp => ev_eq (ev_bin op_catA (ov_cat ?_) (ev_name 5 rfl) (ev_tup (av_cons (ev_name 6 rfl) av_nil))) (by show _ = PyData.tuple ((own ++ [z]).map eN); rw [List.map_append]; rfl))) ?_)) ?_))), ?_⟩
        · rw [List.length_map]
          show _ + 1 ≤ _
          omega
        · rw [List.length_map]
          have := List.length_filter_le (fun i => !decide (i ∈ own)) (List.range n)
          rw [List.length_range] at this
          omega
        · rw [List.length_map, List.length_map]
          have := List.length_filter_le (fun i => !decide (i ∈ own)) (List.range n)
          rw [List.length_range] at this
          omega
        · have e4 : (q ++ [own]).flatMap (extI n) = q.flatMap (extI n) ++ extI n own := by simp
          rw [e4, List.map_append (l₁ := q.flatMap (extI n))]
          have e5 : (extI n own).map eM = ((List.range n).filter fun i => !decide (i ∈ own)).map fun i => eM (own ++ [i]) := by
            unfold extI
            rw [List.map_map]
            rfl
          rw [e5]
          exact .keep (.keep (.keep (.keep (.keep (.drop (.keep .nil))))))
      · exact .keep (.keep (.keep (.drop (.drop (.keep (.keep .nil))))))
    · show Rs.rt (.list ((imgs n (List.range k).length).map eM)) _ = _
      rw [List.length_range]
def R_lbest (ds : List PyData) (d : PyData) : Prop := ∃ (w : Wish) (rows : List Row), ds = [eW w, eRs rows] ∧ W0 w ∧ RowsOk rows ∧ deg w ≤ rows.length ∧ d = rd (bestV w rows)
theorem ok_law_best (D : Df K mg "_law_best" s__law_best) (G1 : Fn P w K mg base 2 "_law_mul" (spP K (R_two (· * ·)))) (G2 : Fn P w K mg base 2 "_law_add" (spP K (R_two (· + ·)))) (G3 : Fn P w K mg base 2 "_law_number" (spP K R_rowM)) (G4 : Fn P w K mg base 1 "_law_images" (spP K R_images)) (m1 : mg "len" = none) (m2 : mg "zip" = none) : Fn P w K mg base 3 "_law_best" (spP K R_lbest) := by
  refine fn_pure (k := 2) D sc__law_best ?_ (fun _ _ _ _ _ _ us hl => match us, hl with | [_, _], _ => by kernel_rfl) ?_
  · rintro ds d ⟨a, b, rfl, _⟩
    rfl
  · rintro f cdv A outer s H E ds d hr ⟨w, rows, rfl, hw, hro, hd, rfl⟩
    have hB := best_sz hw hro hd
    have hS := sum_sz hB.1 (by decide) hB.2
    refine ⟨[], bj_cons (sj_set 2 sc__law_best.nd (ev_eq (d' := rd 0) (ev_tup (av_cons ev_int (av_cons ev_int av_nil))) rfl)) (bj_cons (sj_for (iv_tup (ev_name 0 rfl)) (for_preS eP (fun pre => [.d (eW w), .d (eRs rows), .d (rd (rsum (pre.flatMap (bestIn rows)))), .u, .u, .u, .u, .u, .u, .u]) (fun _ => []) w rfl rfl fun pre p suf e => ?_)) (bj_one (sj_ret (ev_name 2 rfl))))⟩
    have hp : p ∈ w := by rw [e]; simp
    have h2 := few2 hw hp
    have hpd : p.1.length ≤ rows.length := Nat.le_trans (deg_le hp) hd
    obtain ⟨c1, c2, c3⟩ := imgs_cnt hro.len h2 hpd
    have hF : ∀ lane ∈ imgs rows.length p.1.length, Fit 8 (laneV rows p.1 (p.2 * Rat.divInt 1 (imgs rows.length p.1.length).length) lane) := fun lane hl => laneV_fit hw hro hd hp hl
    have hZ : ∀ lane ∈ imgs rows.length p.1.length, ∀ q ∈ lane.zip p.1, q.1 < rows.length ∧ MomOk q.2 := fun lane hl => lane_ok hw hp hl
    have e1 : (pre ++ [p]).flatMap (bestIn rows) = pre.flatMap (bestIn rows) ++ (imgs rows.length p.1.length).map (laneV rows p.1 (p.2 * Rat.divInt 1 (imgs rows.length p.1.length).length)) := by
      rw [List.flatMap_append]
      simp [bestIn]
    have hR : ∀ q, q <+: imgs rows.length p.1.length → Sz (rsum (pre.flatMap (bestIn rows) ++ q.map (laneV rows p.1 (p.2 * Rat.divInt 1 (imgs rows.length p.1.length).length)))) := fun q hq => hS.2 _ (by
      obtain ⟨t, ht⟩ := hq
      refine ⟨t.map (laneV rows p.1 (p.2 * Rat.divInt 1 (imgs rows.length p.1.length).length)) ++ suf.flatMap (bestIn rows), ?_⟩
      have e3 : w.flatMap (bestIn rows) = pre.flatMap (bestIn rows) ++ (bestIn rows p ++ suf.flatMap (bestIn rows)) := by rw [e]; simp
      rw [e3]
      have e4 : bestIn rows p = q.map (laneV rows p.1 (p.2 * Rat.divInt 1 (imgs rows.length p.1.length).length)) ++ t.map (laneV rows p.1 (p.2 * Rat.divInt 1 (imgs rows.length p.1.length).length)) := by
        rw [← List.map_append, ht]
        rfl
      rw [e4]
      simp only [List.append_assoc])
    have hx0 : Fit 2 (p.2 * Rat.divInt 1 (imgs rows.length p.1.length).length) := (hw.fit p hp).mul (one_fit' c1 c3)
    generalize hI : imgs rows.length p.1.length = IM at *
    generalize hX : p.2 * Rat.divInt 1 IM.length = x0 at *
    generalize hPR : pre.flatMap (bestIn rows) = PR at *
    refine ⟨_, _, [.d (eW w), .d (eRs rows), .d (rd (rsum (PR ++ IM.map (laneV rows p.1 x0)))), .d (eF p.1), .d (rd p.2), .d (.list (IM.map eM)), .u, .u, .u, .u], gv_pair 3 4 sc__law_best.nd,
      bj_cons (sj_set 5 sc__law_best.nd (ev_call G4 hr (av_cons (ev_lenT m1 (ev_name 1 rfl)) (av_cons (ev_lenT m1 (ev_name 3 rfl)) av_nil)) ⟨rows.length, p.1.length, by rw [List.length_map, List.length_map], by have := hro.len; omega, h2, by rw [hI]⟩))
        (bj_one (sj_for (iv_list (ev_name 5 rfl)) (for_preS eM (fun q => [.d (eW w), .d (eRs rows), .d (rd (rsum (PR ++ q.map (laneV rows p.1 x0)))), .d (eF p.1), .d (rd p.2), .d (.list (IM.map eM)), .u, .u, .u, .u]) (fun _ => []) IM (by rw [List.map_nil, List.append_nil]; rfl) rfl fun q lane suf2 e2 => ?_))), ?_⟩
    · have hl : lane ∈ IM := by rw [e2]; simp
      have ez : ((lane.map eN).zip (p.1.map eM)).map (fun p => pairD p.1 p.2) = (lane.zip p.1).map fun p => pairD (eN p.1) (eM p.2) := by
        rw [List.zip_map, List.map_map]
        rfl
      refine ⟨_, _, [.d (eW w), .d (eRs rows), .d (rd (rsum (PR ++ q.map (laneV rows p.1 x0)) + laneV rows p.1 x0 lane)), .d (eF p.1), .d (rd p.2), .d (.list (IM.map eM)), .d (eM lane), .d (rd (laneV rows p.1 x0 lane)), .u, .u], gv_name 6 sc__law_best.nd,
        bj_cons (sj_set 7 sc__law_best.nd (ev_eq (d' := rd x0) (ev_call G1 hr (av_cons (ev_name 4 rfl) (av_cons (ev_eq (ev_tup (av_cons ev_int (av_cons (ev_lenL m1 (lv_of_ev (ev_name 5 rfl))) av_nil))) (by rw [List.length_map]; exact rd_one c1)) av_nil)) ⟨p.2, _, rfl, sz_of (hw.fit p hp) (by decide), sz_of (one_fit' c1 c3) (by decide), rfl⟩) (congrArg rd hX)))
        (bj_cons (ρ1 := [.d (eW w), .d (eRs rows), .d (rd (rsum (PR ++ q.map (laneV rows p.1 x0)))), .d (eF p.1), .d (rd p.2), .d (.list (IM.map eM)), .d (eM lane), .d (rd (laneV rows p.1 x0 lane)), .u, .u]) (μ1 := [])
          (sj_for (iv_eq (iv_zipT m2 (av_cons (ev_name 6 rfl) (av_cons (ev_name 3 rfl) av_nil))) ez) (for_preS (fun p : Nat × Mom => pairD (eN p.1) (eM p.2)) (fun t => [.d (eW w), .d (eRs rows), .d (rd (rsum (PR ++ q.map (laneV rows p.1 x0)))), .d (eF p.1), .d (rd p.2), .d (.list (IM.map eM)), .d (eM lane), .d (rd (t.foldl (lstep rows) x0)), .u, .u]) (fun _ => []) (lane.zip p.1) rfl rfl fun t z suf3 e3 => ?_))
          (bj_one (sj_set 2 sc__law_best.nd (ev_call G2 hr (av_cons (ev_name 2 rfl) (av_cons (ev_name 7 rfl) av_nil)) ⟨_, _, rfl, hR q ⟨_, e2.symm⟩, sz_of (hF lane hl) (by decide), rfl⟩)))), ?_⟩
      · have hz := hZ lane hl z (by rw [e3]; simp)
        have hn := rowM_fit (hro.row _ (mem_getR hz.1)) hz.2
        have ht : Fit 8 (t.foldl (lstep rows) x0) := (lane_fit hro t x0 2 (fun q h => hZ lane hl q (by rw [e3]; exact List.mem_append_left _ h)) hx0).mono (by
          have hl2 := congrArg List.length e3
          rw [List.length_zip, List.length_append, List.length_cons] at hl2
          omega)
        refine ⟨_, _, _, gv_pair 8 9 sc__law_best.nd, bj_one (sj_set 7 sc__law_best.nd (ev_call G1 hr (av_cons (ev_name 7 rfl) (av_cons (ev_call G3 hr (av_cons (ev_ixT (ev_name 1 rfl) (ev_name 8 rfl) (at_map (f := eR) (d := []) hz.1)) (av_cons (ev_name 9 rfl) av_nil)) ⟨_, z.2, rfl, hro.row _ (mem_getR hz.1), hz.2, rfl⟩) av_nil)) ⟨_, _, rfl, sz_of ht (by decide), sz_of hn (by decide), rfl⟩)), ?_⟩
        rw [List.foldl_append]
        exact .keep (.keep (.keep (.keep (.keep (.keep (.keep (.keep (.drop (.drop .nil)))))))))
      · rw [List.map_append, ← List.append_assoc, List.map_singleton, rsum_snoc]
        exact .keep (.keep (.keep (.keep (.keep (.keep (.drop (.drop (.keep (.keep .nil)))))))))
    · rw [e1]
      exact .keep (.keep (.keep (.drop (.drop (.drop (.keep (.keep (.keep (.keep .nil)))))))))
def R_form (ds : List PyData) (d : PyData) : Prop := ∃ (F : Wish) (rows : List Row), ds = [eW F, eRs rows] ∧ FormOk F ∧ RowsOk rows ∧ d = rd (formV F rows)
theorem ok_law_form (D : Df K mg "_law_form" s__law_form) (G1 : Fn P w K mg base 2 "_law_mul" (spP K (R_two (· * ·)))) (G2 : Fn P w K mg base 2 "_law_add" (spP K (R_two (· + ·)))) (G3 : Fn P w K mg base 2 "_law_number" (spP K R_rowM)) (m2 : mg "zip" = none) : Fn P w K mg base 3 "_law_form" (spP K R_form) := by
  refine fn_pure (k := 2) D sc__law_form ?_ (fun _ _ _ _ _ _ us hl => match us, hl with | [_, _], _ => by kernel_rfl) ?_
  · rintro ds d ⟨a, b, rfl, _⟩
    rfl
  · rintro f cdv A outer s H E ds d hr ⟨w, rows, rfl, hw, hro, rfl⟩
    have hS := sum_sz (k := 32) (xs := w.map (handV rows)) (fun x hx => by
      obtain ⟨p, hp, rfl⟩ := List.mem_map.mp hx
      exact handV_fit hw hro hp) (by decide) (by rw [List.length_map]; exact Nat.le_trans hw.len G_big)
    refine ⟨[], bj_cons (sj_set 2 sc__law_form.nd (ev_eq (d' := rd 0) (ev_tup (av_cons ev_int (av_cons ev_int av_nil))) rfl)) (bj_cons (sj_for (iv_tup (ev_name 0 rfl)) (for_preS eP (fun pre => [.d (eW w), .d (eRs rows), .d (rd (rsum (pre.map (handV rows)))), .u, .u, .u, .u]) (fun _ => []) w rfl rfl fun pre p suf e => ?_)) (bj_one (sj_ret (ev_name 2 rfl))))⟩
    have hp : p ∈ w := by rw [e]; simp
    have ez : ((p.1.map eM).zip (rows.map eR)).map (fun p => pairD p.1 p.2) = (p.1.zip rows).map fun p => pairD (eM p.1) (eR p.2) := by
      rw [List.zip_map, List.map_map]
      rfl
    have hpre : Sz (rsum (pre.map (handV rows))) := hS.2 _ (by rw [e, List.map_append]; exact List.prefix_append _ _)
    refine ⟨_, _, [.d (eW w), .d (eRs rows), .d (rd (rsum (pre.map (handV rows)) + handV rows p)), .d (eF p.1), .d (rd (handV rows p)), .u, .u], gv_pair 3 4 sc__law_form.nd,
      bj_cons (ρ1 := [.d (eW w), .d (eRs rows), .d (rd (rsum (pre.map (handV rows)))), .d (eF p.1), .d (rd (handV rows p)), .u, .u]) (μ1 := []) (sj_for (iv_eq (iv_zipT m2 (av_cons (ev_name 3 rfl) (av_cons (ev_name 1 rfl) av_nil))) ez) (for_preS (fun p : Mom × Row => pairD (eM p.1) (eR p.2)) (fun t => [.d (eW w), .d (eRs rows), .d (rd (rsum (pre.map (handV rows)))), .d (eF p.1), .d (rd (t.foldl hstep p.2)), .u, .u]) (fun _ => []) (p.1.zip rows) rfl rfl fun t z suf3 e3 => ?_))
        (bj_one (sj_set 2 sc__law_form.nd (ev_call G2 hr (av_cons (ev_name 2 rfl) (av_cons (ev_name 4 rfl) av_nil)) ⟨_, _, rfl, hpre, sz_of (handV_fit hw hro hp) (by decide), rfl⟩))), ?_⟩
    · have hz := hand_ok hw hro hp z (by rw [e3]; simp)
      have hn := rowM_fit hz.1 hz.2
      have ht : Fit 32 (t.foldl hstep p.2) := (hand_fit hro t p.2 20 (fun q h => hand_ok hw hro hp q (by rw [e3]; exact List.mem_append_left _ h)) (hw.fit p hp)).mono (by
        have hl2 := congrArg List.length e3
        have := hand_len hro p.1
        rw [List.length_append, List.length_cons] at hl2
        omega)
      refine ⟨_, _, _, gv_pair 5 6 sc__law_form.nd, bj_one (sj_set 4 sc__law_form.nd (ev_call G1 hr (av_cons (ev_name 4 rfl) (av_cons (ev_call G3 hr (av_cons (ev_name 6 rfl) (av_cons (ev_name 5 rfl) av_nil)) ⟨z.2, z.1, rfl, hz.1, hz.2, rfl⟩) av_nil)) ⟨_, _, rfl, sz_of ht (by decide), sz_of hn (by decide), rfl⟩)), ?_⟩
      rw [List.foldl_append]
      exact .keep (.keep (.keep (.keep (.keep (.drop (.drop .nil))))))
    · rw [List.map_append, List.map_singleton, rsum_snoc]
      exact .keep (.keep (.keep (.drop (.drop (.keep (.keep .nil))))))
def R_draws (ds : List PyData) (d : PyData) : Prop := ∃ (s : Src) (n : Nat), ds = [eS s, .int n] ∧ SrcOk s ∧ n ≤ 4 ∧ d = .list ((draws s n).map eD)
theorem ok_law_drawings (D : Df K mg "_law_drawings" s__law_drawings) (G1 : Fn P w K mg base 2 "_law_mul" (spP K (R_two (· * ·)))) (m1 : mg "range" = none) : Fn P w K mg base 3 "_law_drawings" (spP K R_draws) := by
  refine fn_pure (k := 2) D sc__law_drawings ?_ (fun _ _ _ _ _ _ us hl => match us, hl with | [_, _], _ => by kernel_rfl) ?_
  · rintro ds d ⟨a, b, rfl, _⟩
    rfl
  · rintro f cdv A outer s H E ds d hr ⟨src, n, rfl, hs, hn, rfl⟩
    refine ⟨[], bj_cons (sj_set 2 sc__law_drawings.nd (ev_eq (d' := .list ((draws src 0).map eD)) (ev_of_ef (ef_lst (av_cons (ev_tup (av_cons (ev_tup av_nil) (av_cons (ev_tup (av_cons ev_int (av_cons ev_int av_nil))) av_nil))) av_nil))) rfl)) (bj_cons (sj_for (iv_eq (iv_range m1 (ev_name 1 rfl) (by omega) (by omega)) (rng0 n)) (for_preS eN (fun pre => [.d (eS src), .d (.int n), .d (.list ((draws src pre.length).map eD)), .u, .u, .u, .u, .u, .u]) (fun _ => []) (List.range n) rfl rfl fun pre j suf e => ?_)) (bj_one (sj_eq (sj_ret (ev_name 2 rfl)) ?_)))⟩
    · obtain ⟨rfl, hj⟩ := range_split e
      rw [List.length_append, List.length_singleton, List.length_range]
      have hlj := draws_81 hs (n := j) (by omega)
      refine ⟨_, _, [.d (eS src), .d (.int n), .d (.list ((draws src (j + 1)).map eD)), .d (.int j), .d (.list ((draws src (j + 1)).map eD)), .u, .u, .u, .u], gv_name 3 sc__law_drawings.nd, bj_cons (sj_set 4 sc__law_drawings.nd (ev_of_ef (ef_lst av_nil)))
        (bj_cons (sj_for (iv_list (ev_name 2 rfl)) (for_preS eD (fun q => [.d (eS src), .d (.int n), .d (.list ((draws src j).map eD)), .d (.int j), .d (.list ((q.flatMap (drawIn src)).map eD)), .u, .u, .u, .u]) (fun _ => []) (draws src j) rfl rfl fun q own suf2 e2 => ?_))
          (bj_one (sj_set 2 sc__law_drawings.nd (ev_name 4 rfl)))), ?_⟩
      · have hown := draws_mem hs j own (by rw [e2]; simp)
        have hq : (q.flatMap (drawIn src)).length ≤ 243 := by
          have h := len_flatMap_le (c := 3) (f := drawIn src) (xs := q) fun x _ => by rw [List.length_map]; exact hs.len
          have hl := congrArg List.length e2
          rw [List.length_append] at hl
          exact Nat.le_trans h (Nat.mul_le_mul_right 3 (show q.length ≤ 81 by omega))
        have hsl := hs.len
        refine ⟨_, _, _, gv_pair 5 6 sc__law_drawings.nd, bj_one (sj_set 4 sc__law_drawings.nd (ev_of_ef (ef_add (ev_name 4 rfl) (ev_of_ef (ef_lc (own := [("_law_own", 7), ("_law_x", 8)]) sc__law_drawings.nd (iv_tup (ev_name 0 rfl)) (blkOk_by (by kernel_rfl))
          (lc_all eQ (fun o => eD (own.1 ++ [o.1], own.2 * o.2)) (fun o => [.d (eS src), .d (.int n), .d (.list ((draws src j).map eD)), .d (.int j), .d (.list ((q.flatMap (drawIn src)).map eD)), .d (eRs own.1), .d (rd own.2), .d (eR o.1), .d (rd o.2)]) (is := [7, 8]) (by simp) src (fun z hz s H C cl fp => gv_pair 7 8 sc__law_drawings.nd)
            (fun z hz s H C cl fp => ev_tup (av_cons (ev_eq (d' := eRs (own.1 ++ [z.1])) (ev_bin op_catA (ov_cat ?_) (ev_name 5 rfl) (ev_tup (av_cons (ev_name 7 rfl) av_nil))) (by show _ = PyData.tuple ((own.1 ++ [z.1]).map eR); rw [List.map_append]; rfl)) (av_cons (ev_call G1 hr (av_cons (ev_name 6 rfl) (av_cons (ev_name 8 rfl) av_nil)) ⟨own.2, z.2, rfl, sz_of hown.2.2 (by omega), sz_of (hs.fit z hz) (by decide), rfl⟩) av_nil)))) ?_)) ?_))), ?_⟩
        · rw [List.length_map]
          show _ + 1 ≤ _
          omega
        · rw [List.length_map]
          omega
        · rw [List.length_map, List.length_map]
          omega
        · have e4 : (q ++ [own]).flatMap (drawIn src) = q.flatMap (drawIn src) ++ drawIn src own := by simp
          rw [e4, List.map_append (l₁ := q.flatMap (drawIn src))]
          have e5 : (drawIn src own).map eD = src.map fun o => eD (own.1 ++ [o.1], own.2 * o.2) := by
            rw [List.map_map]
            rfl
          rw [e5]
          exact .keep (.keep (.keep (.keep (.keep (.drop (.drop (.keep (.keep .nil))))))))
      · exact .keep (.keep (.keep (.drop (.drop (.keep (.keep (.keep (.keep .nil))))))))
    · show Rs.rt (.list ((draws src (List.range n).length).map eD)) _ = _
      rw [List.length_range]
end
end DW

/-! Pr16: the law's told means, parts, spreads. -/
namespace DW
open PySem PySem.Spec PyProof.Rows L2 DM
def toldT (w : Wish) (rows : List Row) (q : List Row × Rat) : Rat := q.2 * bestV w (rows ++ q.1)
def toldV (w : Wish) (s : Src) (rows : List Row) : Rat := rsum ((draws s (deg w - rows.length)).map (toldT w rows))
theorem toldT_fit {w : Wish} (hw : W0 w) {s : Src} (hs : SrcOk s) {rows : List Row} (hr : ∀ r ∈ rows, RowOk r) (hl : rows.length ≤ deg w) {q : List Row × Rat} (hq : q ∈ draws s (deg w - rows.length)) : RowsOk (rows ++ q.1) ∧ deg w ≤ (rows ++ q.1).length ∧ Fit 3 q.2 ∧ Fit 12 (toldT w rows q) := by
  have hd := hw.deg
  obtain ⟨a, b, c⟩ := draws_mem hs _ q hq
  have e : (rows ++ q.1).length = deg w := by rw [List.length_append, a]; omega
  have h1 : RowsOk (rows ++ q.1) := ⟨by omega, fun r h => (List.mem_append.mp h).elim (hr r) (b r)⟩
  have h3 : Fit 3 q.2 := c.mono (by omega)
  exact ⟨h1, by omega, h3, h3.mul (bestV_fit hw h1 (by omega))⟩
theorem told_sum {w : Wish} (hw : W0 w) {s : Src} (hs : SrcOk s) {rows : List Row} (hr : ∀ r ∈ rows, RowOk r) (hl : rows.length ≤ deg w) : (∀ x ∈ (draws s (deg w - rows.length)).map (toldT w rows), Fit 12 x) ∧ ((draws s (deg w - rows.length)).map (toldT w rows)).length ≤ G := by
  refine ⟨fun x hx => ?_, ?_⟩
  · obtain ⟨q, hq, rfl⟩ := List.mem_map.mp hx
    exact (toldT_fit hw hs hr hl hq).2.2.2
  · rw [List.length_map]
    have := draws_81 hs (n := deg w - rows.length) (by have := hw.deg; omega)
    have : 81 ≤ G := by decide
    omega
theorem toldV_fit {w : Wish} (hw : W0 w) {s : Src} (hs : SrcOk s) {rows : List Row} (hr : ∀ r ∈ rows, RowOk r) (hl : rows.length ≤ deg w) : Fit 13 (toldV w s rows) := Fit.sum (told_sum hw hs hr hl).1 (told_sum hw hs hr hl).2
/-! ### parts -/
def lotStep (L : List (List Row)) (r : Row) : List (List Row) := L ++ L.map fun l => l ++ [r]
def lotsOf (rows : List Row) : List (List Row) := rows.foldl lotStep [[]]
theorem lots_snoc (rows : List Row) (r : Row) : lotsOf (rows ++ [r]) = lotStep (lotsOf rows) r := by simp [lotsOf, List.foldl_append]
theorem lots_mem (rows : List Row) : (lotsOf rows).length = 2 ^ rows.length ∧ ∀ l ∈ lotsOf rows, l.length ≤ rows.length ∧ ∀ r ∈ l, r ∈ rows := by
  induction rows using rev_ind with
  | h0 => exact ⟨rfl, fun l hl => by
      have : l = [] := by simpa [lotsOf] using hl
      subst this
      exact ⟨Nat.le_refl _, by simp⟩⟩
  | h1 rows r ih =>
    obtain ⟨i1, i2⟩ := ih
    rw [lots_snoc]
    refine ⟨?_, fun l hl => ?_⟩
    · unfold lotStep
      rw [List.length_append, List.length_map, i1, List.length_append, List.length_singleton, Nat.pow_succ]
      omega
    · rw [List.length_append, List.length_singleton]
      rcases List.mem_append.mp hl with h | h
      · exact ⟨by have := (i2 l h).1; omega, fun r' hr => List.mem_append_left _ ((i2 l h).2 r' hr)⟩
      · obtain ⟨l', h', rfl⟩ := List.mem_map.mp h
        refine ⟨by have := (i2 l' h').1; rw [List.length_append, List.length_singleton]; omega, fun r' hr => ?_⟩
        rcases List.mem_append.mp hr with h2 | h2
        · exact List.mem_append_left _ ((i2 l' h').2 r' h2)
        · exact List.mem_append_right _ h2
def sgL (n j : Nat) : Int := if (n - j) % 2 = 1 then -1 else 1
theorem sgL_d {n j : Nat} (h : j ≤ n) : (if (((n : Int) - (j : Int)) % 2 == 1) = true then PyData.int (-1) else .int 1) = .int (sgL n j) := by
  unfold sgL
  by_cases e : (n - j) % 2 = 1
  · rw [if_pos e, if_pos (by rw [beq_iff_eq]; omega)]
  · rw [if_neg e, if_neg (by rw [beq_iff_eq]; omega)]
theorem sgL_fit (n j : Nat) : Fit 1 ((sgL n j : Int) : Rat) := by
  refine fit_int ?_
  unfold sgL
  split <;> decide
def partT (w : Wish) (s : Src) (n : Nat) (l : List Row) : Rat := ((sgL n l.length : Int) : Rat) * toldV w s l
def partV (w : Wish) (s : Src) (rows : List Row) : Rat := rsum ((lotsOf rows).map (partT w s rows.length))
theorem part_sum {w : Wish} (hw : W0 w) {s : Src} (hs : SrcOk s) {rows : List Row} (hr : ∀ r ∈ rows, RowOk r) (hl : rows.length ≤ deg w) : (∀ x ∈ (lotsOf rows).map (partT w s rows.length), Fit 14 x) ∧ ((lotsOf rows).map (partT w s rows.length)).length ≤ G := by
  obtain ⟨a, b⟩ := lots_mem rows
  refine ⟨fun x hx => ?_, ?_⟩
  · obtain ⟨l, h, rfl⟩ := List.mem_map.mp hx
    exact ((sgL_fit _ _).mul (toldV_fit hw hs (fun r h2 => hr r ((b l h).2 r h2)) (by have := (b l h).1; omega)))
  · rw [List.length_map, a]
    have h1 : 2 ^ rows.length ≤ 2 ^ 2 := Nat.pow_le_pow_right (by decide) (by have := hw.deg; omega)
    have : 2 ^ 2 ≤ G := by decide
    omega
theorem partV_fit {w : Wish} (hw : W0 w) {s : Src} (hs : SrcOk s) {rows : List Row} (hr : ∀ r ∈ rows, RowOk r) (hl : rows.length ≤ deg w) : Fit 15 (partV w s rows) := Fit.sum (part_sum hw hs hr hl).1 (part_sum hw hs hr hl).2
/-! ### spreads, shared means -/
theorem W0.wishOk {w : Wish} (h : W0 w) : WishOk 1 w := ⟨h.l3, fun p hp => by have := few2 h hp; omega, fun p hp => h.momOk hp, h.fit⟩
def gapV (w : Wish) (s : Src) (rows : List Row) : Rat := bestV w rows + -wishVal s w
def sprT (w : Wish) (s : Src) (q : List Row × Rat) : Rat := q.2 * (gapV w s q.1 * gapV w s q.1)
def spreadV (w : Wish) (s : Src) (n : Nat) : Rat := rsum ((draws s n).map (sprT w s))
theorem neg_fit {k : Nat} {q : Rat} (h : Fit k q) : Fit k (-q) := by
  obtain ⟨z, h1, h2⟩ := h
  exact ⟨-z, by rw [Rat.neg_mul, h1, Rat.intCast_neg], by rw [Int.natAbs_neg]; exact h2⟩
theorem gapV_fit {w : Wish} (hw : W0 w) {s : Src} (hs : SrcOk s) {rows : List Row} (hr : RowsOk rows) (hd : deg w ≤ rows.length) : Fit 23 (gapV w s rows) :=
  ((bestV_fit hw hr hd).mono (by decide)).add (neg_fit (wishVal_fit (k := 1) hs hw.wishOk))
theorem spr_sum {w : Wish} (hw : W0 w) {s : Src} (hs : SrcOk s) {n : Nat} (hn : n ≤ 3) (hd : deg w ≤ n) : (∀ x ∈ (draws s n).map (sprT w s), Fit 50 x) ∧ ((draws s n).map (sprT w s)).length ≤ G := by
  refine ⟨fun x hx => ?_, ?_⟩
  · obtain ⟨q, hq, rfl⟩ := List.mem_map.mp hx
    obtain ⟨a, b, c⟩ := draws_mem hs n q hq
    have hg := gapV_fit hw hs (draws_rows hs (by omega) hq) (by omega)
    exact (c.mul (hg.mul hg)).mono (by omega)
  · rw [List.length_map]
    have := draws_81 hs (n := n) (by omega)
    have : 81 ≤ G := by decide
    omega
def bothT (w : Wish) (k : Nat) (q : List Row × Rat) : Rat := q.2 * (bestV w (q.1.take (deg w)) * bestV w (q.1.drop (deg w - k)))
def bothV (w : Wish) (s : Src) (k : Nat) : Rat := rsum ((draws s (2 * deg w - k)).map (bothT w k))
theorem both_rows {w : Wish} (hw : W0 w) {s : Src} (hs : SrcOk s) {k : Nat} (hk : k ≤ deg w) {q : List Row × Rat} (hq : q ∈ draws s (2 * deg w - k)) : (RowsOk (q.1.take (deg w)) ∧ deg w ≤ (q.1.take (deg w)).length) ∧ (RowsOk (q.1.drop (deg w - k)) ∧ deg w ≤ (q.1.drop (deg w - k)).length) ∧ Fit 5 q.2 := by
  have hd := hw.deg
  obtain ⟨a, b, c⟩ := draws_mem hs _ q hq
  refine ⟨⟨⟨?_, fun r h => b r (List.mem_of_mem_take h)⟩, ?_⟩, ⟨⟨?_, fun r h => b r (List.mem_of_mem_drop h)⟩, ?_⟩, c.mono (by omega)⟩
  · rw [List.length_take]; omega
  · rw [List.length_take]; omega
  · rw [List.length_drop]; omega
  · rw [List.length_drop]; omega
theorem both_sum {w : Wish} (hw : W0 w) {s : Src} (hs : SrcOk s) {k : Nat} (hk : k ≤ deg w) : (∀ x ∈ (draws s (2 * deg w - k)).map (bothT w k), Fit 23 x) ∧ ((draws s (2 * deg w - k)).map (bothT w k)).length ≤ G := by
  refine ⟨fun x hx => ?_, ?_⟩
  · obtain ⟨q, hq, rfl⟩ := List.mem_map.mp hx
    obtain ⟨⟨a1, a2⟩, ⟨b1, b2⟩, c⟩ := both_rows hw hs hk hq
    exact c.mul ((bestV_fit hw a1 a2).mul (bestV_fit hw b1 b2))
  · rw [List.length_map]
    have := draws_81 hs (n := 2 * deg w - k) (by have := hw.deg; omega)
    have : 81 ≤ G := by decide
    omega
theorem cut_take {α : Type} (f : α → PyData) (xs : List α) (m : Nat) : cutD (xs.map f) none (some (m : Int)) = (xs.take m).map f := by
  unfold cutD
  rw [HT.sIx_none, HT.sIx_nat, List.drop_zero, Nat.sub_zero, ← List.map_take, List.length_map, ← List.take_take, List.take_length]
theorem cut_drop {α : Type} (f : α → PyData) (xs : List α) (m : Nat) (h : m ≤ xs.length) : cutD (xs.map f) (some (m : Int)) none = (xs.drop m).map f := by
  unfold cutD
  rw [HT.sIx_none, HT.sIx_nat, List.length_map, Nat.min_eq_left h, ← List.map_drop, List.take_of_length_le (by rw [List.length_map, List.length_drop]; omega)]
section
variable {P : Program} {w : World} {K : PySem.W.Frag} {mg : Str → Option Value} {base : Heap}
def R_ltold (ds : List PyData) (d : PyData) : Prop := ∃ (w : Wish) (s : Src) (rows : List Row), ds = [eW w, eS s, eRs rows] ∧ W0 w ∧ SrcOk s ∧ (∀ r ∈ rows, RowOk r) ∧ rows.length ≤ deg w ∧ d = rd (toldV w s rows)
theorem ok_law_told (D : Df K mg "_law_told_mean" s__law_told_mean) (G1 : Fn P w K mg base 2 "_law_mul" (spP K (R_two (· * ·)))) (G2 : Fn P w K mg base 2 "_law_add" (spP K (R_two (· + ·)))) (G3 : Fn P w K mg base 3 "_law_best" (spP K R_lbest)) (G4 : Fn P w K mg base 3 "_law_drawings" (spP K R_draws)) (G5 : Fn P w K mg base 1 "_law_degree" (spP K R_degree)) (m1 : mg "len" = none) : Fn P w K mg base 4 "_law_told_mean" (spP K R_ltold) := by
  refine fn_pure (k := 3) D sc__law_told_mean ?_ (fun _ _ _ _ _ _ us hl => match us, hl with | [_, _, _], _ => by kernel_rfl) ?_
  · rintro ds d ⟨a, b, c, rfl, _⟩
    rfl
  · rintro f cdv A outer s H E ds d hr ⟨w, src, rows, rfl, hw, hs, hro, hl, rfl⟩
    have hd := hw.deg
    obtain ⟨hB1, hB2⟩ := told_sum hw hs hro hl
    have hS := sum_sz hB1 (by decide) hB2
    have en : (deg w : Int) - (rows.length : Int) = ((deg w - rows.length : Nat) : Int) := by omega
    refine ⟨[], bj_cons (sj_set 3 sc__law_told_mean.nd (ev_eq (d' := .int (deg w - rows.length : Nat)) (ev_sub (ev_call G5 hr (av_cons (ev_name 0 rfl) av_nil) ⟨w, rfl, hw.l3, rfl⟩) (ev_lenT m1 (ev_name 2 rfl))) (by rw [List.length_map, en])))
      (bj_cons (sj_set 4 sc__law_told_mean.nd (ev_eq (d' := rd 0) (ev_tup (av_cons ev_int (av_cons ev_int av_nil))) rfl))
      (bj_cons (sj_for (iv_list (ev_call G4 hr (av_cons (ev_name 1 rfl) (av_cons (ev_name 3 rfl) av_nil)) ⟨src, _, rfl, hs, by omega, rfl⟩)) (for_preS eD (fun pre => [.d (eW w), .d (eS src), .d (eRs rows), .d (.int (deg w - rows.length : Nat)), .d (rd (rsum (pre.map (toldT w rows)))), .u, .u]) (fun _ => []) (draws src (deg w - rows.length)) rfl rfl fun pre q suf e => ?_))
      (bj_one (sj_ret (ev_name 4 rfl)))))⟩
    have hq : q ∈ draws src (deg w - rows.length) := by rw [e]; simp
    obtain ⟨t1, t2, t3, t4⟩ := toldT_fit hw hs hro hl hq
    have hpre : Sz (rsum (pre.map (toldT w rows))) := hS.2 _ (by rw [e, List.map_append]; exact List.prefix_append _ _)
    refine ⟨_, _, _, gv_pair 5 6 sc__law_told_mean.nd, bj_one (sj_set 4 sc__law_told_mean.nd (ev_call G2 hr (av_cons (ev_name 4 rfl) (av_cons (ev_call G1 hr (av_cons (ev_name 6 rfl) (av_cons (ev_call G3 hr (av_cons (ev_name 0 rfl) (av_cons (ev_eq (d' := eRs (rows ++ q.1)) (ev_bin op_catA (ov_cat ?_) (ev_name 2 rfl) (ev_name 5 rfl)) ?_) av_nil)) ⟨w, _, rfl, hw, t1, t2, rfl⟩) av_nil)) ⟨_, _, rfl, sz_of t3 (by decide), sz_of (bestV_fit hw t1 t2) (by decide), rfl⟩) av_nil)) ⟨_, toldT w rows q, rfl, hpre, sz_of t4 (by decide), rfl⟩)), ?_⟩
    · have := t1.len
      rw [List.length_append] at this
      rw [List.length_map, List.length_map]
      omega
    · show _ = PyData.tuple ((rows ++ q.1).map eR)
      rw [List.map_append]
    · rw [List.map_append, List.map_singleton, rsum_snoc]
      exact .keep (.keep (.keep (.keep (.keep (.drop (.drop .nil))))))
def R_lpart (ds : List PyData) (d : PyData) : Prop := ∃ (w : Wish) (s : Src) (rows : List Row), ds = [eW w, eS s, eRs rows] ∧ W0 w ∧ SrcOk s ∧ (∀ r ∈ rows, RowOk r) ∧ rows.length ≤ deg w ∧ d = rd (partV w s rows)
theorem ok_law_part (D : Df K mg "_law_part" s__law_part) (G1 : Fn P w K mg base 2 "_law_mul" (spP K (R_two (· * ·)))) (G2 : Fn P w K mg base 2 "_law_add" (spP K (R_two (· + ·)))) (G3 : Fn P w K mg base 4 "_law_told_mean" (spP K R_ltold)) (m1 : mg "len" = none) : Fn P w K mg base 5 "_law_part" (spP K R_lpart) := by
  refine fn_pure (k := 4) D sc__law_part ?_ (fun _ _ _ _ _ _ us hl => match us, hl with | [_, _, _], _ => by kernel_rfl) ?_
  · rintro ds d ⟨a, b, c, rfl, _⟩
    rfl
  · rintro f cdv A outer s H E ds d hr ⟨w, src, rows, rfl, hw, hs, hro, hl, rfl⟩
    have hd := hw.deg
    obtain ⟨hB1, hB2⟩ := part_sum hw hs hro hl
    have hS := sum_sz hB1 (by decide) hB2
    obtain ⟨n1, n2⟩ := lots_mem rows
    refine ⟨[], bj_cons (sj_par 3 4 sc__law_part.nd (av_cons (ev_of_ef (ef_lst (av_cons (ev_tup av_nil) av_nil))) (av_cons (ev_tup (av_cons ev_int (av_cons ev_int av_nil))) av_nil)))
      (bj_cons (sj_for (iv_tup (ev_name 2 rfl)) (for_preS eR (fun pre => [.d (eW w), .d (eS src), .d (eRs rows), .d (.list ((lotsOf pre).map eRs)), .d (rd 0), .u, .u, .u]) (fun _ => []) rows rfl rfl fun pre r suf e => ?_))
      (bj_cons (sj_for (iv_list (ev_name 3 rfl)) (for_preS eRs (fun pre => [.d (eW w), .d (eS src), .d (eRs rows), .d (.list ((lotsOf rows).map eRs)), .d (rd (rsum (pre.map (partT w src rows.length)))), .u, .u, .u]) (fun _ => []) (lotsOf rows) rfl rfl fun pre l suf e => ?_))
      (bj_one (sj_ret (ev_name 4 rfl)))))⟩
    · obtain ⟨p1, p2⟩ := lots_mem pre
      have hpl : pre.length ≤ 1 := by
        have := congrArg List.length e
        rw [List.length_append, List.length_cons] at this
        omega
      have h4 : (lotsOf pre).length ≤ 2 := by
        rw [p1]
        exact Nat.le_trans (Nat.pow_le_pow_right (by decide) hpl) (by decide)
      refine ⟨_, _, _, gv_name 5 sc__law_part.nd, bj_one (sj_set 3 sc__law_part.nd (ev_of_ef (ef_add (ev_name 3 rfl) (ev_of_ef (ef_lc (own := [("_law_lot", 6)]) sc__law_part.nd (iv_list (ev_name 3 rfl)) (blkOk_by (by kernel_rfl)) (lc_all eRs (fun l => eRs (l ++ [r])) (fun l => [.d (eW w), .d (eS src), .d (eRs rows), .d (.list ((lotsOf pre).map eRs)), .d (rd 0), .d (eR r), .d (eRs l), .u]) (is := [6]) (by simp) (lotsOf pre) (fun z hz s H C cl fp => gv_name 6 sc__law_part.nd)
        (fun z hz s H C cl fp => ev_eq (d' := eRs (z ++ [r])) (ev_bin op_catA (ov_cat ?_) (ev_name 6 rfl) (ev_tup (av_cons (ev_name 5 rfl) av_nil))) (by show _ = PyData.tuple ((z ++ [r]).map eR); rw [List.map_append]; rfl))) ?_)) ?_))), ?_⟩
      · have := (p2 z hz).1
        rw [List.length_map]
        show _ + 1 ≤ _
        omega
      · rw [List.length_map]; omega
      · rw [List.length_map, List.length_map]; omega
      · rw [lots_snoc]
        unfold lotStep
        rw [List.map_append, List.map_map]
        exact .keep (.keep (.keep (.keep (.keep (.drop (.keep (.keep .nil)))))))
    · obtain ⟨l1, l2⟩ := n2 l (by rw [e]; simp)
      have hpre : Sz (rsum (pre.map (partT w src rows.length))) := hS.2 _ (by rw [e, List.map_append]; exact List.prefix_append _ _)
      have ht := toldV_fit hw hs (rows := l) (fun r h => hro r (l2 r h)) (by omega)
      have hs1 := sgL_fit rows.length l.length
      refine ⟨_, _, [.d (eW w), .d (eS src), .d (eRs rows), .d (.list ((lotsOf rows).map eRs)), .d (rd (rsum (pre.map (partT w src rows.length)) + partT w src rows.length l)), .u, .d (eRs l), .d (.int (sgL rows.length l.length))], gv_name 6 sc__law_part.nd, bj_cons (sj_set 7 sc__law_part.nd (ev_eq (ev_if (tv_cmp op_eq ov_eqI (ev_mod (by decide) (ev_sub (ev_lenT m1 (ev_name 2 rfl)) (ev_lenT m1 (ev_name 6 rfl))) ev_int) ev_int) (fun _ => ev_neg ev_int) (fun _ => ev_int)) (by rw [List.length_map, List.length_map]; exact sgL_d l1)))
        (bj_one (sj_set 4 sc__law_part.nd (ev_call G2 hr (av_cons (ev_name 4 rfl) (av_cons (ev_call G1 hr (av_cons (ev_tup (av_cons (ev_name 7 rfl) (av_cons ev_int av_nil))) (av_cons (ev_call G3 hr (av_cons (ev_name 0 rfl) (av_cons (ev_name 1 rfl) (av_cons (ev_name 6 rfl) av_nil))) ⟨w, src, l, rfl, hw, hs, fun r h => hro r (l2 r h), by omega, rfl⟩) av_nil)) ⟨((sgL rows.length l.length : Int) : Rat), _, rfl, sz_of hs1 (by decide), sz_of ht (by decide), rfl⟩) av_nil)) ⟨_, partT w src rows.length l, rfl, hpre, sz_of (hs1.mul ht) (by decide), rfl⟩))), ?_⟩
      rw [List.map_append, List.map_singleton, rsum_snoc]
      exact .keep (.keep (.keep (.keep (.keep (.keep (.drop (.drop .nil)))))))
def R_lspread (ds : List PyData) (d : PyData) : Prop := ∃ (w : Wish) (s : Src) (n : Nat), ds = [eW w, eS s, .int n] ∧ W0 w ∧ SrcOk s ∧ deg w ≤ n ∧ n ≤ 3 ∧ d = rd (spreadV w s n)
theorem ok_law_spread (D : Df K mg "_law_spread" s__law_spread) (G1 : Fn P w K mg base 2 "_law_mul" (spP K (R_two (· * ·)))) (G2 : Fn P w K mg base 2 "_law_add" (spP K (R_two (· + ·)))) (G3 : Fn P w K mg base 3 "_law_best" (spP K R_lbest)) (G4 : Fn P w K mg base 3 "_law_drawings" (spP K R_draws)) (G5 : Fn P w K mg base 5 "_law_worth" (spP K R_wishVal)) : Fn P w K mg base 6 "_law_spread" (spP K R_lspread) := by
  refine fn_pure (k := 5) D sc__law_spread ?_ (fun _ _ _ _ _ _ us hl => match us, hl with | [_, _, _], _ => by kernel_rfl) ?_
  · rintro ds d ⟨a, b, c, rfl, _⟩
    rfl
  · rintro f cdv A outer s H E ds d hr ⟨w, src, n, rfl, hw, hs, hd, hn, rfl⟩
    obtain ⟨hB1, hB2⟩ := spr_sum hw hs hn hd
    have hS := sum_sz hB1 (by decide) hB2
    have hg0 : Fit 22 (-wishVal src w) := neg_fit (wishVal_fit (k := 1) hs hw.wishOk)
    have eneg : PyData.tuple [.int (0 - (wishVal src w).num), .int (wishVal src w).den] = rd (-wishVal src w) := by
      rw [Int.zero_sub]
      rfl
    refine ⟨[], bj_cons (sj_par 3 4 sc__law_spread.nd (av_cons (ev_call G5 hr (av_cons (ev_name 0 rfl) (av_cons (ev_name 1 rfl) av_nil)) ⟨w, src, 1, rfl, hw.wishOk, hs, by decide, rfl⟩) (av_cons (ev_tup (av_cons ev_int (av_cons ev_int av_nil))) av_nil)))
      (bj_cons (sj_for (iv_list (ev_call G4 hr (av_cons (ev_name 1 rfl) (av_cons (ev_name 2 rfl) av_nil)) ⟨src, n, rfl, hs, by omega, rfl⟩)) (for_preS eD (fun pre => [.d (eW w), .d (eS src), .d (.int n), .d (rd (wishVal src w)), .d (rd (rsum (pre.map (sprT w src)))), .u, .u, .u]) (fun _ => []) (draws src n) rfl rfl fun pre q suf e => ?_))
      (bj_one (sj_ret (ev_name 4 rfl))))⟩
    have hq : q ∈ draws src n := by rw [e]; simp
    obtain ⟨a, b, c⟩ := draws_mem hs n q hq
    have t1 := draws_rows hs (n := n) (by omega) hq
    have t2 : deg w ≤ q.1.length := by omega
    have hb := bestV_fit hw t1 t2
    have hg := gapV_fit hw hs t1 t2
    have hpre : Sz (rsum (pre.map (sprT w src))) := hS.2 _ (by rw [e, List.map_append]; exact List.prefix_append _ _)
    refine ⟨_, _, [.d (eW w), .d (eS src), .d (.int n), .d (rd (wishVal src w)), .d (rd (rsum (pre.map (sprT w src)) + sprT w src q)), .d (eRs q.1), .d (rd q.2), .d (rd (gapV w src q.1))], gv_pair 5 6 sc__law_spread.nd,
      bj_cons (sj_set 7 sc__law_spread.nd (ev_call G2 hr (av_cons (ev_call G3 hr (av_cons (ev_name 0 rfl) (av_cons (ev_name 5 rfl) av_nil)) ⟨w, q.1, rfl, hw, t1, t2, rfl⟩) (av_cons (ev_eq (d' := rd (-wishVal src w)) (ev_tup (av_cons (ev_sub ev_int (ev_ixT (ev_name 3 rfl) ev_int rfl)) (av_cons (ev_ixT (ev_name 3 rfl) ev_int rfl) av_nil))) eneg) av_nil)) ⟨_, _, rfl, sz_of hb (by decide), sz_of hg0 (by decide), rfl⟩))
        (bj_one (sj_set 4 sc__law_spread.nd (ev_call G2 hr (av_cons (ev_name 4 rfl) (av_cons (ev_call G1 hr (av_cons (ev_name 6 rfl) (av_cons (ev_call G1 hr (av_cons (ev_name 7 rfl) (av_cons (ev_name 7 rfl) av_nil)) ⟨gapV w src q.1, gapV w src q.1, rfl, sz_of hg (by decide), sz_of hg (by decide), rfl⟩) av_nil)) ⟨_, _, rfl, sz_of c (by omega), sz_of (hg.mul hg) (by decide), rfl⟩) av_nil)) ⟨_, sprT w src q, rfl, hpre, sz_of (c.mul (hg.mul hg)) (by omega), rfl⟩))), ?_⟩
    rw [List.map_append, List.map_singleton, rsum_snoc]
    exact .keep (.keep (.keep (.keep (.keep (.drop (.drop (.drop .nil)))))))
def R_lboth (ds : List PyData) (d : PyData) : Prop := ∃ (w : Wish) (s : Src) (k : Nat), ds = [eW w, eS s, .int k] ∧ W0 w ∧ SrcOk s ∧ k ≤ deg w ∧ d = rd (bothV w s k)
theorem ok_law_both (D : Df K mg "_law_both" s__law_both) (G1 : Fn P w K mg base 2 "_law_mul" (spP K (R_two (· * ·)))) (G2 : Fn P w K mg base 2 "_law_add" (spP K (R_two (· + ·)))) (G3 : Fn P w K mg base 3 "_law_best" (spP K R_lbest)) (G4 : Fn P w K mg base 3 "_law_drawings" (spP K R_draws)) (G5 : Fn P w K mg base 1 "_law_degree" (spP K R_degree)) : Fn P w K mg base 4 "_law_both" (spP K R_lboth) := by
  refine fn_pure (k := 3) D sc__law_both ?_ (fun _ _ _ _ _ _ us hl => match us, hl with | [_, _, _], _ => by kernel_rfl) ?_
  · rintro ds d ⟨a, b, c, rfl, _⟩
    rfl
  · rintro f cdv A outer s H E ds d hr ⟨w, src, k, rfl, hw, hs, hk, rfl⟩
    have hd := hw.deg
    obtain ⟨hB1, hB2⟩ := both_sum hw hs hk
    have hS := sum_sz hB1 (by decide) hB2
    have en : (2 : Int) * (deg w : Int) - (k : Int) = ((2 * deg w - k : Nat) : Int) := by omega
    have en2 : (deg w : Int) - (k : Int) = ((deg w - k : Nat) : Int) := by omega
    refine ⟨[], bj_cons (sj_par 3 4 sc__law_both.nd (av_cons (ev_call G5 hr (av_cons (ev_name 0 rfl) av_nil) ⟨w, rfl, hw.l3, rfl⟩) (av_cons (ev_tup (av_cons ev_int (av_cons ev_int av_nil))) av_nil)))
      (bj_cons (sj_for (iv_list (ev_call G4 hr (av_cons (ev_name 1 rfl) (av_cons (ev_eq (ev_sub (ev_mul (wide_mul (a := 2) (b := 2) (by decide) (by omega) (by decide) (by decide) (by decide)) ev_int (ev_name 3 rfl)) (ev_name 2 rfl)) (congrArg PyData.int en)) av_nil)) ⟨src, _, rfl, hs, by omega, rfl⟩)) (for_preS eD (fun pre => [.d (eW w), .d (eS src), .d (.int k), .d (.int (deg w)), .d (rd (rsum (pre.map (bothT w k)))), .u, .u, .u, .u]) (fun _ => []) (draws src (2 * deg w - k)) rfl rfl fun pre q suf e => ?_))
      (bj_one (sj_ret (ev_name 4 rfl))))⟩
    have hq : q ∈ draws src (2 * deg w - k) := by rw [e]; simp
    obtain ⟨⟨a1, a2⟩, ⟨b1, b2⟩, c⟩ := both_rows hw hs hk hq
    have hx := bestV_fit hw a1 a2
    have hy := bestV_fit hw b1 b2
    have hql := (draws_mem hs _ q hq).1
    have hpre : Sz (rsum (pre.map (bothT w k))) := hS.2 _ (by rw [e, List.map_append]; exact List.prefix_append _ _)
    refine ⟨_, _, [.d (eW w), .d (eS src), .d (.int k), .d (.int (deg w)), .d (rd (rsum (pre.map (bothT w k)) + bothT w k q)), .d (eRs q.1), .d (rd q.2), .d (rd (bestV w (q.1.take (deg w)))), .d (rd (bestV w (q.1.drop (deg w - k))))], gv_pair 5 6 sc__law_both.nd,
      bj_cons (sj_par 7 8 sc__law_both.nd (av_cons (ev_call G3 hr (av_cons (ev_name 0 rfl) (av_cons (ev_eq (d' := eRs (q.1.take (deg w))) (ev_slT (ev_name 5 rfl) pv_none (pv_some (ev_name 3 rfl))) (congrArg PyData.tuple (cut_take eR q.1 (deg w)))) av_nil)) ⟨w, _, rfl, hw, a1, a2, rfl⟩)
          (av_cons (ev_call G3 hr (av_cons (ev_name 0 rfl) (av_cons (ev_eq (d' := eRs (q.1.drop (deg w - k))) (ev_slT (ev_name 5 rfl) (pv_some (ev_eq (ev_sub (ev_name 3 rfl) (ev_name 2 rfl)) (congrArg PyData.int en2))) pv_none) (congrArg PyData.tuple (cut_drop eR q.1 (deg w - k) (by omega)))) av_nil)) ⟨w, _, rfl, hw, b1, b2, rfl⟩) av_nil)))
        (bj_one (sj_set 4 sc__law_both.nd (ev_call G2 hr (av_cons (ev_name 4 rfl) (av_cons (ev_call G1 hr (av_cons (ev_name 6 rfl) (av_cons (ev_call G1 hr (av_cons (ev_name 7 rfl) (av_cons (ev_name 8 rfl) av_nil)) ⟨_, _, rfl, sz_of hx (by decide), sz_of hy (by decide), rfl⟩) av_nil)) ⟨_, _, rfl, sz_of c (by decide), sz_of (hx.mul hy) (by decide), rfl⟩) av_nil)) ⟨_, bothT w k q, rfl, hpre, sz_of (c.mul (hx.mul hy)) (by decide), rfl⟩))), ?_⟩
    rw [List.map_append, List.map_singleton, rsum_snoc]
    exact .keep (.keep (.keep (.keep (.keep (.drop (.drop (.drop (.drop .nil))))))))
def R_spBy (ds : List PyData) (d : PyData) : Prop := ∃ (V : List Rat) (n : Nat), ds = [.list (V.map rd), .int n] ∧ V.length ≤ 2 ∧ V.length ≤ n ∧ n ≤ 1000 ∧ SpSz V.length n V ∧ d = rd (spV V.length n V)
theorem ok_law_spread_by (D : Df K mg "_law_spread_by" s__law_spread_by) (G1 : Fn P w K mg base 2 "_law_mul" (spP K (R_two (· * ·)))) (G2 : Fn P w K mg base 3 "_law_sum" (spP K R_sum)) (G3 : Fn P w K mg base 1 "_law_low" (spP K R_fraction)) (G4 : Fn P w K mg base 1 "_law_choose" (spP K R_choose)) (m1 : mg "len" = none) (m2 : mg "range" = none) (m3 : mg "zip" = none) : Fn P w K mg base 4 "_law_spread_by" (spP K R_spBy) := by
  refine fn_pure (k := 3) D sc__law_spread_by ?_ (fun _ _ _ _ _ _ us hl => match us, hl with | [_, _], _ => by kernel_rfl) ?_
  · rintro ds d ⟨a, b, rfl, _⟩
    rfl
  · rintro f cdv A outer s H E ds d hr ⟨V, n, rfl, hV, hd, hn, hz, rfl⟩
    have ez : (((sharesL V.length n).map rd).zip (V.map rd)).map (fun p => pairD p.1 p.2) = ((sharesL V.length n).zip V).map fun p => pairD (rd p.1) (rd p.2) := by
      rw [List.zip_map, List.map_map]
      rfl
    have el : ((sharesL V.length n).zip V).map (fun p => rd (p.1 * p.2)) = (spList V.length n V).map rd := by
      unfold spList
      rw [List.map_map]
      rfl
    have e2 : (List.range V.length).map (fun i => rd (shareN V.length n (i + 1))) = (sharesL V.length n).map rd := by
      unfold sharesL
      rw [List.map_map]
      rfl
    generalize hm : V.length = m at *
    refine ⟨[], bj_cons (sj_set 2 sc__law_spread_by.nd (ev_eq (d' := .int m) (ev_lenL m1 (lv_of_ev (ev_name 0 rfl))) (by rw [List.length_map, hm])))
      (bj_cons (sj_eq (sj_setLc 3 (own := [("_law_k", 4)]) sc__law_spread_by.nd (iv_eq (iv_range m2 (ev_name 2 rfl) (by omega) (by omega)) (rng0 m)) (blkOk_by (by kernel_rfl)) (lc_all eN (fun i => rd (shareN m n (i + 1))) (fun i => [.d (.list (V.map rd)), .d (.int n), .d (.int m), .u, .d (eN i), .u, .u]) (is := [4]) (by simp) (List.range m) (fun z hz s H C cl fp => gv_name 4 sc__law_spread_by.nd) (fun z hzz s H C cl fp => ?_)) ?_) (congrArg (fun l => Rs.nx [SV.d (.list (V.map rd)), .d (.int n), .d (.int m), .d (.list l), .u, .u, .u] []) e2))
      (bj_one (sj_ret (ev_call G2 hr (av_cons (ev_of_ef (ef_eq (ef_lc (own := [("_law_share", 5), ("_law_own", 6)]) sc__law_spread_by.nd (iv_eq (iv_zipL m3 (av_cons (ev_name 3 rfl) (av_cons (ev_name 0 rfl) av_nil))) ez) (blkOk_by (by kernel_rfl)) (lc_all (fun p : Rat × Rat => pairD (rd p.1) (rd p.2)) (fun p => rd (p.1 * p.2)) (fun p => [.d (.list (V.map rd)), .d (.int n), .d (.int m), .d (.list ((sharesL m n).map rd)), .u, .d (rd p.1), .d (rd p.2)]) (is := [5, 6]) (by simp) _ (fun z hz s H C cl fp => gv_pair 5 6 sc__law_spread_by.nd)
        (fun z hzz s H C cl fp => ev_call G1 hr (av_cons (ev_name 5 rfl) (av_cons (ev_name 6 rfl) av_nil)) ⟨z.1, z.2, rfl, (hz.two z hzz).1, (hz.two z hzz).2, rfl⟩)) ?_) el)) av_nil) ⟨spList m n V, rfl, hz.all, hz.pre, rfl⟩))))⟩
    · have hz' := List.mem_range.mp hzz
      obtain ⟨c1, c2, _, _⟩ := cp_small (d := m) (k := z + 1) hV (by omega)
      obtain ⟨c3, c4⟩ := comb_le (n := n) (k := z + 1) (by omega) hn (by omega)
      refine ev_call G3 hr (av_cons (ev_pow ?_ (ev_call G4 hr (av_cons (ev_name 2 rfl) (av_cons (ev_eq (d' := .int (z + 1 : Nat)) (ev_add (ev_name 4 rfl) ev_int) rfl) av_nil)) ⟨m, z + 1, rfl, by omega, by omega, by omega, rfl⟩) ev_int) (av_cons (ev_call G4 hr (av_cons (ev_name 1 rfl) (av_cons (ev_eq (d' := .int (z + 1 : Nat)) (ev_add (ev_name 4 rfl) ev_int) rfl) av_nil)) ⟨n, z + 1, rfl, by omega, by omega, hn, rfl⟩) av_nil)) ⟨_, _, rfl, c3, ?_, rfl⟩
      · exact ⟨by decide, by decide, by omega⟩
      · have h2 : (2 : Nat) ^ 20 ≤ 2 ^ 8999 := Nat.pow_le_pow_right (by decide) (by decide)
        omega
    · rw [List.length_map, List.length_range]; omega
    · rw [List.length_map, List.length_zip]
      omega
end
end DW

/-! Pr17: the law's sameness. -/
namespace DW
open PySem PySem.Spec PyProof.Rows L2 DM
/-- ints, tuples and lists, to the depth n -/
def Ls : Nat → PyData → Prop
  | _, .int _ => True
  | n + 1, .tuple ds => ds.length ≤ 1000 ∧ ∀ d ∈ ds, Ls n d
  | n + 1, .list ds => ds.length ≤ 1000 ∧ ∀ d ∈ ds, Ls n d
  | _, _ => False
theorem ls_tup {n : Nat} {ds : List PyData} (h : ds.length ≤ 1000) (h2 : ∀ d ∈ ds, Ls n d) : Ls (n + 1) (.tuple ds) := ⟨h, h2⟩
theorem ls_lst {n : Nat} {ds : List PyData} (h : ds.length ≤ 1000) (h2 : ∀ d ∈ ds, Ls n d) : Ls (n + 1) (.list ds) := ⟨h, h2⟩
theorem ls_int (n : Nat) (i : Int) : Ls n (.int i) := by cases n <;> trivial
theorem ls_cases {n : Nat} {d : PyData} (h : Ls n d) : (∃ i, d = .int i) ∨ ∃ m ds, n = m + 1 ∧ ds.length ≤ 1000 ∧ (∀ d ∈ ds, Ls m d) ∧ (d = .tuple ds ∨ d = .list ds) := by
  cases d with
  | int i => exact .inl ⟨i, rfl⟩
  | tuple ds =>
    cases n with
    | zero => exact False.elim h
    | succ m => exact .inr ⟨m, ds, rfl, h.1, h.2, .inl rfl⟩
  | list ds =>
    cases n with
    | zero => exact False.elim h
    | succ m => exact .inr ⟨m, ds, rfl, h.1, h.2, .inr rfl⟩
  | _ => cases n <;> exact False.elim h
theorem zip_self (f : PyData → PyData → PyData) : ∀ ds : List PyData, (ds.zip ds).map (fun p => f p.1 p.2) = ds.map fun d => f d d
  | [] => rfl
  | d :: ds => by
    rw [List.zip_cons_cons, List.map_cons, List.map_cons, zip_self f ds]
theorem all_true : ∀ ds : List PyData, (ds.map fun _ => true).all id = true
  | [] => rfl
  | d :: ds => by
    rw [List.map_cons, List.all_cons, all_true ds]
    rfl
theorem tv_isN {X : Cx} {a : Expr} {ρ : List SV} {μ μ1 : List MO} {i : Int} {pos p2 : Pos} (ha : EV X a ρ μ (.int i) μ1) {j : Nat} : TV X (.Compare a [.Is] [.Constant .none j p2] pos) ρ μ false μ1 := .mk fun B F H σ as R Q q =>
  wpT_of (pt_cmp (pc_isN (peW (e := a)))) (ha.run B F H σ as R _ fun v F1 H1 R1 g1 e1 => ⟨false, by rw [e1.int_inv]; rfl, q F1 H1 R1 g1⟩)
section
variable {P : Program} {w : World} {K : PySem.W.Frag} {mg : Str → Option Value} {base : Heap}
def R_same (n : Nat) (ds : List PyData) (d : PyData) : Prop := ∃ x, ds = [x, x] ∧ Ls n x ∧ d = .bool true
theorem ok_same_step {n : Nat} (D : Df K mg "_law_same" s__law_same) (m1 : mg "isinstance" = none) (m2 : mg "list" = none) (m3 : mg "tuple" = none) (m4 : mg "bool" = none) (m5 : mg "str" = none) (m6 : mg "int" = none) (m7 : mg "len" = none) (m8 : mg "all" = none) (m9 : mg "zip" = none)
    (ih : ∀ m, n = m + 1 → Fn P w K mg base n "_law_same" (spP K (R_same m))) : Fn P w K mg base (n + 1) "_law_same" (spP K (R_same n)) := by
  refine fn_pure (k := n) D sc__law_same ?_ (fun _ _ _ _ _ _ us hl => match us, hl with | [_, _], _ => by kernel_rfl) ?_
  · rintro ds d ⟨a, rfl, _⟩
    rfl
  · rintro f cdv A outer s H E ds d hr ⟨x, rfl, ht, rfl⟩
    rcases ls_cases ht with ⟨i, rfl⟩ | ⟨m, ds, rfl, hl, hd, rfl | rfl⟩
    · refine ⟨[], bj_cons (sj_if (tv_b (ev_isi2 m1 (ev_name 1 rfl) m2 m3 (by kernel_rfl) (by kernel_rfl) (show kitB (tyD (.int i)) "list" = some false by kernel_rfl) (show kitB (tyD (.int i)) "tuple" = some false by kernel_rfl))) (fun z => ?_) fun _ => bj_nil)
        (bj_cons (sj_if (tv_or (tv_isN (ev_name 1 rfl)) (fun _ => tv_b (ev_isi2 m1 (ev_name 1 rfl) m4 m5 (by kernel_rfl) (by kernel_rfl) (show kitB (tyD (.int i)) "bool" = some false by kernel_rfl) (show kitB (tyD (.int i)) "str" = some false by kernel_rfl)))) (fun z => ?_) fun _ => bj_nil)
        (bj_one (sj_eq (sj_ret (ev_and (ev_isi m1 (ev_name 0 rfl) m6 (by kernel_rfl) (show kitB (tyD (.int i)) "int" = some true by kernel_rfl)) (fun _ => ev_and (ev_not (ev_isi m1 (ev_name 0 rfl) m4 (by kernel_rfl) (show kitB (tyD (.int i)) "bool" = some false by kernel_rfl))) (fun _ => ev_one (ev_cmp op_eq ov_eqI (ev_name 0 rfl) (ev_name 1 rfl)))))) ?_)))⟩
      · cases z
      · cases z
      · show Rs.rt (.bool (true && (!false && (i == i)))) _ = _
        rw [beq_self_eq_true]
        rfl
    · refine ⟨[], bj_stop (sj_if (tv_b (ev_isi2 m1 (ev_name 1 rfl) m2 m3 (by kernel_rfl) (by kernel_rfl) (show kitB (tyD (.tuple ds)) "list" = some false by kernel_rfl) (show kitB (tyD (.tuple ds)) "tuple" = some true by kernel_rfl))) (fun _ => bj_cons (sj_if (tv_or (tv_cmp op_ne ov_neB (ev_isi m1 (ev_name 0 rfl) m2 (by kernel_rfl) (show kitB (tyD (.tuple ds)) "list" = some false by kernel_rfl)) (ev_isi m1 (ev_name 1 rfl) m2 (by kernel_rfl) (show kitB (tyD (.tuple ds)) "list" = some false by kernel_rfl))) (fun _ => tv_cmp op_ne ov_neB (ev_isi m1 (ev_name 0 rfl) m3 (by kernel_rfl) (show kitB (tyD (.tuple ds)) "tuple" = some true by kernel_rfl)) (ev_isi m1 (ev_name 1 rfl) m3 (by kernel_rfl) (show kitB (tyD (.tuple ds)) "tuple" = some true by kernel_rfl)))) (fun z => ?_) fun _ => bj_nil)
        (bj_one (sj_eq (sj_ret (ev_and (ev_cmp op_eq ov_eqI (ev_lenT m7 (ev_name 0 rfl)) (ev_lenT m7 (ev_name 1 rfl))) (fun _ => ev_one (ev_all m8 (lv_of_ef (ef_eq (ef_lc (own := [("_law_mine_so", 2), ("_law_own", 3)]) sc__law_same.nd (iv_eq (iv_zipT m9 (av_cons (ev_name 0 rfl) (av_cons (ev_name 1 rfl) av_nil))) (zip_self pairD ds)) (blkOk_by (by kernel_rfl))
          (lc_all (fun d => pairD d d) (fun d => .bool true) (fun d => [.d (.tuple ds), .d (.tuple ds), .d d, .d d]) (is := [2, 3]) (by simp) ds (fun z hz s H C cl fp => gv_pair 2 3 sc__law_same.nd) (fun z hz s H C cl fp => ev_call (ih m rfl) hr (av_cons (ev_name 2 rfl) (av_cons (ev_name 3 rfl) av_nil)) ⟨z, rfl, hd z hz, rfl⟩ (Nat.le_refl _))) (by rw [List.length_map]; omega)) (show _ = (ds.map fun _ => true).map PyData.bool by rw [List.map_map]; rfl))))))) ?_))) (fun z => ?_))⟩
      · cases z
      · show Rs.rt (.bool ((((ds.length : Nat) : Int) == ((ds.length : Nat) : Int)) && (ds.map fun _ => true).all id)) _ = _
        rw [beq_self_eq_true, all_true]
        rfl
      · cases z
    · refine ⟨[], bj_stop (sj_if (tv_b (ev_isi2 m1 (ev_name 1 rfl) m2 m3 (by kernel_rfl) (by kernel_rfl) (show kitB (tyD (.list ds)) "list" = some true by kernel_rfl) (show kitB (tyD (.list ds)) "tuple" = some false by kernel_rfl))) (fun _ => bj_cons (sj_if (tv_or (tv_cmp op_ne ov_neB (ev_isi m1 (ev_name 0 rfl) m2 (by kernel_rfl) (show kitB (tyD (.list ds)) "list" = some true by kernel_rfl)) (ev_isi m1 (ev_name 1 rfl) m2 (by kernel_rfl) (show kitB (tyD (.list ds)) "list" = some true by kernel_rfl))) (fun _ => tv_cmp op_ne ov_neB (ev_isi m1 (ev_name 0 rfl) m3 (by kernel_rfl) (show kitB (tyD (.list ds)) "tuple" = some false by kernel_rfl)) (ev_isi m1 (ev_name 1 rfl) m3 (by kernel_rfl) (show kitB (tyD (.list ds)) "tuple" = some false by kernel_rfl)))) (fun z => ?_) fun _ => bj_nil)
        (bj_one (sj_eq (sj_ret (ev_and (ev_cmp op_eq ov_eqI (ev_lenL m7 (lv_of_ev (ev_name 0 rfl))) (ev_lenL m7 (lv_of_ev (ev_name 1 rfl)))) (fun _ => ev_one (ev_all m8 (lv_of_ef (ef_eq (ef_lc (own := [("_law_mine_so", 2), ("_law_own", 3)]) sc__law_same.nd (iv_eq (iv_zipL m9 (av_cons (ev_name 0 rfl) (av_cons (ev_name 1 rfl) av_nil))) (zip_self pairD ds)) (blkOk_by (by kernel_rfl))
          (lc_all (fun d => pairD d d) (fun d => .bool true) (fun d => [.d (.list ds), .d (.list ds), .d d, .d d]) (is := [2, 3]) (by simp) ds (fun z hz s H C cl fp => gv_pair 2 3 sc__law_same.nd) (fun z hz s H C cl fp => ev_call (ih m rfl) hr (av_cons (ev_name 2 rfl) (av_cons (ev_name 3 rfl) av_nil)) ⟨z, rfl, hd z hz, rfl⟩ (Nat.le_refl _))) (by rw [List.length_map]; omega)) (show _ = (ds.map fun _ => true).map PyData.bool by rw [List.map_map]; rfl))))))) ?_))) (fun z => ?_))⟩
      · cases z
      · show Rs.rt (.bool ((((ds.length : Nat) : Int) == ((ds.length : Nat) : Int)) && (ds.map fun _ => true).all id)) _ = _
        rw [beq_self_eq_true, all_true]
        rfl
      · cases z
theorem ok_law_same (D : Df K mg "_law_same" s__law_same) (m1 : mg "isinstance" = none) (m2 : mg "list" = none) (m3 : mg "tuple" = none) (m4 : mg "bool" = none) (m5 : mg "str" = none) (m6 : mg "int" = none) (m7 : mg "len" = none) (m8 : mg "all" = none) (m9 : mg "zip" = none) : ∀ n, Fn P w K mg base (n + 1) "_law_same" (spP K (R_same n))
  | 0 => ok_same_step D m1 m2 m3 m4 m5 m6 m7 m8 m9 fun m h => by omega
  | n + 1 => ok_same_step D m1 m2 m3 m4 m5 m6 m7 m8 m9 fun m h => by
    have e : m = n := by omega
    subst e
    exact ok_law_same D m1 m2 m3 m4 m5 m6 m7 m8 m9 m
end
end DW

/-! Pr18: the law's urn, cells. -/
namespace DW
open PySem PySem.Spec PyProof.Rows L2 DM
/-! ### * of any two ints of few enough bits -/
theorem op_mulX {X : Cx} : OpR X (binaryOp .Mult) (rI IntMulOk fun i j => .int (i * j)) := opI fun _ _ _ _ _ _ _ hc q => mul_int q hc
theorem ev_mulX {X : Cx} {a b : Expr} {ρ : List SV} {μ μ1 μ2 : List MO} {pos : Pos} {i j : Int} (hc : IntMulOk i j) (ha : EV X a ρ μ (.int i) μ1) (hb : EV X b ρ μ1 (.int j) μ2) : EV X (.BinOp a .Mult b pos) ρ μ (.int (i * j)) μ2 := ev_bin op_mulX (ov_I hc) ha hb
/-! ### the urn -/
structure Urn where
  a : Int
  b : Int
  c : Int
abbrev eU (u : Urn) : List PyData := [.int u.a, .int u.b, .int u.c]
structure UrnOk (N : Nat) (u : Urn) : Prop where
  a : 0 ≤ u.a
  b : 0 ≤ u.b
  b2 : u.b < 2 ^ 62
  c : 0 ≤ u.c
  c2 : u.c ≤ (N : Int)
def onceU (u : Urn) : Int := ((u.b + 48271 * (u.c + 1)) * (39373 + (u.c + 1))) % 2147483647
def farU (u : Urn) : Int := onceU u % 40009 + 7
def twiceU (u : Urn) : Int := ((onceU u + (u.c + 1) + u.b / 1000003) * farU u) % 2147483629
def lastU (u : Urn) : Int := (twiceU u * 48271 + onceU u) % 2147483587 / 64
def takeI (u : Urn) (n : Int) : Int := if u.a > 0 then u.a % n else lastU u % n
def takeN (u : Urn) (n : Nat) : Nat := (takeI u n).toNat
def takeS (u : Urn) (n : Nat) : Urn := if u.a > 0 then ⟨u.a / n, u.b, u.c⟩ else ⟨u.a, u.b, u.c + 1⟩
theorem takeI_bd (u : Urn) {n : Nat} (h : 0 < n) : 0 ≤ takeI u n ∧ takeI u n < n := by
  unfold takeI
  split <;> exact ⟨Int.emod_nonneg _ (by omega), Int.emod_lt_of_pos _ (by omega)⟩
theorem takeN_lt (u : Urn) {n : Nat} (h : 0 < n) : takeN u n < n := by
  have := takeI_bd u h
  unfold takeN
  omega
theorem takeI_cast (u : Urn) {n : Nat} (h : 0 < n) : takeI u n = ((takeN u n : Nat) : Int) := by
  have := takeI_bd u h
  unfold takeN
  omega
theorem UrnOk.take {N : Nat} {u : Urn} (h : UrnOk N u) (n : Nat) : UrnOk (N + 1) (takeS u n) := by
  obtain ⟨h1, h2, h3, h4, h5⟩ := h
  unfold takeS
  split
  · refine ⟨?_, h2, h3, h4, ?_⟩
    · exact Int.ediv_nonneg h1 (by omega)
    · show u.c ≤ _
      omega
  · refine ⟨h1, h2, h3, ?_, ?_⟩
    · show 0 ≤ u.c + 1
      omega
    · show u.c + 1 ≤ _
      omega
theorem UrnOk.mono {N M : Nat} {u : Urn} (h : UrnOk N u) (e : N ≤ M) : UrnOk M u := ⟨h.a, h.b, h.b2, h.c, by have := h.c2; omega⟩
theorem once_bd (u : Urn) : 0 ≤ onceU u ∧ onceU u < 2147483647 := ⟨Int.emod_nonneg _ (by decide), Int.emod_lt_of_pos _ (by decide)⟩
theorem far_bd (u : Urn) : 0 ≤ farU u ∧ farU u < 40016 := by
  have h1 : 0 ≤ onceU u % 40009 := Int.emod_nonneg _ (by decide)
  have h2 : onceU u % 40009 < 40009 := Int.emod_lt_of_pos _ (by decide)
  unfold farU
  omega
theorem twice_bd (u : Urn) : 0 ≤ twiceU u ∧ twiceU u < 2147483629 := ⟨Int.emod_nonneg _ (by decide), Int.emod_lt_of_pos _ (by decide)⟩
section
variable {P : Program} {w : World} {K : PySem.W.Frag} {mg : Str → Option Value} {base : Heap}
def R_take (us ds : List PyData) (d : PyData) (us' : List PyData) : Prop := ∃ (u : Urn) (N n : Nat), us = eU u ∧ UrnOk N u ∧ N ≤ 1000 ∧ ds = [.int n] ∧ 0 < n ∧ n ≤ 1000 ∧ d = eN (takeN u n) ∧ us' = eU (takeS u n)
theorem ok_law_take (D : Df K mg "_law_take" s__law_take) (m1 : mg "int" = none) : Fn P w K mg base 1 "_law_take" (spU K R_take) := by
  refine fn_urn (k := 0) D sc__law_take ?_ (fun _ _ _ _ _ _ us hl => match us, hl with | [_, _], _ => by kernel_rfl) ?_
  · rintro us ds d us' ⟨a, b, c, _, _, _, rfl, _⟩
    rfl
  · rintro f cdv A outer s H E us ds d us' hr ⟨u, N, n, rfl, hu, hN, rfl, h0, h1, rfl, rfl⟩
    by_cases ha : u.a > 0
    · refine ⟨[.l [.int (u.a / (n : Int)), .int u.b, .int u.c]], ?_, bj_stop (sj_if (tv_eq (tv_cmp op_gt ov_B0 (ev_ixH 0 rfl ev_int rfl rfl) ev_int) (decide_eq_true ha)) (fun _ => bj_cons (sj_set 2 sc__law_take.nd (ev_mod (by omega) (ev_toInt m1 (ev_ixH 0 rfl ev_int rfl rfl)) (ev_name 1 rfl)))
        (bj_cons (sj_ixset 0 (n := 0) (ev_fdiv ⟨by omega, ?_⟩ (ev_ixH 0 rfl ev_int rfl rfl) (ev_name 1 rfl)) rfl ev_int rfl rfl) (bj_one (sj_eq (sj_ret (ev_name 2 rfl)) ?_)))) (fun z => by cases z))⟩
      · unfold takeS
        rw [if_pos ha]
        rfl
      · exact Nat.lt_of_lt_of_le (PySem.Flt.log2_lt_of (k := 10) (by decide) (by omega)) (by decide)
      · have e : u.a % (n : Int) = ((takeN u n : Nat) : Int) := by
          rw [← takeI_cast u h0]
          unfold takeI
          rw [if_pos ha]
        rw [e]
        rfl
    · have hc := hu.c
      have hc2 := hu.c2
      have hb := hu.b
      have hb2 := hu.b2
      have o := once_bd u
      have fa := far_bd u
      have tw := twice_bd u
      refine ⟨[.l [.int u.a, .int u.b, .int (u.c + 1)]], ?_, bj_cons (sj_if (tv_eq (tv_cmp op_gt ov_B0 (ev_ixH 0 rfl ev_int rfl rfl) ev_int) (decide_eq_false ha)) (fun z => by cases z) (fun _ => bj_nil))
        (bj_cons (sj_ixset 0 (n := 2) (ev_add (ev_ixH 0 rfl ev_int rfl rfl) ev_int) rfl ev_int rfl rfl)
        (bj_cons (sj_set 3 sc__law_take.nd (ev_eq (d' := .int (onceU u)) (ev_mod (by decide) (ev_toInt m1 (ev_mul ?_ (ev_add (ev_ixH 0 rfl ev_int rfl rfl) (ev_mul ?_ ev_int (ev_ixH 0 rfl ev_int rfl rfl))) (ev_add ev_int (ev_ixH 0 rfl ev_int rfl rfl)))) ev_int) rfl))
        (bj_cons (sj_set 4 sc__law_take.nd (ev_eq (d' := .int (farU u)) (ev_add (ev_mod (by decide) (ev_toInt m1 (ev_name 3 rfl)) ev_int) ev_int) rfl))
        (bj_cons (sj_set 5 sc__law_take.nd (ev_eq (d' := .int (twiceU u)) (ev_mod (by decide) (ev_toInt m1 (ev_mul ?_ (ev_add (ev_add (ev_name 3 rfl) (ev_ixH 0 rfl ev_int rfl rfl)) (ev_fdiv ⟨by decide, by decide⟩ (ev_ixH 0 rfl ev_int rfl rfl) ev_int)) (ev_name 4 rfl))) ev_int) rfl))
        (bj_one (sj_eq (sj_ret (ev_mod (by omega) (ev_toInt m1 (ev_fdiv ⟨by decide, by decide⟩ (ev_mod (by decide) (ev_toInt m1 (ev_add (ev_mul ?_ (ev_name 5 rfl) ev_int) (ev_name 3 rfl))) ev_int) ev_int)) (ev_name 1 rfl))) ?_))))))⟩
      · unfold takeS
        rw [if_neg ha]
        rfl
      · exact wide_mul (a := 64) (b := 64) (by omega) (by omega) (by decide) (by decide) (by decide)
      · exact wide_mul (a := 64) (b := 64) (by omega) (by omega) (by decide) (by decide) (by decide)
      · have h3 : 0 ≤ u.b / 1000003 := Int.ediv_nonneg hb (by decide)
        have h4 : u.b / 1000003 ≤ u.b := Int.ediv_le_self _ hb
        exact wide_mul (a := 64) (b := 64) (by omega) (by omega) (by decide) (by decide) (by decide)
      · exact wide_mul (a := 64) (b := 64) (by omega) (by omega) (by decide) (by decide) (by decide)
      · have e : lastU u % (n : Int) = ((takeN u n : Nat) : Int) := by
          rw [← takeI_cast u h0]
          unfold takeI
          rw [if_neg ha]
        show Rs.rt (.int (lastU u % (n : Int))) _ = _
        rw [e]
        rfl
def R_of (us ds : List PyData) (d : PyData) (us' : List PyData) : Prop := ∃ (u : Urn) (N : Nat) (xs : List PyData) (x : PyData), us = eU u ∧ UrnOk N u ∧ N ≤ 1000 ∧ ds = [x] ∧ (x = .list xs ∨ x = .tuple xs) ∧ 0 < xs.length ∧ xs.length ≤ 1000 ∧ xs[takeN u xs.length]? = some d ∧ us' = eU (takeS u xs.length)
theorem ok_law_of (D : Df K mg "_law_of" s__law_of) (G : Fn P w K mg base 1 "_law_take" (spU K R_take)) (m1 : mg "len" = none) : Fn P w K mg base 2 "_law_of" (spU K R_of) := by
  refine fn_urn (k := 1) D sc__law_of ?_ (fun _ _ _ _ _ _ us hl => match us, hl with | [_, _], _ => by kernel_rfl) ?_
  · rintro us ds d us' ⟨a, b, c, e, _, _, _, rfl, _⟩
    rfl
  · rintro f cdv A outer s H E us ds d us' hr ⟨u, N, xs, x, rfl, hu, hN, rfl, hx, h0, h1, hd, rfl⟩
    rcases hx with rfl | rfl
    · exact ⟨_, rfl, bj_one (sj_ret (ev_ixL (ev_name 1 rfl) (ev_callU 0 G hr rfl (av_cons (ev_lenL m1 (lv_of_ev (ev_name 1 rfl))) av_nil) rfl ⟨u, N, xs.length, rfl, hu, hN, rfl, h0, h1, rfl, rfl⟩) (atI_nat hd)))⟩
    · exact ⟨_, rfl, bj_one (sj_ret (ev_ixT (ev_name 1 rfl) (ev_callU 0 G hr rfl (av_cons (ev_lenT m1 (ev_name 1 rfl)) av_nil) rfl ⟨u, N, xs.length, rfl, hu, hN, rfl, h0, h1, rfl, rfl⟩) (atI_nat hd)))⟩
/-! ### cells -/
def cstep (t : Int) (p : Int × Nat) : Int := t + p.1 * ((p.2 : Int) + 2)
def cellV (ns : List Int) : Int := (ns.drop 1).zipIdx.foldl cstep (ns.headD 0)
theorem cstep_bd {B : Nat} (hB : 0 < B) : ∀ (ps : List (Int × Nat)) (t : Int) (k : Nat), (∀ p ∈ ps, p.1.natAbs < B ∧ p.2 ≤ 62) → t.natAbs ≤ k * B → (ps.foldl cstep t).natAbs ≤ (k + 64 * ps.length) * B
  | [], t, k, _, h => h
  | p :: ps, t, k, hp, h => by
    have h0 := hp p List.mem_cons_self
    have h1 : (cstep t p).natAbs ≤ (k + 64) * B := by
      have h2 : (p.1 * ((p.2 : Int) + 2)).natAbs ≤ B * 64 := by
        rw [Int.natAbs_mul]
        exact Nat.mul_le_mul (by omega) (by omega)
      have h3 := Int.natAbs_add_le t (p.1 * ((p.2 : Int) + 2))
      unfold cstep
      rw [Nat.add_mul, Nat.mul_comm 64 B]
      omega
    have := cstep_bd hB ps _ (k + 64) (fun q h => hp q (List.mem_cons_of_mem _ h)) h1
    rw [List.length_cons, Nat.mul_add, Nat.mul_one, Nat.add_comm (64 * ps.length), ← Nat.add_assoc]
    exact this
theorem cells_mem {ns : List Int} (hl : ns.length ≤ 63) (hb : ∀ z ∈ ns, Builtin.Int.intBits z ≤ 1048576) : ∀ p ∈ (ns.drop 1).zipIdx, p.1.natAbs < 2 ^ 1048576 ∧ p.2 ≤ 62 := fun p hp => by
  have h1 := List.fst_mem_of_mem_zipIdx hp
  have h2 := List.snd_lt_of_mem_zipIdx hp
  rw [List.length_drop] at h2
  exact ⟨intBits_le_iff.mp (hb _ (List.mem_of_mem_drop h1)), by omega⟩
theorem cell_bits {ns : List Int} (hl : ns.length ≤ 63) (hb : ∀ z ∈ ns, Builtin.Int.intBits z ≤ 1048576) : (cellV ns).natAbs < 2 ^ 1048600 := by
  have hp : 0 < 2 ^ 1048576 := Nat.two_pow_pos _
  have h0 : (ns.headD 0).natAbs ≤ 1 * 2 ^ 1048576 := by
    rw [Nat.one_mul]
    cases ns with
    | nil => exact Nat.zero_le _
    | cons z r => exact Nat.le_of_lt (intBits_le_iff.mp (hb z List.mem_cons_self))
  have h := cstep_bd hp _ _ 1 (cells_mem hl hb) h0
  have h2 : (1 + 64 * (ns.drop 1).zipIdx.length) ≤ 2 ^ 13 := by
    rw [List.length_zipIdx, List.length_drop]
    omega
  have h3 : (1 + 64 * (ns.drop 1).zipIdx.length) * 2 ^ 1048576 ≤ 2 ^ 13 * 2 ^ 1048576 := Nat.mul_le_mul_right _ h2
  rw [← Nat.pow_add] at h3
  exact Nat.lt_of_le_of_lt (Nat.le_trans h h3) (Nat.pow_lt_pow_right (by decide) (by decide))
theorem cut_one (ns : List Int) : (if (cutD (ns.map PyData.int) none (some 1)).isEmpty = true then [PyData.int 0] else cutD (ns.map PyData.int) none (some 1)) = [.int (ns.headD 0)] := by
  have e := cut_take PyData.int ns 1
  have e' : cutD (ns.map PyData.int) none (some 1) = (ns.take 1).map PyData.int := e
  rw [e']
  cases ns with
  | nil => rfl
  | cons z r => rfl
theorem cut_rest {ns : List Int} (hl : ns.length ≤ 63) : cutD (ns.map PyData.int) (some 1) (some 63) = (ns.drop 1).map PyData.int := by
  unfold cutD
  have e1 : HT.sIx (ns.map PyData.int).length 0 (some 1) = min 1 ns.length := by rw [List.length_map]; exact HT.sIx_nat ns.length 0 1
  have e2 : HT.sIx (ns.map PyData.int).length (ns.map PyData.int).length (some 63) = ns.length := by
    rw [List.length_map]
    have := HT.sIx_nat ns.length ns.length 63
    rw [Nat.min_eq_right hl] at this
    exact this
  rw [e1, e2, ← List.map_drop]
  have e3 : ns.drop (min 1 ns.length) = ns.drop 1 := by
    cases ns with
    | nil => rfl
    | cons z r =>
      have : min 1 (z :: r).length = 1 := by rw [List.length_cons]; omega
      rw [this]
  rw [e3, List.take_of_length_le]
  rw [List.length_map, List.length_drop]
  omega
def R_cells (ds : List PyData) (d : PyData) : Prop := ∃ ns : List Int, ds = [.list (ns.map .int), .int 1] ∧ ns.length ≤ 63 ∧ (∀ z ∈ ns, Builtin.Int.intBits z ≤ 1048576) ∧ d = .list [.int (cellV ns)]
theorem ok_law_cells (D : Df K mg "_law_cells" s__law_cells) (m1 : mg "int" = none) (m2 : mg "list" = none) (m3 : mg "enumerate" = none) : Fn P w K mg base 1 "_law_cells" (spP K R_cells) := by
  refine fn_pure (k := 0) D sc__law_cells ?_ (fun _ _ _ _ _ _ us hl => match us, hl with | [_, _], _ => by kernel_rfl) ?_
  · rintro ds d ⟨a, rfl, _⟩
    rfl
  · rintro f cdv A outer s H E ds d hr ⟨ns, rfl, hl, hb, rfl⟩
    refine ⟨[.dead], bj_cons (ρ1 := [.d (.list (ns.map .int)), .d (.int 1), .h 0, .u, .u, .u]) (μ1 := [.l [.int (ns.headD 0)]]) (sj_own 2 sc__law_cells.nd (ef_eq (ef_orT (ef_listL m2 (lv_of_ef (ef_slL (ev_name 0 rfl) pv_none (pv_some (ev_name 1 rfl))))) (fun _ => ef_lst (av_cons ev_int av_nil))) (cut_one ns)))
      (bj_cons (sj_for (iv_eq (iv_enumL m3 (ev_of_ef (ef_eq (ef_slL (ev_name 0 rfl) (pv_some (ev_name 1 rfl)) (pv_some ev_int)) (cut_rest hl)))) (enum_map PyData.int (ns.drop 1))) (for_preS (fun p : Int × Nat => pairD (eN p.2) (.int p.1)) (fun _ => [.d (.list (ns.map .int)), .d (.int 1), .h 0, .u, .u, .u]) (fun q => [.l [.int (q.foldl cstep (ns.headD 0))]]) (ns.drop 1).zipIdx rfl rfl fun q p suf e => ?_))
      (bj_freeze 0 (Nat.le_refl _) (xs := [.int (cellV ns)]) rfl (bj_one (sj_ret (ev_name 2 rfl)))))⟩
    have hp := cells_mem hl hb p (by rw [e]; simp)
    refine ⟨_, _, [.d (.list (ns.map .int)), .d (.int 1), .h 0, .d (eN p.2), .d (.int p.1), .d (.int 0)], gv_pair 3 4 sc__law_cells.nd, bj_cons (sj_set 5 sc__law_cells.nd (ev_eq (d' := .int 0) (ev_mod (by decide) (ev_toInt m1 (ev_name 3 rfl)) (ev_name 1 rfl)) (congrArg PyData.int (Int.emod_one _))))
      (bj_one (sj_eq (sj_ixset 2 (n := 0) (ev_add (ev_ixH 2 rfl (ev_name 5 rfl) rfl rfl) (ev_mulX ?_ (ev_name 4 rfl) (ev_add (ev_name 3 rfl) ev_int))) rfl (ev_name 5 rfl) rfl rfl) ?_)), ?_⟩
    · exact IntMulOk.of_le (m := 1048576) (n := 64) (intBits_le_iff.mpr hp.1) (intBits_le_iff.mpr (by omega)) (by decide)
    · rw [List.foldl_append]
      rfl
    · exact .keep (.keep (.keep (.drop (.drop (.drop .nil)))))
def absI (c : Int) : Int := if c < 0 then -c else c
def boxU (c : Int) : Urn := ⟨absI c * (if decide (absI c ≥ 10 ^ 18) = true then 1 else 0), c % 2305843009213693951 + 39373 * 0 + 88167, 0⟩
theorem boxU_ok (c : Int) : UrnOk 0 (boxU c) where
  a := by
    have h : 0 ≤ absI c := by unfold absI; split <;> omega
    unfold boxU
    split
    · simpa using h
    · simp
  b := by
    have h1 : 0 ≤ c % 2305843009213693951 := Int.emod_nonneg _ (by decide)
    show 0 ≤ c % 2305843009213693951 + 39373 * 0 + 88167
    omega
  b2 := by
    have h1 : c % 2305843009213693951 < 2305843009213693951 := Int.emod_lt_of_pos _ (by decide)
    show c % 2305843009213693951 + 39373 * 0 + 88167 < _
    omega
  c := Int.le_refl _
  c2 := Int.le_refl _
def R_box (ds xs : List PyData) : Prop := ∃ c : Int, ds = [.list [.int c], .int 0] ∧ c.natAbs < 2 ^ 1048600 ∧ xs = eU (boxU c)
theorem ok_law_box (D : Df K mg "_law_box" s__law_box) (m1 : mg "int" = none) (m2 : mg "len" = none) (m3 : mg "abs" = none) : Fn P w K mg base 1 "_law_box" (spL K R_box) := by
  refine fn_list (k := 0) D sc__law_box ?_ (fun _ _ _ _ _ _ us hl => match us, hl with | [_, _], _ => by kernel_rfl) ?_
  · rintro ds d ⟨a, rfl, _⟩
    rfl
  · rintro f cdv A outer s H E ds xs hr ⟨c, rfl, hb, rfl⟩
    refine bj_cons (sj_set 2 sc__law_box.nd (ev_eq (d' := .int c) (ev_if (tv_cmp op_lt ov_B0 (ev_name 1 rfl) (ev_lenL m2 (lv_of_ev (ev_name 0 rfl)))) (fun _ => ev_ixL (ev_name 0 rfl) (ev_name 1 rfl) rfl) (fun _ => ev_int)) rfl))
      (bj_one (sj_retF (ef_lst (av_cons (ev_mulX ?_ (ev_abs m3 (ev_name 2 rfl)) (ev_toIntB m1 (ev_cmp op_ge ov_B0 (ev_abs m3 (ev_name 2 rfl)) (ev_pow ?_ ev_int ev_int)))) (av_cons (ev_add (ev_add (ev_mod (by decide) (ev_toInt m1 (ev_name 2 rfl)) ev_int) (ev_mul (wide_mul (a := 16) (b := 16) (by decide) (by decide) (by decide) (by decide) (by decide)) ev_int (ev_name 1 rfl))) ev_int) (av_cons ev_int av_nil))))))
    · refine IntMulOk.of_le (m := 1048600) (n := 1) (intBits_le_iff.mpr ?_) (intBits_le_iff.mpr ?_) (by decide)
      · show (if c < 0 then -c else c).natAbs < _
        have : (if c < 0 then -c else c).natAbs = c.natAbs := by split <;> omega
        rw [this]
        exact hb
      · split <;> decide
    · exact ⟨by decide, by decide, by decide⟩
end
end DW

/-! Pr19: the law's sources. -/
namespace DW
open PySem PySem.Spec PyProof.Rows L2 DM
/-- a call on the urn, its end by an equation -/
theorem ev_callV (i : Nat) {X : Cx} {kk : Nat} {x y : Str} {es : List Expr} {p p2 pos : Pos} {ρ : List SV} {μ μ1 μ' : List MO} {d : PyData} {ds us us' : List PyData} {Rl : List PyData → List PyData → PyData → List PyData → Prop} {k j : Nat} (G : Fn X.prog X.w X.K X.mg X.base j x (spU X.K Rl)) (hr : Room k X.A) (hρ : ρ[i]? = some (.h kk)) (h : AV X es ρ μ ds μ1) (hu : μ1[kk]? = some (.l us)) (hR : Rl us ds d us') (hμ : μ1.set kk (.l us') = μ') (hj : j ≤ k := by decide) (hg : Gl X x := by unfold Gl; kernel_rfl)
    (hdb : (x == ("__debug__" : Str)) = false := by kernel_rfl) (hN : X.N[i]? = some y := by kernel_rfl) (hv : visB X.env.scope y = true := by kernel_rfl)
    (he : starEach (.Name y p2 :: es) X.env = (false, eval (.Name y p2) X.env) :: starEach es X.env := by kernel_rfl) (hpl : (backTo pos (starEach es X.env)).any (·.1) = false := by kernel_rfl) : EV X (.Call (.Name x p) (.Name y p2 :: es) [] pos) ρ μ d μ' :=
  hμ ▸ ev_callU i G hr hρ h hu hR hj hg hdb hN hv he hpl
/-! ### runs -/
def runL {α σ β : Type} (f : α → σ → β) (g : α → σ → σ) : List α → σ → List β × σ
  | [], s => ([], s)
  | z :: zs, s => (f z s :: (runL f g zs (g z s)).1, (runL f g zs (g z s)).2)
theorem runL_map {α σ β γ : Type} (f : α → σ → β) (g : α → σ → σ) (h : β → γ) : ∀ (zs : List α) (s : σ), runL (fun z s => h (f z s)) g zs s = ((runL f g zs s).1.map h, (runL f g zs s).2)
  | [], s => rfl
  | z :: zs, s => by
    unfold runL
    rw [runL_map f g h zs (g z s)]
    rfl
theorem runL_len {α σ β : Type} (f : α → σ → β) (g : α → σ → σ) : ∀ (zs : List α) (s : σ), (runL f g zs s).1.length = zs.length
  | [], s => rfl
  | z :: zs, s => by
    unfold runL
    rw [List.length_cons, List.length_cons, runL_len f g zs]
theorem runL_all {α σ β : Type} {f : α → σ → β} {g : α → σ → σ} {Q : β → Prop} (h : ∀ z s, Q (f z s)) : ∀ (zs : List α) (s : σ), ∀ b ∈ (runL f g zs s).1, Q b
  | [], s => fun b hb => by simp [runL] at hb
  | z :: zs, s => fun b hb => by
    unfold runL at hb
    rcases List.mem_cons.mp hb with e | e
    · rw [e]; exact h z s
    · exact runL_all h zs _ b e
theorem runL_ok {α β : Type} {f : α → Urn → β} {g : α → Urn → Urn} {d : Nat} (h : ∀ z N u, UrnOk N u → UrnOk (N + d) (g z u)) : ∀ (zs : List α) (N : Nat) (u : Urn), UrnOk N u → UrnOk (N + d * zs.length) (runL f g zs u).2
  | [], N, u, hu => by
    unfold runL
    rw [List.length_nil, Nat.mul_zero]
    exact hu
  | z :: zs, N, u, hu => by
    have := runL_ok (f := f) h zs (N + d) (g z u) (h z N u hu)
    unfold runL
    rw [List.length_cons, Nat.mul_succ, Nat.add_comm (d * zs.length), ← Nat.add_assoc]
    exact this
section
variable {X : Cx} {tg : Expr} {ρ : List SV}
/-- a comprehension that runs on -/
theorem lc_run {α σ β : Type} {own : List Nat} {elt : Expr} {scope : Scope} {is : List Nat} (enc : α → PyData) (f : α → σ → β) (h : β → PyData) (g : α → σ → σ) (M : σ → List MO) (Inv : Nat → σ → Prop) (d L : Nat) (ρ1 : α → List SV) (hi : ∀ i ∈ is, i ∈ own) : ∀ (zs : List α) (st : σ) (N : Nat), Inv N st → N + d * zs.length ≤ L →
    (∀ z ∈ zs, ∀ s H C cl fp, GV (Blk X scope s H C cl fp) tg is (wipeR ρ own) (enc z) (ρ1 z)) →
    (∀ z ∈ zs, ∀ N st, Inv N st → N + d ≤ L → Inv (N + d) (g z st) ∧ ∀ s H C cl fp, EV (Blk X scope s H C cl fp) elt (ρ1 z) (M st) (h (f z st)) (M (g z st))) →
    LcR X scope tg elt [] own ρ (zs.map enc) (M st) ((runL f g zs st).1.map h) (M (runL f g zs st).2)
  | [], _, _, _, _, _, _ => .nil
  | z :: zs, st, N, hI, hL, hg, he => by
    rw [List.length_cons, Nat.mul_succ] at hL
    obtain ⟨h1, h2⟩ := he z List.mem_cons_self N st hI (by omega)
    exact .keep hi (hg z List.mem_cons_self) (fun _ _ _ _ _ => ts_nil) h2 (lc_run enc f h g M Inv d L ρ1 hi zs (g z st) (N + d) h1 (by omega) (fun z h => hg z (List.mem_cons_of_mem _ h)) (fun z h => he z (List.mem_cons_of_mem _ h)))
end
abbrev takesL (n : Nat) (k : Nat) (u : Urn) : List Nat × Urn := runL (fun _ u => takeN u n) (fun _ u => takeS u n) (List.range k) u
theorem takes_ok {n k N : Nat} {u : Urn} (h : UrnOk N u) : UrnOk (N + k) (takesL n k u).2 := by
  have := runL_ok (f := fun (_ : Nat) u => takeN u n) (d := 1) (g := fun (_ : Nat) u => takeS u n) (fun _ N u h => h.take n) (List.range k) N u h
  rw [List.length_range, Nat.one_mul] at this
  exact this
theorem takes_len (n k : Nat) (u : Urn) : (takesL n k u).1.length = k := by rw [runL_len, List.length_range]
theorem takes_lt {n : Nat} (hn : 0 < n) (k : Nat) (u : Urn) : ∀ i ∈ (takesL n k u).1, i < n := runL_all (fun _ s => takeN_lt s hn) _ _
/-! ### sorted sets -/
theorem nodup_of {α : Type} [DecidableEq α] : ∀ zs : List α, ∃ ys : List α, ys.Nodup ∧ ∀ k, k ∈ ys ↔ k ∈ zs
  | [] => ⟨[], List.nodup_nil, fun _ => Iff.rfl⟩
  | z :: zs => by
    obtain ⟨ys, h1, h2⟩ := nodup_of zs
    by_cases h : z ∈ ys
    · refine ⟨ys, h1, fun k => ⟨fun hk => List.mem_cons_of_mem _ ((h2 k).mp hk), fun hk => ?_⟩⟩
      rcases List.mem_cons.mp hk with e | e
      · rw [e]; exact h
      · exact (h2 k).mpr e
    · refine ⟨z :: ys, List.nodup_cons.mpr ⟨h, h1⟩, fun k => ?_⟩
      rw [List.mem_cons, List.mem_cons, h2]
theorem setSort_ex (B : Int) (zs : List (List Int)) : SetSort B zs (sortSet B zs) := by
  obtain ⟨ys, h1, h2⟩ := nodup_of zs
  have hp := List.mergeSort_perm ys fun q r => decide (TS.code B q ≤ TS.code B r)
  refine sortSet_ok (ys := ys.mergeSort fun q r => decide (TS.code B q ≤ TS.code B r)) ⟨hp.nodup_iff.mpr h1, fun k => (hp.mem_iff).trans (h2 k), ?_⟩
  have := List.pairwise_mergeSort (le := fun q r => decide (TS.code B q ≤ TS.code B r)) (fun a b c h h' => by
    have h1 := of_decide_eq_true h
    have h2 := of_decide_eq_true h'
    exact decide_eq_true (by omega)) (fun a b => by
    rw [Bool.or_eq_true, decide_eq_true_eq, decide_eq_true_eq]
    omega) ys
  exact this.imp fun h => of_decide_eq_true h
/-! ### the drawn source -/
def halfQ : Rat := ⟨1, 2, by decide, by decide⟩
def poolQ : List Rat := [-1, 0, halfQ, 1, 2]
theorem half_eq : halfQ = 1 / 2 := by decide +kernel
def rowOf (l : List Int) : Row := l.map fun z => poolQ.getD z.toNat 0
def spotsL (c m : Nat) (u : Urn) : List (List Nat) × Urn := runL (fun _ u => (takesL 5 c u).1) (fun _ u => (takesL 5 c u).2) (List.range m) u
noncomputable def spotS (c m : Nat) (u : Urn) : List (List Int) := sortSet 5 ((spotsL c m u).1.map fun l => l.map fun n => ((n : Nat) : Int))
noncomputable def loadsL (c m : Nat) (u : Urn) : List Int × Urn := runL (fun _ u => 1 + ((takeN u 3 : Nat) : Int)) (fun _ u => takeS u 3) (spotS c m u) (spotsL c m u).2
noncomputable def srcOf (c m : Nat) (u : Urn) : Src := (((spotS c m u).map rowOf).zip (loadsL c m u).1).map fun p => (p.1, Rat.divInt p.2 (loadsL c m u).1.sum)
noncomputable def srcU (c m : Nat) (u : Urn) : Urn := (loadsL c m u).2
theorem spots_ok {c m N : Nat} {u : Urn} (h : UrnOk N u) : UrnOk (N + c * m) (spotsL c m u).2 := by
  have := runL_ok (f := fun (_ : Nat) u => (takesL 5 c u).1) (d := c) (g := fun (_ : Nat) u => (takesL 5 c u).2) (fun _ N u h => takes_ok h) (List.range m) N u h
  rw [List.length_range] at this
  exact this
theorem spots_mem (c m : Nat) (u : Urn) : ∀ z ∈ ((spotsL c m u).1.map fun l => l.map fun n => ((n : Nat) : Int)), z.length = c ∧ TS.Bd 5 z := fun z hz => by
  obtain ⟨l, hl, rfl⟩ := List.mem_map.mp hz
  have := runL_all (f := fun (_ : Nat) u => (takesL 5 c u).1) (g := fun (_ : Nat) u => (takesL 5 c u).2) (Q := fun l => l.length = c ∧ ∀ i ∈ l, i < 5) (fun _ s => ⟨takes_len 5 c s, takes_lt (by decide) c s⟩) _ _ l hl
  refine ⟨by rw [List.length_map]; exact this.1, fun i hi => ?_⟩
  obtain ⟨n, hn, rfl⟩ := List.mem_map.mp hi
  have := this.2 n hn
  omega
theorem spotS_mem (c m : Nat) (u : Urn) : ∀ z ∈ spotS c m u, z.length = c ∧ TS.Bd 5 z := fun z hz => spots_mem c m u z (((setSort_ex 5 _).mem z).mp hz)
theorem spots_len (c m : Nat) (u : Urn) : ((spotsL c m u).1.map fun l => l.map fun n => ((n : Nat) : Int)).length = m := by
  rw [List.length_map]
  unfold spotsL
  rw [runL_len, List.length_range]
theorem spotS_len (c m : Nat) (u : Urn) : (spotS c m u).length ≤ m := by
  have h := setSort_ex 5 ((spotsL c m u).1.map fun l => l.map fun n => ((n : Nat) : Int))
  have := h.nd.length_le_of_subset (fun k hk => (h.mem k).mp hk)
  rw [spots_len] at this
  exact this
theorem spotS_ne {c m : Nat} (hm : 0 < m) (u : Urn) : spotS c m u ≠ [] := by
  have h := setSort_ex 5 ((spotsL c m u).1.map fun l => l.map fun n => ((n : Nat) : Int))
  have hl := spots_len c m u
  intro e
  cases hz : ((spotsL c m u).1.map fun l => l.map fun n => ((n : Nat) : Int)) with
  | nil => rw [hz] at hl; simp at hl; omega
  | cons z r =>
    have : z ∈ spotS c m u := (h.mem z).mpr (by rw [hz]; simp)
    rw [e] at this
    simp at this
theorem loads_len (c m : Nat) (u : Urn) : (loadsL c m u).1.length = (spotS c m u).length := runL_len _ _ _ _
theorem loads_mem (c m : Nat) (u : Urn) : ∀ z ∈ (loadsL c m u).1, 1 ≤ z ∧ z ≤ 3 := runL_all (fun _ s => by
  have := takeN_lt s (n := 3) (by decide)
  omega) _ _
theorem sum_bd : ∀ {ns : List Int}, (∀ z ∈ ns, 1 ≤ z ∧ z ≤ 3) → (ns.length : Int) ≤ ns.sum ∧ ns.sum ≤ 3 * (ns.length : Int)
  | [], _ => ⟨Int.le_refl _, Int.le_refl _⟩
  | z :: ns, h => by
    have h1 := h z List.mem_cons_self
    have h2 := sum_bd (ns := ns) fun y hy => h y (List.mem_cons_of_mem _ hy)
    rw [List.sum_cons, List.length_cons]
    omega
theorem load_sum {c m : Nat} (hm : 0 < m) (hm3 : m ≤ 3) (u : Urn) : 1 ≤ (loadsL c m u).1.sum ∧ (loadsL c m u).1.sum ≤ 9 := by
  have h := sum_bd (loads_mem c m u)
  have h2 := spotS_len c m u
  have h3 : 0 < (spotS c m u).length := List.length_pos_iff.mpr (spotS_ne hm u)
  rw [loads_len] at h
  omega
theorem load_fit {l S : Int} (h1 : 1 ≤ l) (h2 : l ≤ 3) (h3 : 1 ≤ S) (h4 : S ≤ 9) : Fit 1 (Rat.divInt l S) := by
  obtain ⟨n, rfl⟩ : ∃ n : Nat, S = (n : Int) := ⟨S.toNat, by omega⟩
  have hd : G % n = 0 := by
    have : n = 1 ∨ n = 2 ∨ n = 3 ∨ n = 4 ∨ n = 5 ∨ n = 6 ∨ n = 7 ∨ n = 8 ∨ n = 9 := by omega
    rcases this with rfl | rfl | rfl | rfl | rfl | rfl | rfl | rfl | rfl <;> decide
  have := fit_frac (a := l) (b := n) (by omega) hd (Nat.le_trans (show l.natAbs ≤ 3 by omega) (by decide))
  rw [← Rat.divInt_ofNat] at this
  exact this
theorem rowOf_ok {c : Nat} (hc : c ≤ 2) {l : List Int} (h : l.length = c ∧ TS.Bd 5 l) : RowOk (rowOf l) ∧ (rowOf l).length = c := by
  refine ⟨⟨?_, fun x hx => ?_⟩, ?_⟩
  · unfold rowOf; rw [List.length_map]; omega
  · obtain ⟨z, hz, rfl⟩ := List.mem_map.mp hx
    have hb := h.2 z hz
    have : z = 0 ∨ z = 1 ∨ z = 2 ∨ z = 3 ∨ z = 4 := by omega
    have hh : Pool halfQ := by rw [half_eq]; simp [Pool]
    rcases this with rfl | rfl | rfl | rfl | rfl
    · show Pool (-1); simp [Pool]
    · show Pool 0; simp [Pool]
    · exact hh
    · show Pool 1; simp [Pool]
    · show Pool 2; simp [Pool]
  · unfold rowOf; rw [List.length_map]; exact h.1
theorem divInt_sum (S : Int) : ∀ ns : List Int, rsum (ns.map fun l => Rat.divInt l S) = Rat.divInt ns.sum S
  | [] => by
    rw [List.map_nil, List.sum_nil, Rat.zero_divInt]
    rfl
  | z :: ns => by
    rw [List.map_cons, rsum_cons, divInt_sum S ns, List.sum_cons]
    rw [Rat.divInt_eq_div, Rat.divInt_eq_div, Rat.divInt_eq_div, Rat.intCast_add]
    grind
structure Src1 (c : Nat) (s : Src) : Prop where
  ok : SrcOk s
  tot : Tot1 s
  pos : ∀ q ∈ s, 0 ≤ q.2
  ne : s ≠ []
  row : ∀ q ∈ s, q.1.length = c
theorem srcOf_ok {c m : Nat} (hc : c ≤ 2) (hm : 0 < m) (hm3 : m ≤ 3) (u : Urn) : Src1 c (srcOf c m u) ∧ (srcOf c m u).length ≤ m := by
  obtain ⟨s1, s2⟩ := load_sum (c := c) hm hm3 u
  have hl := loads_len c m u
  have h2 := spotS_len c m u
  have h3 : 0 < (spotS c m u).length := List.length_pos_iff.mpr (spotS_ne hm u)
  have hlen : (srcOf c m u).length = (spotS c m u).length := by
    unfold srcOf
    rw [List.length_map, List.length_zip, List.length_map]
    omega
  have hmem : ∀ q ∈ srcOf c m u, ∃ l z, l ∈ spotS c m u ∧ z ∈ (loadsL c m u).1 ∧ q = (rowOf l, Rat.divInt z (loadsL c m u).1.sum) := fun q hq => by
    obtain ⟨p, hp, rfl⟩ := List.mem_map.mp hq
    obtain ⟨a, b⟩ := List.of_mem_zip (a := p.1) (b := p.2) hp
    obtain ⟨l, hl, e⟩ := List.mem_map.mp a
    exact ⟨l, p.2, hl, b, by rw [e]⟩
  refine ⟨⟨⟨by omega, fun q hq => ?_, fun q hq => ?_⟩, ?_, fun q hq => ?_, ?_, fun q hq => ?_⟩, by omega⟩
  · obtain ⟨l, z, h1, _, rfl⟩ := hmem q hq
    exact (rowOf_ok hc (spotS_mem c m u l h1)).1
  · obtain ⟨l, z, _, h1, rfl⟩ := hmem q hq
    have := loads_mem c m u z h1
    exact load_fit this.1 this.2 s1 s2
  · show rsum ((srcOf c m u).map (·.2)) = 1
    have e : (srcOf c m u).map (·.2) = (loadsL c m u).1.map fun l => Rat.divInt l (loadsL c m u).1.sum := by
      have e2 : ((((spotS c m u).map rowOf).zip (loadsL c m u).1).map (·.2)) = (loadsL c m u).1 := List.map_snd_zip (by rw [List.length_map]; omega)
      have e3 := congrArg (List.map fun l => Rat.divInt l (loadsL c m u).1.sum) e2
      rw [List.map_map] at e3
      rw [← e3]
      unfold srcOf
      rw [List.map_map]
      rfl
    rw [e, divInt_sum, Rat.divInt_eq_div]
    have hne : (((loadsL c m u).1.sum : Int) : Rat) ≠ 0 := fun z => by
      have := Rat.intCast_eq_zero_iff.mp z
      omega
    rw [Rat.div_def, Rat.mul_inv_cancel _ hne]
  · obtain ⟨l, z, _, h1, rfl⟩ := hmem q hq
    have := loads_mem c m u z h1
    exact Rat.divInt_nonneg (by omega) (by omega)
  · intro e
    rw [e] at hlen
    simp at hlen
    omega
  · obtain ⟨l, z, h1, _, rfl⟩ := hmem q hq
    exact (rowOf_ok hc (spotS_mem c m u l h1)).2
section
variable {P : Program} {w : World} {K : PySem.W.Frag} {mg : Str → Option Value} {base : Heap}
def R_source (us ds : List PyData) (d : PyData) (us' : List PyData) : Prop := ∃ (u : Urn) (N c m : Nat), us = eU u ∧ UrnOk N u ∧ N ≤ 900 ∧ ds = [.int c, .int m] ∧ 1 ≤ c ∧ c ≤ 2 ∧ 1 ≤ m ∧ m ≤ 3 ∧ d = eS (srcOf c m u) ∧ us' = eU (srcU c m u)
theorem ok_law_source (D : Df K mg "_law_source" s__law_source) (G1 : Fn P w K mg base 1 "_law_take" (spU K R_take)) (G2 : Fn P w K mg base 1 "_law_low" (spP K R_fraction)) (m1 : mg "range" = none) (m2 : mg "tuple" = none) (m3 : mg "set" = none) (m4 : mg "sorted" = none) (m5 : mg "sum" = none) (m6 : mg "zip" = none) : Fn P w K mg base 2 "_law_source" (spU K R_source) := by
  refine fn_urn (k := 1) D sc__law_source ?_ (fun _ _ _ _ _ _ us hl => match us, hl with | [_, _, _], _ => by kernel_rfl) ?_
  · rintro us ds d us' ⟨a, b, c, e, _, _, _, rfl, _⟩
    rfl
  · rintro f cdv A outer s H E us ds d us' hr ⟨u, N, c, m, rfl, hu, hN, rfl, hc1, hc2, hm1, hm2, rfl, rfl⟩
    have hpool : PyData.tuple [.tuple [.int (-1), .int 1], .tuple [.int 0, .int 1], .tuple [.int 1, .int 2], .tuple [.int 1, .int 1], .tuple [.int 2, .int 1]] = .tuple (poolQ.map rd) := by kernel_rfl
    have hcm : c * m ≤ 6 := Nat.mul_le_mul hc2 hm2
    have hu2 := spots_ok (c := c) (m := m) hu
    obtain ⟨s1, s2⟩ := load_sum (c := c) hm1 hm2 u
    have hl := loads_len c m u
    have h2 := spotS_len c m u
    have hLM := loads_mem c m u
    have hSM := spotS_mem c m u
    have hso := spots_mem c m u
    have hsl := spots_len c m u
    let C1 : List SV := [.h 0, .d (.int c), .d (.int m), .d (.tuple (poolQ.map rd))]
    refine ⟨[.l (eU (srcU c m u))], rfl, bj_cons (sj_set 3 sc__law_source.nd (ev_eq (ev_tup (av_cons (ev_tup (av_cons (ev_neg ev_int) (av_cons ev_int av_nil))) (av_cons (ev_tup (av_cons ev_int (av_cons ev_int av_nil))) (av_cons (ev_tup (av_cons ev_int (av_cons ev_int av_nil))) (av_cons (ev_tup (av_cons ev_int (av_cons ev_int av_nil))) (av_cons (ev_tup (av_cons ev_int (av_cons ev_int av_nil))) av_nil)))))) hpool))
      (bj_cons (sj_set 4 sc__law_source.nd (d := .list ((spotS c m u).map tI)) (μ' := [.l (eU (spotsL c m u).2)]) ?_)
      (bj_cons (ρ1 := C1 ++ ([.d (.list ((spotS c m u).map tI)), .d (.list ((loadsL c m u).1.map .int)), .u, .u, .u, .u, .u] : List SV)) (μ1 := [.l (eU (srcU c m u))]) ?_
      (bj_cons (ρ1 := C1 ++ ([.d (.list ((spotS c m u).map tI)), .d (.list ((loadsL c m u).1.map .int)), .d (.list ((spotS c m u).map fun l => eR (rowOf l))), .u, .u, .u, .u] : List SV)) (μ1 := [.l (eU (srcU c m u))]) ?_
      (bj_one (sj_ret (d := eS (srcOf c m u)) ?_)))))⟩
    · refine ev_of_ef (ef_sortSet (zs := (spotsL c m u).1.map fun l => l.map fun n => ((n : Nat) : Int)) (B := 5) (d := c) hr m4 m3 (lv_of_ef ?_) (by rw [hsl]; omega) hc1 hso)
      refine ef_eq (ef_lc (own := [("_law_lap", 9)]) sc__law_source.nd (iv_eq (iv_range m1 (ev_name 2 rfl) (by omega) (by omega)) (rng0 m)) (blkOk_by (by kernel_rfl)) (lc_run (own := [9]) eN (fun _ u => (takesL 5 c u).1) eM (fun _ u => (takesL 5 c u).2) (fun u => [.l (eU u)]) UrnOk c 950 (fun i => C1 ++ ([.u, .u, .u, .u, .u, .d (eN i), .u] : List SV)) (is := [9]) (by simp) (List.range m) u N hu (by rw [List.length_range]; omega) (fun z hz s H C cl fp => gv_name 9 sc__law_source.nd)
        (fun z hz M v hv hM => ⟨takes_ok hv, fun s H C cl fp => ?_⟩)) ?_) ?_
      · refine ev_tupleL m2 (lv_of_ef (ef_lc (own := [("_law_k", 10)]) sc__law_source.nd (iv_eq (iv_range m1 (ev_name 1 rfl) (by omega) (by omega)) (rng0 c)) (blkOk_by (by kernel_rfl)) (lc_run (own := [10]) eN (fun _ u => takeN u 5) eN (fun _ u => takeS u 5) (fun u => [.l (eU u)]) UrnOk 1 990 (fun i => C1 ++ ([.u, .u, .u, .u, .u, .d (eN z), .d (eN i)] : List SV)) (is := [10]) (by simp) (List.range c) v M hv (by rw [List.length_range]; omega) (fun z hz s H C cl fp => gv_name 10 sc__law_source.nd)
          (fun z hz M v hv hM => ⟨hv.take 5, fun s H C cl fp => ?_⟩)) ?_))
        · exact ev_callV 0 G1 hr rfl (av_cons ev_int av_nil) rfl ⟨v, M, 5, rfl, hv, by omega, rfl, by decide, by decide, rfl, rfl⟩ rfl
        · rw [List.length_map, runL_len, List.length_range]; omega
      · rw [List.length_map, runL_len, List.length_range]; omega
      · rw [List.map_map]
        refine List.map_congr_left fun l _ => ?_
        show eM l = tI (l.map _)
        exact congrArg PyData.tuple (cast_map l)
    · refine sj_set 5 sc__law_source.nd (d := .list ((loadsL c m u).1.map .int)) (ev_of_ef (ef_lc (own := [("_law_own", 7)]) sc__law_source.nd (iv_list (ev_name 4 rfl)) (blkOk_by (by kernel_rfl)) (lc_run (own := [7]) tI (fun _ u => 1 + ((takeN u 3 : Nat) : Int)) PyData.int (fun _ u => takeS u 3) (fun u => [.l (eU u)]) UrnOk 1 990 (fun l => C1 ++ ([.d (.list ((spotS c m u).map tI)), .u, .u, .d (tI l), .u, .u, .u] : List SV)) (is := [7]) (by simp) (spotS c m u) (spotsL c m u).2 (N + c * m) hu2 (by omega) (fun z hz s H C cl fp => gv_name 7 sc__law_source.nd)
        (fun z hz M v hv hM => ⟨hv.take 3, fun s H C cl fp => ?_⟩)) ?_))
      · exact ev_add ev_int (ev_callV 0 G1 hr rfl (av_cons ev_int av_nil) rfl ⟨v, M, 3, rfl, hv, by omega, rfl, by decide, by decide, rfl, rfl⟩ rfl)
      · rw [List.length_map]; omega
    · refine sj_setLc 6 (own := [("_law_own", 7)]) sc__law_source.nd (iv_list (ev_name 4 rfl)) (blkOk_by (by kernel_rfl)) (lc_all (own := [7]) tI (fun l => eR (rowOf l)) (fun l => C1 ++ ([.d (.list ((spotS c m u).map tI)), .d (.list ((loadsL c m u).1.map .int)), .u, .d (tI l), .u, .u, .u] : List SV)) (is := [7]) (by simp) (spotS c m u) (fun z hz s H C cl fp => gv_name 7 sc__law_source.nd)
        (fun l hl s H C cl fp => ?_)) ?_
      · have hb := hSM l hl
        refine ev_eq (ev_tupleL m2 (lv_of_ef (ef_lc (own := [("_law_k", 10)]) sc__law_source.nd (iv_tup (ev_name 7 rfl)) (blkOk_by (by kernel_rfl)) (lc_all (own := [10]) PyData.int (fun z => rd (poolQ.getD z.toNat 0)) (fun z => C1 ++ ([.d (.list ((spotS c m u).map tI)), .d (.list ((loadsL c m u).1.map .int)), .u, .d (tI l), .u, .u, .d (.int z)] : List SV)) (is := [10]) (by simp) l (fun z hz s H C cl fp => gv_name 10 sc__law_source.nd)
          (fun z hz s H C cl fp => ?_)) ?_))) ?_
        · have hz2 := hb.2 z hz
          refine ev_ixT (ev_name 3 rfl) (ev_name 10 rfl) ?_
          have e : z = ((z.toNat : Nat) : Int) := by omega
          have e2 := at_map (f := rd) (xs := poolQ) (i := z.toNat) (d := 0) (by show _ < 5; omega)
          rw [← e] at e2
          exact e2
        · rw [List.length_map, hb.1]; omega
        · show PyData.tuple _ = PyData.tuple ((rowOf l).map rd)
          unfold rowOf
          rw [List.map_map]
          rfl
      · rw [List.length_map]; omega
    · refine ev_eq (ev_tupleL m2 (lv_of_ef (ef_lc (own := [("_law_own", 7), ("_law_load", 8)]) sc__law_source.nd (iv_eq (iv_zipL m6 (av_cons (ev_name 6 rfl) (av_cons (ev_name 5 rfl) av_nil))) (d' := (((spotS c m u).map rowOf).zip (loadsL c m u).1).map fun p => pairD (eR p.1) (.int p.2)) ?_) (blkOk_by (by kernel_rfl))
        (lc_all (own := [7, 8]) (fun p : Row × Int => pairD (eR p.1) (.int p.2)) (fun p => pairD (eR p.1) (rd (Rat.divInt p.2 (loadsL c m u).1.sum))) (fun p => C1 ++ ([.d (.list ((spotS c m u).map tI)), .d (.list ((loadsL c m u).1.map .int)), .d (.list ((spotS c m u).map fun l => eR (rowOf l))), .d (eR p.1), .d (.int p.2), .u, .u] : List SV)) (is := [7, 8]) (by simp) (((spotS c m u).map rowOf).zip (loadsL c m u).1) (fun z hz s H C cl fp => ?_) (fun z hz s H C cl fp => ?_)) ?_))) ?_
      · have e : (spotS c m u).map (fun l => eR (rowOf l)) = ((spotS c m u).map rowOf).map eR := by rw [List.map_map]; rfl
        rw [e, List.zip_map, List.map_map]
        rfl
      · exact gv_pair 7 8 sc__law_source.nd
      · refine ev_tup (av_cons (ev_name 7 rfl) (av_cons (ev_call G2 hr (av_cons (ev_name 8 rfl) (av_cons (ev_sum m5 (lv_of_ev (ev_name 5 rfl))) av_nil)) ⟨z.2, (loadsL c m u).1.sum, rfl, by omega, ?_, rfl⟩) av_nil))
        have h3 : (2 : Nat) ^ 5 ≤ 2 ^ 8999 := Nat.pow_le_pow_right (by decide) (by decide)
        omega
      · rw [List.length_map, List.length_zip, List.length_map]; omega
      · show PyData.tuple _ = PyData.tuple ((srcOf c m u).map eQ)
        unfold srcOf
        rw [List.map_map]
        rfl
end
end DW

/-! Pr20: the law's wishes. -/
namespace DW
open PySem PySem.Spec PyProof.Rows L2 DM
theorem runL_snoc {α σ β : Type} (f : α → σ → β) (g : α → σ → σ) (x : α) : ∀ (zs : List α) (s : σ), runL f g (zs ++ [x]) s = ((runL f g zs s).1 ++ [f x (runL f g zs s).2], g x (runL f g zs s).2)
  | [], s => rfl
  | z :: zs, s => by
    rw [List.cons_append]
    unfold runL
    rw [runL_snoc f g x zs (g z s)]
    rfl
theorem eqvAll_nat : ∀ a b : List Nat, PyData.eqvAll (a.map eN) (b.map eN) = decide (a = b)
  | [], [] => by simp [PyData.eqvAll]
  | [], _ :: _ => by simp [PyData.eqvAll]
  | _ :: _, [] => by simp [PyData.eqvAll]
  | x :: a, y :: b => by
    rw [List.map_cons, List.map_cons, PyData.eqvAll, eqvAll_nat a b]
    have e : PyData.eqv (eN x) (eN y) = decide (x = y) := by
      show PyData.eqv (.int _) (.int _) = _
      rw [PyData.eqv, Bool.eq_iff_iff, beq_iff_eq, decide_eq_true_eq]
      omega
    rw [e, Bool.eq_iff_iff]
    simp
theorem shaped_lN (m : List Nat) : SeqAt.shaped (.list (m.map eN)) = true := by
  have h : PyData.canLayAll0 (m.map eN) = true := canLayAll_map eN (fun _ => rfl) m
  have d : (PyData.list (m.map eN)).depth ≤ 1 := by
    rw [PyData.depth]
    have := depthAll_map (n := 0) eN (fun a => by simp [PyData.depth]) m
    omega
  unfold SeqAt.shaped
  rw [PyData.canLay0, h, decide_eq_true (Nat.le_trans d (by decide))]
  rfl
/-! ### mirrors -/
def valsQ : List Nat := [0, 1, 1, 2]
def coefQ : List Int := [1, 2, -1, -3]
abbrev ownR (c : Nat) (u : Urn) : List Nat × Urn := runL (fun _ u => valsQ.getD (takeN u 4) 0) (fun _ u => takeS u 4) (List.range c) u
def momOf (c : Nat) (l : List Nat) : Mom := if (!decide (l = List.replicate c 0)) = true then l else List.replicate c 1
def facR (c k : Nat) (u : Urn) : List Mom × Urn := runL (fun _ u => momOf c (ownR c u).1) (fun _ u => (ownR c u).2) (List.range k) u
def cntK (u : Urn) : Nat := [1, 2, 2, takeN u 3].getD (takeN (takeS u 3) 4) 0
def lapF (c : Nat) (u : Urn) : List Mom × Urn := facR c (cntK u) (takeS (takeS u 3) 4)
def lapC (c : Nat) (u : Urn) : Int := coefQ.getD (takeN (lapF c u).2 4) 0
abbrev IA := List (Fac × Int)
def ival (acc : IA) (f : Fac) : Int := (tget acc f).getD 0
def lapA (c : Nat) (acc : IA) (u : Urn) : IA := tset acc (sortM (lapF c u).1) (ival acc (sortM (lapF c u).1) + lapC c u)
def lapS (c : Nat) (st : IA × Urn) (_ : Nat) : IA × Urn := (lapA c st.1 st.2, takeS (lapF c st.2).2 4)
def wishR (c : Nat) (u : Urn) : IA × Urn := (List.range (1 + takeN u 3)).foldl (lapS c) ([], takeS u 3)
def wishOf (c : Nat) (u : Urn) : Wish := ((sortF ((wishR c u).1.map (·.1))).filter fun f => !(ival (wishR c u).1 f == 0)).map fun f => (f, ((ival (wishR c u).1 f : Int) : Rat))
/-! ### their shape -/
theorem own_ok {c N : Nat} {u : Urn} (h : UrnOk N u) : UrnOk (N + c) (ownR c u).2 := by
  have := runL_ok (f := fun (_ : Nat) u => valsQ.getD (takeN u 4) 0) (d := 1) (g := fun (_ : Nat) u => takeS u 4) (fun _ N u h => h.take 4) (List.range c) N u h
  rw [List.length_range, Nat.one_mul] at this
  exact this
theorem vals_le (i : Nat) : valsQ.getD i 0 ≤ 2 := by
  match i with
  | 0 => decide
  | 1 => decide
  | 2 => decide
  | 3 => decide
  | _ + 4 => exact Nat.zero_le _
theorem momOf_ok (c : Nat) (u : Urn) : (momOf c (ownR c u).1).length = c ∧ ∀ n ∈ momOf c (ownR c u).1, n ≤ 2 := by
  have h1 : (ownR c u).1.length = c := by rw [runL_len, List.length_range]
  have h2 : ∀ n ∈ (ownR c u).1, n ≤ 2 := runL_all (Q := fun n => n ≤ 2) (fun _ s => vals_le _) _ _
  unfold momOf
  split
  · exact ⟨h1, h2⟩
  · refine ⟨List.length_replicate, fun n hn => ?_⟩
    rw [List.eq_of_mem_replicate hn]
    decide
theorem fac_ok {c k N : Nat} {u : Urn} (h : UrnOk N u) : UrnOk (N + c * k) (facR c k u).2 := by
  have := runL_ok (f := fun (_ : Nat) u => momOf c (ownR c u).1) (d := c) (g := fun (_ : Nat) u => (ownR c u).2) (fun _ N u h => own_ok h) (List.range k) N u h
  rw [List.length_range] at this
  exact this
theorem fac_len (c k : Nat) (u : Urn) : (facR c k u).1.length = k := by
  unfold facR
  rw [runL_len, List.length_range]
theorem fac_mem (c k : Nat) (u : Urn) : ∀ m ∈ (facR c k u).1, m.length = c ∧ ∀ n ∈ m, n ≤ 2 := runL_all (fun _ s => momOf_ok c s) _ _
theorem cnt_le (u : Urn) : cntK u ≤ 2 := by
  have h1 := takeN_lt u (n := 3) (by decide)
  have h2 := takeN_lt (takeS u 3) (n := 4) (by decide)
  unfold cntK
  match takeN (takeS u 3) 4, h2 with
  | 0, _ => show 1 ≤ 2; decide
  | 1, _ => show 2 ≤ 2; decide
  | 2, _ => show 2 ≤ 2; decide
  | 3, _ => show takeN u 3 ≤ 2; omega
theorem lapF_ok {c N : Nat} (hc : c ≤ 2) {u : Urn} (h : UrnOk N u) : UrnOk (N + 6) (lapF c u).2 := by
  have := fac_ok (c := c) (k := cntK u) ((h.take 3).take 4)
  exact this.mono (by have := Nat.mul_le_mul hc (cnt_le u); omega)
theorem coef_bd (i : Nat) : (coefQ.getD i 0).natAbs ≤ 3 := by
  match i with
  | 0 => decide
  | 1 => decide
  | 2 => decide
  | 3 => decide
  | _ + 4 => exact Nat.zero_le _
def KeyW (c : Nat) (f : Fac) : Prop := f.length ≤ 2 ∧ ∀ m ∈ f, m.length = c ∧ ∀ n ∈ m, n ≤ 2
structure AccOk (c j : Nat) (acc : IA) : Prop where
  len : acc.length ≤ j
  key : ∀ p ∈ acc, KeyW c p.1 ∧ p.2.natAbs ≤ 3 * j
theorem mem_sortM {fs : Fac} {m : Mom} : m ∈ sortM fs ↔ m ∈ fs := (perm_sortM fs).mem_iff
theorem len_sortM (fs : Fac) : (sortM fs).length = fs.length := (perm_sortM fs).length_eq
theorem lap_key (c : Nat) (u : Urn) : KeyW c (sortM (lapF c u).1) := by
  refine ⟨?_, fun m hm => fac_mem c _ _ m (mem_sortM.mp hm)⟩
  rw [len_sortM]
  unfold lapF
  rw [fac_len]
  exact cnt_le u
theorem ival_bd {c j : Nat} {acc : IA} (h : AccOk c j acc) (f : Fac) : (ival acc f).natAbs ≤ 3 * j := by
  unfold ival
  cases e : tget acc f with
  | none => exact Nat.zero_le _
  | some v =>
    obtain ⟨p, h1, _, h2⟩ := tget_mem e
    show v.natAbs ≤ _
    rw [← h2]
    exact (h.key p h1).2
theorem lapA_ok {c j : Nat} {acc : IA} (h : AccOk c j acc) (u : Urn) : AccOk c (j + 1) (lapA c acc u) where
  len := Nat.le_trans (tset_len _ _ _) (by have := h.len; omega)
  key := fun p hp => by
    rcases tset_mem hp with e | e
    · exact ⟨(h.key p e).1, by have := (h.key p e).2; omega⟩
    · rw [e]
      refine ⟨lap_key c u, ?_⟩
      have h1 := ival_bd h (sortM (lapF c u).1)
      have h2 := coef_bd (takeN (lapF c u).2 4)
      show (ival acc (sortM (lapF c u).1) + lapC c u).natAbs ≤ _
      have h3 : (lapC c u).natAbs ≤ 3 := h2
      have := Int.natAbs_add_le (ival acc (sortM (lapF c u).1)) (lapC c u)
      omega
theorem laps_ok {c N : Nat} (hc : c ≤ 2) {u : Urn} (h : UrnOk N u) : ∀ j, AccOk c j ((List.range j).foldl (lapS c) ([], u)).1 ∧ UrnOk (N + 7 * j) ((List.range j).foldl (lapS c) ([], u)).2
  | 0 => ⟨⟨Nat.le_refl _, fun p hp => by simp at hp⟩, h⟩
  | j + 1 => by
    obtain ⟨h1, h2⟩ := laps_ok hc h j
    rw [List.range_succ, List.foldl_append]
    exact ⟨lapA_ok h1 _, ((lapF_ok hc h2).take 4).mono (by omega)⟩
theorem wishR_ok {c N : Nat} (hc : c ≤ 2) {u : Urn} (h : UrnOk N u) : AccOk c 3 (wishR c u).1 ∧ UrnOk (N + 22) (wishR c u).2 := by
  have ht := takeN_lt u (n := 3) (by decide)
  obtain ⟨h1, h2⟩ := laps_ok hc (h.take 3) (1 + takeN u 3)
  exact ⟨⟨by have := h1.len; unfold wishR; omega, fun p hp => ⟨(h1.key p hp).1, by have := (h1.key p hp).2; omega⟩⟩, h2.mono (by omega)⟩
structure W1 (c : Nat) (w : Wish) : Prop where
  ok : W0 w
  row : ∀ p ∈ w, ∀ m ∈ p.1, m.length = c
theorem deg_of_le {w : Wish} {n : Nat} (h : ∀ p ∈ w, p.1.length ≤ n) : deg w ≤ n := by
  have h1 := (foldr_max (w.map fun p => p.1.length)).1
  have h2 : deg w ∈ 0 :: w.map fun p => p.1.length := h1
  rcases List.mem_cons.mp h2 with e | e
  · omega
  · obtain ⟨p, hp, e⟩ := List.mem_map.mp e
    rw [← e]
    exact h p hp
theorem wishOf_ok {c N : Nat} (hc : c ≤ 2) {u : Urn} (h : UrnOk N u) : W1 c (wishOf c u) := by
  obtain ⟨h1, _⟩ := wishR_ok hc h
  have hm : ∀ p ∈ wishOf c u, KeyW c p.1 ∧ p.2 = ((ival (wishR c u).1 p.1 : Int) : Rat) := fun p hp => by
    obtain ⟨f, hf, rfl⟩ := List.mem_map.mp hp
    have h2 := mem_sortF.mp (List.mem_filter.mp hf).1
    obtain ⟨q, hq, rfl⟩ := List.mem_map.mp h2
    exact ⟨(h1.key q hq).1, rfl⟩
  refine ⟨⟨?_, deg_of_le fun p hp => (hm p hp).1.1, fun p hp m hmm => ?_, fun p hp => ?_⟩, fun p hp m hmm => ((hm p hp).1.2 m hmm).1⟩
  · unfold wishOf
    rw [List.length_map]
    have := List.length_filter_le (fun f => !(ival (wishR c u).1 f == 0)) (sortF ((wishR c u).1.map (·.1)))
    rw [len_sortF, List.length_map] at this
    have := h1.len
    omega
  · have := (hm p hp).1.2 m hmm
    exact ⟨by omega, this.2⟩
  · rw [(hm p hp).2]
    exact fit_int (Nat.le_trans (ival_bd h1 p.1) (by decide))
/-! ### the walk -/
abbrev M3 (a b : MO) (n : Nat) (ys : List PyData) : List MO := a :: b :: (List.replicate n .dead ++ [MO.l ys])
theorem m3_len (a b : MO) (n : Nat) : (a :: b :: List.replicate n MO.dead).length = n + 2 := by rw [List.length_cons, List.length_cons, List.length_replicate]
theorem m3_get (a b : MO) (n : Nat) (ys : List PyData) : (M3 a b n ys)[n + 2]? = some (MO.l ys) := by
  show (List.replicate n MO.dead ++ [MO.l ys])[n]? = _
  rw [List.getElem?_append_right (by rw [List.length_replicate]; omega), List.length_replicate, Nat.sub_self]
  rfl
theorem m3_set (a b : MO) (n : Nat) (ys : List PyData) (o : MO) : (M3 a b n ys).set (n + 2) o = a :: b :: (List.replicate n MO.dead ++ [o]) := by
  show _ :: _ :: (List.replicate n MO.dead ++ [MO.l ys]).set n o = _
  rw [List.set_append_right _ _ (by rw [List.length_replicate]; omega), List.length_replicate, Nat.sub_self]
  rfl
abbrev kvI (acc : IA) : KV := kvO kF PyData.int acc
theorem keys_dataI (acc : IA) : (kvI acc).map (fun p => p.1.data) = (acc.map (·.1)).map eF := by
  unfold kvI kvO
  rw [List.map_map, List.map_map]
  apply List.map_congr_left
  intro p _
  exact kF_data p.1
theorem iget {acc : IA} {f : Fac} (h : f ∈ sortF (acc.map (·.1))) : kvGet (kvI acc) (.tup (f.map kN)) = some (.int (ival acc f)) := by
  have e := kv_tget (k := kF) (e := PyData.int) (fun a b => kF_inj) f acc
  obtain ⟨q, hq⟩ := tget_some (mem_sortF.mp h)
  show kvGet _ (kF f) = _
  rw [e, hq]
  unfold ival
  rw [hq]
  rfl
theorem getD_at {α : Type} (f : α → PyData) (xs : List α) (i : Nat) (d : α) (h : i < xs.length) : (xs.map f)[i]? = some (f (xs.getD i d)) := by
  rw [List.getElem?_map, List.getElem?_eq_getElem h, List.getD_eq_getElem?_getD, List.getElem?_eq_getElem h]
  rfl
section
variable {P : Program} {w : World} {K : PySem.W.Frag} {mg : Str → Option Value} {base : Heap}
def R_wish (us ds : List PyData) (d : PyData) (us' : List PyData) : Prop := ∃ (u : Urn) (N c : Nat), us = eU u ∧ UrnOk N u ∧ N ≤ 900 ∧ ds = [.int c, .int 2] ∧ 1 ≤ c ∧ c ≤ 2 ∧ d = eW (wishOf c u) ∧ us' = eU (wishR c u).2
theorem ok_law_wish (D : Df K mg "_law_wish" s__law_wish) (G1 : Fn P w K mg base 1 "_law_take" (spU K R_take)) (G2 : Fn P w K mg base 2 "_law_of" (spU K R_of)) (m1 : mg "range" = none) (m2 : mg "tuple" = none) (m4 : mg "sorted" = none) : Fn P w K mg base 3 "_law_wish" (spU K R_wish) := by
  refine fn_urn (k := 2) D sc__law_wish ?_ (fun _ _ _ _ _ _ us hl => match us, hl with | [_, _, _], _ => by kernel_rfl) ?_
  · rintro us ds d us' ⟨a, b, c, _, _, _, rfl, _⟩
    rfl
  · rintro f cdv A outer s H E us ds d us' hr ⟨u, N, c, rfl, hu, hN, rfl, hc1, hc2, rfl, rfl⟩
    have hu1 := hu.take 3
    have ht := takeN_lt u (n := 3) (by decide)
    let st : Nat → IA × Urn := fun j => (List.range j).foldl (lapS c) ([], takeS u 3)
    have hst : ∀ j, AccOk c j (st j).1 ∧ UrnOk (N + 1 + 7 * j) (st j).2 := fun j => laps_ok hc2 hu1 j
    have hst1 : ∀ j, st (j + 1) = lapS c (st j) j := fun j => by
      show (List.range (j + 1)).foldl (lapS c) _ = _
      rw [List.range_succ, List.foldl_append]
      rfl
    let C1 : List SV := [.h 0, .d (.int c), .d (.int 2), .h 1]
    refine ⟨.l (eU (wishR c u).2) :: .m (kvI (wishR c u).1) :: List.replicate (1 + takeN u 3) .dead, rfl, bj_cons (sj_dict 3 sc__law_wish.nd) (bj_cons (ρ1 := C1 ++ ([.u, .u, .u, .u, .u, .u] : List SV)) (μ1 := .l (eU (wishR c u).2) :: .m (kvI (wishR c u).1) :: List.replicate (1 + takeN u 3) .dead) ?_ (bj_one (sj_ret (d := eW (wishOf c u)) ?_)))⟩
    · refine sj_eq (sj_for (iv_eq (iv_range m1 (ev_add (i := 1) (j := (takeN u 3 : Nat)) ev_int (ev_callV 0 G1 (μ' := [.l (eU (takeS u 3)), .m []]) hr rfl (av_cons ev_int av_nil) rfl ⟨u, N, 3, rfl, hu, by omega, rfl, by decide, by decide, rfl, rfl⟩ rfl)) (by omega) (by omega)) (d' := (List.range (1 + takeN u 3)).map eN) ?_)
        (for_preS eN (fun _ => C1 ++ ([.u, .u, .u, .u, .u, .u] : List SV)) (fun pre => .l (eU (st pre.length).2) :: .m (kvI (st pre.length).1) :: List.replicate pre.length .dead) (List.range (1 + takeN u 3)) rfl rfl fun pre j suf e => ?_)) ?_
      · have e : (1 : Int) + ((takeN u 3 : Nat) : Int) = ((1 + takeN u 3 : Nat) : Int) := by omega
        rw [e]
        exact rng0 _
      · obtain ⟨rfl, hj⟩ := range_split e
        rw [List.length_append, List.length_singleton, List.length_range]
        obtain ⟨ha, hv⟩ := hst j
        have hle : (st j).1.length ≤ 3 := by have := ha.len; omega
        rw [hst1]
        generalize hsj : st j = sj at ha hv hle
        obtain ⟨acc, v⟩ := sj
        have hM : N + 1 + 7 * j ≤ 930 := by omega
        generalize N + 1 + 7 * j = M at hv hM
        have hcnt := cnt_le v
        have hv2 := (hv.take 3).take 4
        have hF := lapF_ok hc2 hv
        have hFm := fac_mem c (cntK v) (takeS (takeS v 3) 4)
        have hck : c * cntK v ≤ 4 := Nat.mul_le_mul hc2 hcnt
        let C2 : List SV := C1 ++ ([.d (.int j)] : List SV)
        let A : MO := .m (kvI acc)
        refine ⟨[4], C2 ++ ([.u, .u, .u, .u, .u] : List SV), C2 ++ ([.d (.list ((lapF c v).1.map eM)), .u, .u, .d (eF (sortM (lapF c v).1)), .u] : List SV), gv_name 4 sc__law_wish.nd,
          bj_cons (ρ1 := C2 ++ ([.h (j + 2), .u, .u, .u, .u] : List SV)) (μ1 := M3 (.l (eU v)) A j []) (sj_eq (sj_own 5 sc__law_wish.nd (ef_lst av_nil)) ?_)
          (bj_cons (ρ1 := C2 ++ ([.h (j + 2), .u, .u, .u, .u] : List SV)) (μ1 := M3 (.l (eU (lapF c v).2)) A j ((lapF c v).1.map eM)) ?_
          (bj_freeze (j + 2) (by omega) (m3_get _ _ _ _) (bj_eq2 (ρ' := C2 ++ ([.d (.list ((lapF c v).1.map eM)), .u, .u, .u, .u] : List SV)) (μ' := .l (eU (lapF c v).2) :: A :: List.replicate (j + 1) .dead) ?_ ?_
          (bj_cons (sj_set 8 sc__law_wish.nd (d := eF (sortM (lapF c v).1)) (ev_tupleL m2 (lv_of_ef (ef_eq (ef_sortL hr m4 (lv_of_ev (ev_name 5 rfl)) (tups_eM _)) (sortD_eM _)))))
          (bj_one (sj_eq (sj_dset 3 (d := .int (ival acc (sortM (lapF c v).1) + lapC c v)) (μ1 := .l (eU (takeS (lapF c v).2 4)) :: A :: List.replicate (j + 1) .dead) (ks := (sortM (lapF c v).1).map kN) hr ?_ rfl (ev_name 8 rfl) rfl (kF_data _) (kF_depth _) ?_) ?_)))))), ?_⟩
        · rw [m3_len]
          rfl
        · -- the factors
          have hof : (List.map PyData.int [1, 2, 2, ((takeN v 3 : Nat) : Int)])[takeN (takeS v 3) 4]? = some (eN (cntK v)) := by
            have h2 := takeN_lt (takeS v 3) (n := 4) (by decide)
            unfold cntK
            match takeN (takeS v 3) 4, h2 with
            | 0, _ => rfl
            | 1, _ => rfl
            | 2, _ => rfl
            | 3, _ => rfl
          refine sj_eq (sj_for (iv_eq (iv_range m1 (ev_callV 0 G2 (μ' := M3 (.l (eU (takeS (takeS v 3) 4))) A j []) hr rfl (av_cons (ev_of_ef (ef_lst (av_cons ev_int (av_cons (ev_name 2 rfl) (av_cons (ev_name 2 rfl) (av_cons (ev_callV 0 G1 (μ' := M3 (.l (eU (takeS v 3))) A j []) hr rfl (av_cons (ev_add (ev_name 2 rfl) ev_int) av_nil) rfl ⟨v, M, 3, rfl, hv, by omega, rfl, by decide, by decide, rfl, rfl⟩ rfl) av_nil)))))) av_nil) rfl
              ⟨takeS v 3, M + 1, _, _, rfl, hv.take 3, by omega, rfl, .inl rfl, by show 0 < 4; decide, by show 4 ≤ 1000; decide, hof, rfl⟩ rfl) (by omega) (by omega)) (rng0 (cntK v)))
            (for_preS eN (fun _ => C2 ++ ([.h (j + 2), .u, .u, .u, .u] : List SV)) (fun pre => M3 (.l (eU (facR c pre.length (takeS (takeS v 3) 4)).2)) A j ((facR c pre.length (takeS (takeS v 3) 4)).1.map eM)) (List.range (cntK v)) rfl rfl fun pre i suf2 e2 => ?_)) ?_
          · obtain ⟨rfl, hi⟩ := range_split e2
            rw [List.length_append, List.length_singleton, List.length_range]
            have hf := fac_ok (c := c) (k := i) hv2
            have hfl := fac_len c i (takeS (takeS v 3) 4)
            have es : facR c (i + 1) (takeS (takeS v 3) 4) = ((facR c i (takeS (takeS v 3) 4)).1 ++ [momOf c (ownR c (facR c i (takeS (takeS v 3) 4)).2).1], (ownR c (facR c i (takeS (takeS v 3) 4)).2).2) := by
              unfold facR
              rw [List.range_succ, runL_snoc]
            rw [es]
            have hci : c * i ≤ 4 := Nat.le_trans (Nat.mul_le_mul_left c (by omega)) hck
            generalize facR c i (takeS (takeS v 3) 4) = fi at hf hfl
            obtain ⟨fs, x⟩ := fi
            have hf' : UrnOk 960 x := hf.mono (by omega)
            have hol : (ownR c x).1.length = c := by rw [runL_len, List.length_range]
            refine ⟨[6], C2 ++ ([.h (j + 2), .d (.int i), .u, .u, .u] : List SV), C2 ++ ([.h (j + 2), .d (.int i), .d (.list ((ownR c x).1.map eN)), .u, .u] : List SV), gv_name 6 sc__law_wish.nd,
              bj_cons (ρ1 := C2 ++ ([.h (j + 2), .d (.int i), .d (.list ((ownR c x).1.map eN)), .u, .u] : List SV)) (μ1 := M3 (.l (eU (ownR c x).2)) A j (fs.map eM)) (sj_setLc 7 (own := [("_law_column_in", 9)]) sc__law_wish.nd (iv_eq (iv_range m1 (ev_name 1 rfl) (by omega) (by omega)) (rng0 c)) (blkOk_by (by kernel_rfl))
                (lc_run (own := [9]) eN (fun _ u => valsQ.getD (takeN u 4) 0) eN (fun _ u => takeS u 4) (fun u => M3 (.l (eU u)) A j (fs.map eM)) UrnOk 1 990 (fun z => C2 ++ ([.h (j + 2), .d (.int i), .u, .u, .d (eN z)] : List SV)) (is := [9]) (by simp) (List.range c) x 960 hf' (by rw [List.length_range]; omega) (fun z hz s H C cl fp => gv_name 9 sc__law_wish.nd)
                  (fun z hz L y hy hL => ⟨hy.take 4, fun s H C cl fp => ?_⟩)) ?_)
              (bj_one (sj_eq (sj_append 5 (xs := fs.map eM) (ys := fs.map eM) (μ1 := M3 (.l (eU (ownR c x).2)) A j (fs.map eM)) rfl (d := eM (momOf c (ownR c x).1)) ?_ (m3_get _ _ _ _) (m3_get _ _ _ _) ?_) ?_)), ?_⟩
            · refine ev_callV 0 G2 hr rfl (av_cons (ev_of_ef (ef_lst (av_cons ev_int (av_cons ev_int (av_cons ev_int (av_cons ev_int av_nil)))))) av_nil) rfl ⟨y, L, valsQ.map eN, _, rfl, hy, by omega, rfl, .inl rfl, by decide, by decide, ?_, rfl⟩ rfl
              exact getD_at eN valsQ (takeN y 4) 0 (takeN_lt y (by decide))
            · rw [List.length_map, hol]; omega
            · have e3 : (if PyData.eqv (.list ((ownR c x).1.map eN)) (.list (List.replicate c (PyData.int 0))) then false else true) = !decide ((ownR c x).1 = List.replicate c 0) := by
                have e4 : List.replicate c (PyData.int 0) = (List.replicate c 0).map eN := by rw [List.map_replicate]; rfl
                rw [e4, PyData.eqv, eqvAll_nat]
                cases decide ((ownR c x).1 = List.replicate c 0) <;> rfl
              have e5 : SeqAt.shaped (.list (List.replicate c (PyData.int 0))) = true := by
                have e4 : List.replicate c (PyData.int 0) = (List.replicate c 0).map eN := by rw [List.map_replicate]; rfl
                rw [e4]
                exact shaped_lN _
              refine ev_eq (ev_if (k := !decide ((ownR c x).1 = List.replicate c 0)) (tv_eq (tv_cmp (op_neD (by have := room100 hr; exact Nat.lt_of_le_of_lt (Nat.add_le_add_left (by decide) _) this)) (ov_neD (d1 := .list ((ownR c x).1.map eN)) (d2 := .list (List.replicate c (PyData.int 0))) (shaped_lN _) e5) (ev_name 7 rfl) (ev_of_ef (ef_eq (ef_rep (ef_lst (av_cons ev_int av_nil)) (ev_name 1 rfl) (by omega) (by omega) (by show 1 ≤ 1000; decide)) (by rw [rep_flat, Int.toNat_natCast])))) ?_)
                (fun _ => ev_tupleL m2 (lv_of_ev (ev_name 7 rfl))) (fun _ => ev_repT (ev_tup (av_cons ev_int av_nil)) (ev_name 1 rfl) (by simp) (by omega) (by omega) (by show 1 ≤ 1000; decide))) ?_
              · rw [← e3]
                cases PyData.eqv (.list ((ownR c x).1.map eN)) (.list (List.replicate c (PyData.int 0))) <;> rfl
              · unfold momOf
                split
                · rfl
                · show PyData.tuple (List.replicate _ [PyData.int 1]).flatten = PyData.tuple ((List.replicate c 1).map eN)
                  rw [rep_flat, Int.toNat_natCast, List.map_replicate]
                  rfl
            · rw [List.length_map, hfl]; omega
            · rw [m3_set, List.map_append]
              rfl
            · exact .keep (.keep (.keep (.keep (.keep (.keep (.drop (.drop (.keep (.keep .nil)))))))))
          · show Rs.nx _ (M3 (.l (eU (facR c (List.range (cntK v)).length (takeS (takeS v 3) 4)).2)) A j ((facR c (List.range (cntK v)).length (takeS (takeS v 3) 4)).1.map eM)) = _
            rw [List.length_range]
            rfl
        · have e5 : ∀ xs, frz (j + 2) xs (.h (j + 2)) = .d (.list xs) := fun xs => if_pos rfl
          have e6 : ∀ xs, frz (j + 2) xs (.h 0) = .h 0 := fun xs => by show (if 0 = j + 2 then SV.d (.list xs) else SV.h 0) = _; rw [if_neg (by omega)]
          have e7 : ∀ xs, frz (j + 2) xs (.h 1) = .h 1 := fun xs => by show (if 1 = j + 2 then SV.d (.list xs) else SV.h 1) = _; rw [if_neg (by omega)]
          show [frz (j + 2) _ (.h 0), _, _, frz (j + 2) _ (.h 1), _, frz (j + 2) _ (.h (j + 2)), _, _, _, _] = _
          rw [e5, e6, e7]
          rfl
        · rw [m3_set, mm_dead]
        · refine ev_add (ev_eq (ev_dget 3 (ks := (sortM (lapF c v).1).map kN) hr rfl rfl (ev_name 8 rfl) ev_int (kF_data _) (kF_depth _)) ?_) (ev_callV 0 G2 hr rfl (av_cons (ev_of_ef (ef_lst (av_cons ev_int (av_cons ev_int (av_cons (ev_neg ev_int) (av_cons (ev_neg ev_int) av_nil)))))) av_nil) rfl ⟨(lapF c v).2, M + 6, coefQ.map PyData.int, _, rfl, hF, by omega, rfl, .inl rfl, by decide, by decide, ?_, rfl⟩ rfl)
          · have e := kv_tget (k := kF) (e := PyData.int) (fun a b => kF_inj) (sortM (lapF c v).1) acc
            show (kvGet (kvI acc) (kF (sortM (lapF c v).1))).getD _ = _
            rw [e]
            unfold ival
            cases tget acc (sortM (lapF c v).1) <;> rfl
          · exact getD_at PyData.int coefQ (takeN (lapF c v).2 4) 0 (takeN_lt _ (by decide))
        · show (kvI acc).length ≤ _
          unfold kvI kvO
          rw [List.length_map]
          have h : acc.length ≤ 3 := hle
          omega
        · have e2 := kv_tset (k := kF) (e := PyData.int) (fun a b => kF_inj) acc (sortM (lapF c v).1) (ival acc (sortM (lapF c v).1) + lapC c v)
          show Rs.nx _ (.l (eU (takeS (lapF c v).2 4)) :: .m (kvSet (kvI acc) (kF (sortM (lapF c v).1)) (.int (ival acc (sortM (lapF c v).1) + lapC c v))) :: List.replicate (j + 1) .dead) = _
          rw [e2]
          rfl
        · exact .keep (.keep (.keep (.keep (.drop (.drop (.keep (.keep (.drop (.keep .nil)))))))))
      · show Rs.nx _ (.l (eU (st (List.range (1 + takeN u 3)).length).2) :: .m (kvI (st (List.range (1 + takeN u 3)).length).1) :: List.replicate (List.range (1 + takeN u 3)).length .dead) = _
        rw [List.length_range]
        rfl
    · have hW := (wishR_ok hc2 hu).1
      generalize (wishR c u).2 = v
      have ew : wishOf c u = ((sortF ((wishR c u).1.map (·.1))).filter fun f => !(ival (wishR c u).1 f == 0)).map fun f => (f, ((ival (wishR c u).1 f : Int) : Rat)) := rfl
      generalize (wishR c u).1 = acc at hW ew
      rw [ew]
      refine ev_eq (ev_tupleL m2 (lv_of_ef (ef_lc (own := [("_law_key", 8)]) sc__law_wish.nd (iv_list (ev_of_ef (ef_eq (ef_sortN 3 hr m4 rfl rfl (by rw [keys_dataI]; exact tups_eF _)) (by rw [keys_dataI, sortD_eF])))) (blkOk_by (by kernel_rfl))
        (lc_flt (own := [8]) eF (fun f => !(ival acc f == 0)) (fun f => eP (f, ((ival acc f : Int) : Rat))) (fun f => C1 ++ ([.u, .u, .u, .u, .d (eF f), .u] : List SV)) (is := [8]) (by simp) (sortF (acc.map (·.1))) (fun z hz s H C cl fp => gv_name 8 sc__law_wish.nd) (fun z hz s H C cl fp => ?_) (fun z hz hk s H C cl fp => ?_)) ?_))) ?_
      · exact tv_cmp op_ne ov_neI (ev_dix 3 (ks := z.map kN) hr rfl (ev_name 8 rfl) rfl (kF_data z) (kF_depth z) (iget hz)) ev_int
      · exact ev_tup (av_cons (ev_name 8 rfl) (av_cons (ev_tup (av_cons (ev_dix 3 (ks := z.map kN) hr rfl (ev_name 8 rfl) rfl (kF_data z) (kF_depth z) (iget hz)) (av_cons ev_int av_nil))) av_nil))
      · have h1 := List.length_filter_le (fun f => !(ival acc f == 0)) (sortF (acc.map (·.1)))
        rw [len_sortF, List.length_map] at h1
        rw [List.length_map]
        have := hW.len
        omega
      · show PyData.tuple _ = PyData.tuple (List.map eP (List.map _ _))
        rw [List.map_map]
        rfl
end
end DW

/-! Pr21: numbers of rows, products of means, what is gathered: plain facts. -/
namespace DW
open PySem PySem.Spec PyProof.Rows L2 DM
/-! ### numbers of rows -/
theorem rstep_mul : ∀ (ps : List (Rat × Nat)) (t : Rat), ps.foldl rstep t = t * ps.foldl rstep 1
  | [], t => by simp [Rat.mul_one]
  | p :: ps, t => by
    rw [List.foldl_cons, List.foldl_cons, rstep_mul ps (rstep t p), rstep_mul ps (rstep 1 p), rstep_eq, rstep_eq]
    grind
theorem rowM_nil (m : Mom) : rowM [] m = 1 := rfl
theorem rowM_nil' (r : Row) : rowM r [] = 1 := by cases r <;> rfl
theorem rowM_cons (x : Rat) (r : Row) (n : Nat) (m : Mom) : rowM (x :: r) (n :: m) = x ^ n * rowM r m := by
  show ((x, n) :: r.zip m).foldl rstep 1 = _
  rw [List.foldl_cons, rstep_mul, rstep_eq, Rat.one_mul]
  rfl
theorem qpow_add (x : Rat) (i : Nat) : ∀ j, x ^ (i + j) = x ^ i * x ^ j
  | 0 => by rw [Nat.add_zero, Rat.pow_zero, Rat.mul_one]
  | j + 1 => by rw [← Nat.add_assoc, Rat.pow_succ, qpow_add x i j, Rat.pow_succ, Rat.mul_assoc]
theorem rowM_join : ∀ (r : Row) (a b : Mom), a.length = b.length → rowM r (joinM a b) = rowM r a * rowM r b
  | [], a, b, _ => by rw [rowM_nil, rowM_nil, rowM_nil, Rat.mul_one]
  | x :: r, [], [], _ => by
    show rowM (x :: r) [] = _
    rw [rowM_nil', Rat.mul_one]
  | x :: r, [], _ :: _, h => by simp at h
  | x :: r, _ :: _, [], h => by simp at h
  | x :: r, i :: a, j :: b, h => by
    have e : joinM (i :: a) (j :: b) = (i + j) :: joinM a b := rfl
    rw [e, rowM_cons, rowM_cons, rowM_cons, rowM_join r a b (by simpa using h), qpow_add]
    grind
theorem rowM_blank : ∀ (r : Row) (k : Nat), rowM r (List.replicate k 0) = 1
  | [], k => rowM_nil _
  | x :: r, 0 => rowM_nil' _
  | x :: r, k + 1 => by
    rw [List.replicate_succ, rowM_cons, rowM_blank r k, Rat.pow_zero, Rat.mul_one]
/-- lengths as a pairing wants them -/
def Len (c : Nat) (m : Mom) : Prop := m = [] ∨ m.length = c
theorem rowM_pair {c : Nat} (r : Row) {a b : Mom} (ha : Len c a) (hb : Len c b) : rowM r (pairM a b) = rowM r a * rowM r b := by
  unfold pairM
  split
  · rename_i h
    rw [Bool.and_eq_true] at h
    refine rowM_join r a b ?_
    rcases ha with rfl | ha
    · cases h.1
    · rcases hb with rfl | hb
      · cases h.2
      · rw [ha, hb]
  · rename_i h
    split
    · rename_i h2
      have : b = [] := by
        cases b with
        | nil => rfl
        | cons x y => simp [h2] at h
      rw [this, rowM_nil', Rat.mul_one]
    · rename_i h2
      have : a = [] := by
        cases a with
        | nil => rfl
        | cons x y => simp at h2
      rw [this, rowM_nil', Rat.one_mul]
theorem rowM_or (r : Row) (m : Mom) (k : Nat) : rowM r (orM m (List.replicate k 0)) = rowM r m := by
  unfold orM
  split
  · rfl
  · rename_i h
    have : m = [] := by
      cases m with
      | nil => rfl
      | cons x y => simp at h
    rw [this, rowM_blank, rowM_nil']
/-! ### products of means -/
theorem momAt_ex (s : Src) (m : Mom) : momAt s m = Ex s fun r => rowM r m := rfl
theorem momAt_nil {s : Src} (h : Tot1 s) : momAt s [] = 1 := by
  rw [momAt_ex, Ex_congr (g := fun _ => 1) fun r => rowM_nil' r, Ex_const h]
def momP (s : Src) : Fac → Rat
  | [] => 1
  | m :: f => momAt s m * momP s f
theorem xval_eq (s : Src) : ∀ (f : Fac) (x : Rat), xval s x f = x * momP s f
  | [], x => by
    show x = x * 1
    rw [Rat.mul_one]
  | m :: f, x => by
    show xval s (x * momAt s m) f = x * (momAt s m * momP s f)
    rw [xval_eq s f, Rat.mul_assoc]
theorem momP_app (s : Src) : ∀ f g : Fac, momP s (f ++ g) = momP s f * momP s g
  | [], g => by
    show momP s g = 1 * momP s g
    rw [Rat.one_mul]
  | m :: f, g => by
    show momAt s m * momP s (f ++ g) = momAt s m * momP s f * momP s g
    rw [momP_app s f g, Rat.mul_assoc]
theorem momP_perm (s : Src) {f g : Fac} (h : f.Perm g) : momP s f = momP s g := by
  induction h with
  | nil => rfl
  | cons x _ ih =>
    show momAt s x * _ = momAt s x * _
    rw [ih]
  | swap x y l =>
    show momAt s y * (momAt s x * momP s l) = momAt s x * (momAt s y * momP s l)
    grind
  | trans _ _ h1 h2 => rw [h1, h2]
theorem momP_filter {s : Src} (h : Tot1 s) : ∀ f : Fac, momP s (f.filter fun m => !m.isEmpty) = momP s f
  | [] => rfl
  | m :: f => by
    have ih := momP_filter h f
    cases m with
    | nil =>
      show momP s (f.filter _) = momAt s [] * momP s f
      rw [momAt_nil h, Rat.one_mul, ih]
    | cons x m =>
      show momAt s (x :: m) * momP s (f.filter _) = momAt s (x :: m) * momP s f
      rw [ih]
theorem momP_met {s : Src} (h : Tot1 s) (near far : Fac) (lot im : List Nat) : momP s (met near far lot im) = momP s (metL near far lot im) := by
  unfold met
  rw [momP_perm s (perm_sortM _), momP_filter h]
theorem momP_fill {s : Src} (h : Tot1 s) (f : Fac) (d : Nat) : momP s (fillF f d) = momP s f := by
  unfold fillF
  rw [momP_app]
  have e : ∀ n, momP s (List.replicate n []) = 1 := fun n => by
    induction n with
    | zero => rfl
    | succ n ih =>
      rw [List.replicate_succ]
      show momAt s [] * momP s _ = 1
      rw [ih, momAt_nil h, Rat.mul_one]
  rw [e, Rat.mul_one]
/-! ### sums over what is gathered -/
abbrev hsum (h : Fac → Rat) (ps : Wish) : Rat := rsum (ps.map fun p => p.2 * h p.1)
theorem hsum_app (h : Fac → Rat) (a b : Wish) : hsum h (a ++ b) = hsum h a + hsum h b := by
  unfold hsum
  rw [List.map_append, rsum_append]
theorem rsum_perm {xs ys : List Rat} (h : xs.Perm ys) : rsum xs = rsum ys := by
  induction h with
  | nil => rfl
  | cons x _ ih => rw [rsum_cons, rsum_cons, ih]
  | swap x y l =>
    rw [rsum_cons, rsum_cons, rsum_cons, rsum_cons]
    grind
  | trans _ _ h1 h2 => rw [h1, h2]
theorem tget_nd {acc : Wish} (hn : (acc.map (·.1)).Nodup) {p : Fac × Rat} (hp : p ∈ acc) : tget acc p.1 = some p.2 := by
  obtain ⟨q, e⟩ := tget_some (List.mem_map.mpr ⟨p, hp, rfl⟩)
  obtain ⟨p', h1, h2, h3⟩ := tget_mem e
  rw [e, ← h3]
  congr 1
  have := (List.pairwise_map.mp hn)
  by_cases hq : p' = p
  · rw [hq]
  · exfalso
    have h4 : ∀ (l : Wish), l.Pairwise (fun a b => a.1 ≠ b.1) → p' ∈ l → p ∈ l → False := fun l => by
      induction l with
      | nil => intro _ h; simp at h
      | cons z l ih =>
        intro hl a b
        rw [List.pairwise_cons] at hl
        rcases List.mem_cons.mp a with a | a
        · rcases List.mem_cons.mp b with b | b
          · exact hq (a.trans b.symm)
          · exact hl.1 p b (by rw [← a, h2])
        · rcases List.mem_cons.mp b with b | b
          · exact hl.1 p' a (by rw [← b, h2])
          · exact ih hl.2 a b
    exact h4 acc this h1 hp
theorem tset_keys {acc : Wish} {f : Fac} {q : Rat} : (tset acc f q).map (·.1) = if (tget acc f).isSome = true then acc.map (·.1) else acc.map (·.1) ++ [f] := by
  unfold tset
  split
  · rw [List.map_map]
    apply List.map_congr_left
    intro p _
    show (if p.1 = f then (p.1, q) else p).1 = p.1
    split <;> rfl
  · rw [List.map_append]
    rfl
theorem tget_none {acc : Wish} {f : Fac} (h : ¬ (tget acc f).isSome = true) : f ∉ acc.map (·.1) := fun z => by
  obtain ⟨q, e⟩ := tget_some z
  rw [e] at h
  exact h rfl
theorem gacc_nd (ps : Wish) : ((gacc ps).map (·.1)).Nodup := by
  induction ps using rev_ind with
  | h0 => exact List.nodup_nil
  | h1 ps p ih =>
    rw [gacc_snoc]
    unfold gstep
    rw [tset_keys]
    split
    · exact ih
    · rename_i h
      rw [List.nodup_append]
      refine ⟨ih, by simp, fun a ha b hb e => ?_⟩
      have hb' : b = p.1 := by simpa using hb
      subst hb'
      exact tget_none h (e ▸ ha)
theorem hsum_set (h : Fac → Rat) : ∀ (acc : Wish) (f : Fac) (y : Rat), (acc.map (·.1)).Nodup → hsum h (tset acc f ((tget acc f).getD 0 + y)) = hsum h acc + y * h f := by
  intro acc f y hn
  by_cases hs : (tget acc f).isSome = true
  · obtain ⟨v, hv⟩ := Option.isSome_iff_exists.mp hs
    have e1 : tset acc f ((tget acc f).getD 0 + y) = acc.map fun p => if p.1 = f then (p.1, v + y) else p := by
      unfold tset
      rw [if_pos hs, hv]
      rfl
    rw [e1]
    obtain ⟨p, hp, hf, hpv⟩ := tget_mem hv
    have go : ∀ l : Wish, (l.map (·.1)).Nodup → p ∈ l → hsum h (l.map fun p => if p.1 = f then (p.1, v + y) else p) = hsum h l + y * h f := fun l => by
      have hout : ∀ l : Wish, f ∉ l.map (·.1) → (l.map fun p => if p.1 = f then (p.1, v + y) else p) = l := fun l hl => by
        have : (l.map fun p => if p.1 = f then (p.1, v + y) else p) = l.map id := List.map_congr_left fun z hz => by
          have : ¬ z.1 = f := fun e => hl (List.mem_map.mpr ⟨z, hz, e⟩)
          rw [if_neg this]
          rfl
        rw [this, List.map_id]
      induction l with
      | nil => intro _ h; simp at h
      | cons z l ih =>
        intro hl hm
        rw [List.map_cons, List.nodup_cons] at hl
        unfold hsum at ih ⊢
        by_cases hz : z.1 = f
        · have hfl : f ∉ l.map (·.1) := hz ▸ hl.1
          have ez : z = p := by
            rcases List.mem_cons.mp hm with e | e
            · exact e.symm
            · exact absurd (List.mem_map.mpr ⟨p, e, hf⟩) hfl
          rw [List.map_cons, hout l hfl, if_pos hz, List.map_cons, List.map_cons, rsum_cons, rsum_cons]
          have : z.2 = v := by rw [ez, hpv]
          show (v + y) * h z.1 + _ = z.2 * h z.1 + _ + _
          rw [this, hz]
          grind
        · have hm' : p ∈ l := by
            rcases List.mem_cons.mp hm with e | e
            · exact absurd (by rw [← e]; exact hf) hz
            · exact e
          rw [List.map_cons, if_neg hz, List.map_cons, List.map_cons, rsum_cons, rsum_cons, ih hl.2 hm']
          grind
    exact go acc hn hp
  · have e1 : tget acc f = none := by
      cases h : tget acc f with
      | none => rfl
      | some v => rw [h] at hs; exact absurd rfl hs
    unfold tset
    rw [if_neg hs, hsum_app, e1]
    unfold hsum
    rw [List.map_singleton, rsum_one]
    show _ + (0 + y) * h f = _
    rw [Rat.zero_add]
theorem hsum_gacc (h : Fac → Rat) (ps : Wish) : hsum h (gacc ps) = hsum h ps := by
  induction ps using rev_ind with
  | h0 => rfl
  | h1 ps p ih =>
    rw [gacc_snoc]
    unfold gstep
    rw [hsum_set h _ _ _ (gacc_nd ps), ih, hsum_app]
    unfold hsum
    rw [List.map_singleton, rsum_one]
theorem rsum_drop0 {g : Fac → Rat} {b : Fac → Bool} (h : ∀ f, b f = false → g f = 0) : ∀ fs : List Fac, rsum ((fs.filter b).map g) = rsum (fs.map g)
  | [] => rfl
  | f :: fs => by
    have ih := rsum_drop0 h fs
    cases hb : b f with
    | true => rw [List.filter_cons_of_pos hb, List.map_cons, List.map_cons, rsum_cons, rsum_cons, ih]
    | false => rw [List.filter_cons_of_neg (by rw [hb]; decide), List.map_cons, rsum_cons, ih, h f hb, Rat.zero_add]
theorem hsum_gath (h : Fac → Rat) (ps : Wish) : hsum h (gath ps) = hsum h ps := by
  rw [← hsum_gacc h ps]
  have hn := gacc_nd ps
  unfold hsum gath
  generalize gacc ps = acc at hn
  rw [List.map_map]
  have e0 : ((fun p : Fac × Rat => p.2 * h p.1) ∘ fun f => (f, gval acc f)) = fun f => gval acc f * h f := rfl
  rw [e0, rsum_drop0 (g := fun f => gval acc f * h f) (b := fun f => decide (gval acc f ≠ 0)) (fun f hf => by
    have : gval acc f = 0 := by simpa using hf
    show gval acc f * h f = 0
    rw [this, Rat.zero_mul])]
  rw [rsum_perm ((perm_sortF _).map fun f => gval acc f * h f), List.map_map]
  refine rsum_congr fun p hp => ?_
  show gval acc p.1 * h p.1 = _
  unfold gval
  rw [tget_nd hn hp]
  rfl
/-! ### values -/
theorem wishVal_eq (s : Src) (w : Wish) : wishVal s w = hsum (momP s) w := by
  unfold wishVal hsum
  exact rsum_congr fun p _ => xval_eq s p.1 p.2
theorem wishVal_gath (s : Src) (w : Wish) : wishVal s (gath w) = wishVal s w := by
  rw [wishVal_eq, wishVal_eq, hsum_gath]
theorem wishVal_app (s : Src) (a b : Wish) : wishVal s (a ++ b) = wishVal s a + wishVal s b := by
  rw [wishVal_eq, wishVal_eq, wishVal_eq, hsum_app]
theorem wishVal_scale (s : Src) (w : Wish) (x : Rat) : wishVal s (scaleW w x) = wishVal s w * x := by
  rw [wishVal_eq, wishVal_eq]
  unfold hsum scaleW
  rw [List.map_map, ← rsum_mul_r]
  refine rsum_congr fun p _ => ?_
  show p.2 * x * momP s p.1 = _
  grind
def rowsP : Fac → List Row → Rat
  | m :: f, r :: rows => rowM r m * rowsP f rows
  | _, _ => 1
theorem handV_fold : ∀ (f : Fac) (rows : List Row) (t : Rat), (f.zip rows).foldl hstep t = t * rowsP f rows
  | [], rows, t => by
    show t = t * rowsP [] rows
    have : rowsP [] rows = 1 := by cases rows <;> rfl
    rw [this, Rat.mul_one]
  | m :: f, [], t => by
    show t = t * 1
    rw [Rat.mul_one]
  | m :: f, r :: rows, t => by
    show (f.zip rows).foldl hstep (t * rowM r m) = t * (rowM r m * rowsP f rows)
    rw [handV_fold f rows, Rat.mul_assoc]
theorem formV_eq (F : Wish) (rows : List Row) : formV F rows = hsum (fun f => rowsP f rows) F := by
  unfold formV hsum
  exact rsum_congr fun p _ => handV_fold p.1 rows p.2
theorem formV_gath (F : Wish) (rows : List Row) : formV (gath F) rows = formV F rows := by
  rw [formV_eq, formV_eq, hsum_gath]
end DW

/-! Pr22: shared means, layers, best programs as means of a kernel. -/
namespace DW
open PySem PySem.Spec PyProof.Rows L2 DM
abbrev ra (i : Nat) (p : Fac × Rat) (r : Row) : Rat := rowM r (p.1.getD i [])
abbrev xw (p : Fac × Rat) : Rat := p.2
abbrev S2 (w : Wish) : Row → Row → Rat := K2 w xw (ra 0) (ra 1)
abbrev T2 (s : Src) (w : Wish) : Row → Rat := K1 s w xw (ra 0) (ra 1)
abbrev Z2 (s : Src) (w : Wish) : Rat := K0 s w xw (ra 0) (ra 1)
abbrev S1 (w : Wish) : Row → Rat := J1 w xw (ra 0)
abbrev Z1 (s : Src) (w : Wish) : Rat := J0 s w xw (ra 0)
abbrev Z0 (w : Wish) : Rat := rsum (w.map xw)
theorem ex_ra (s : Src) (i : Nat) (p : Fac × Rat) : Ex s (ra i p) = momAt s (p.1.getD i []) := rfl
theorem fill2 {f : Fac} (h : f.length ≤ 2) : fillF f 2 = [f.getD 0 [], f.getD 1 []] := by
  match f, h with
  | [], _ => rfl
  | [_], _ => rfl
  | [_, _], _ => rfl
theorem fill1 {f : Fac} (h : f.length ≤ 1) : fillF f 1 = [f.getD 0 []] := by
  match f, h with
  | [], _ => rfl
  | [_], _ => rfl
theorem fill0 {f : Fac} (h : f.length ≤ 0) : fillF f 0 = [] := by
  match f, h with
  | [], _ => rfl
theorem momP2 {s : Src} (ht : Tot1 s) {f : Fac} (h : f.length ≤ 2) : momP s f = momAt s (f.getD 0 []) * momAt s (f.getD 1 []) := by
  rw [← momP_fill ht f 2, fill2 h]
  show momAt s _ * (momAt s _ * 1) = _
  rw [Rat.mul_one]
theorem momP1 {s : Src} (ht : Tot1 s) {f : Fac} (h : f.length ≤ 1) : momP s f = momAt s (f.getD 0 []) := by
  rw [← momP_fill ht f 1, fill1 h]
  show momAt s _ * 1 = _
  rw [Rat.mul_one]
theorem momP0 (s : Src) {f : Fac} (h : f.length ≤ 0) : momP s f = 1 := by
  match f, h with
  | [], _ => rfl
theorem hsum_flat {α : Type} (h : Fac → Rat) (f : α → Wish) (xs : List α) : hsum h (xs.flatMap f) = rsum (xs.map fun x => hsum h (f x)) := rsum_mapflat f (fun p => p.2 * h p.1) xs
theorem sharedVal (s : Src) (w : Wish) (k : Nat) : wishVal s (sharedW w k) = rsum (w.map fun p => rsum (w.map fun q => hsum (momP s) (shPair (deg w) k p q))) := by
  unfold sharedW
  rw [wishVal_gath, wishVal_eq]
  unfold sharedPairs
  rw [hsum_flat]
  exact rsum_congr fun p _ => hsum_flat _ _ _
theorem len_get {c : Nat} {w : Wish} (hw : ∀ p ∈ w, ∀ m ∈ p.1, m.length = c) {p : Fac × Rat} (hp : p ∈ w) (i : Nat) : Len c (p.1.getD i []) := by
  by_cases h : i < p.1.length
  · exact .inr (hw p hp _ (mem_getD h))
  · refine .inl ?_
    rw [List.getD_eq_getElem?_getD, List.getElem?_eq_none (by omega)]
    rfl
theorem mom_pair {c : Nat} (s : Src) {a b : Mom} (ha : Len c a) (hb : Len c b) : momAt s (pairM a b) = Ex s fun r => rowM r a * rowM r b := Ex_congr fun r => rowM_pair r ha hb
theorem metA (a b x y : Mom) : metL [a, b] [x, y] [0] [0] = [pairM a x, b, y] := rfl
theorem metB (a b x y : Mom) : metL [a, b] [x, y] [0] [1] = [pairM a y, b, x] := rfl
theorem metC (a b x y : Mom) : metL [a, b] [x, y] [1] [0] = [pairM b x, a, y] := rfl
theorem metD (a b x y : Mom) : metL [a, b] [x, y] [1] [1] = [pairM b y, a, x] := rfl
theorem metE (a b x y : Mom) : metL [a, b] [x, y] [0, 1] [0, 1] = [pairM a x, pairM b y] := rfl
theorem metF (a b x y : Mom) : metL [a, b] [x, y] [0, 1] [1, 0] = [pairM a y, pairM b x] := rfl
theorem metG (a x : Mom) : metL [a] [x] [0] [0] = [pairM a x] := rfl
theorem momP_c (s : Src) (m : Mom) (f : Fac) : momP s (m :: f) = momAt s m * momP s f := rfl
theorem momP_n (s : Src) : momP s [] = 1 := rfl
theorem sq20 : shareQ 2 0 = 1 := by decide +kernel
theorem sq21 : shareQ 2 1 = 1 / 4 := by decide +kernel
theorem sq22 : shareQ 2 2 = 1 / 2 := by decide +kernel
theorem sq10 : shareQ 1 0 = 1 := by decide +kernel
theorem sq11 : shareQ 1 1 = 1 := by decide +kernel
theorem sq00 : shareQ 0 0 = 1 := by decide +kernel
section
variable {c : Nat} {s : Src} {w : Wish} (ht : Tot1 s) (hw : ∀ p ∈ w, ∀ m ∈ p.1, m.length = c)
/-! ### shared means -/
include ht in
theorem sh20 (h : deg w = 2) : wishVal s (sharedW w 0) = Z2 s w * Z2 s w := by
  rw [sharedVal, h, ← sh_zero]
  refine rsum_congr fun p hp => rsum_congr fun q hq => ?_
  have e : shPair 2 0 p q = [(met (fillF p.1 2) (fillF q.1 2) [] [], shareQ 2 0 * (p.2 * q.2))] := rfl
  rw [e, fill2 (by have := deg_le hp; omega), fill2 (by have := deg_le hq; omega), sq20]
  unfold hsum
  rw [List.map_singleton, rsum_one]
  show 1 * (p.2 * q.2) * momP s (met _ _ [] []) = _
  rw [momP_met ht]
  show 1 * (p.2 * q.2) * (momAt s _ * (momAt s _ * (momAt s _ * (momAt s _ * 1)))) = p.2 * q.2 * (momAt s _ * momAt s _ * (momAt s _ * momAt s _))
  grind
include ht hw in
theorem sh21 (h : deg w = 2) : wishVal s (sharedW w 1) = Ex s fun r => T2 s w r * T2 s w r := by
  rw [sharedVal, h, ← sh_one]
  refine rsum_congr fun p hp => rsum_congr fun q hq => ?_
  have e : shPair 2 1 p q = [(met (fillF p.1 2) (fillF q.1 2) [0] [0], shareQ 2 1 * (p.2 * q.2)), (met (fillF p.1 2) (fillF q.1 2) [0] [1], shareQ 2 1 * (p.2 * q.2)), (met (fillF p.1 2) (fillF q.1 2) [1] [0], shareQ 2 1 * (p.2 * q.2)), (met (fillF p.1 2) (fillF q.1 2) [1] [1], shareQ 2 1 * (p.2 * q.2))] := rfl
  rw [e, fill2 (by have := deg_le hp; omega), fill2 (by have := deg_le hq; omega), sq21]
  unfold hsum
  simp only [List.map_cons, List.map_nil, rsum_cons, rsum_nil, momP_met ht]
  simp only [metA, metB, metC, metD, momP_c, momP_n]
  rw [mom_pair s (len_get hw hp 0) (len_get hw hq 0), mom_pair s (len_get hw hp 0) (len_get hw hq 1), mom_pair s (len_get hw hp 1) (len_get hw hq 0), mom_pair s (len_get hw hp 1) (len_get hw hq 1)]
  simp only [ex_ra]
  grind
include ht hw in
theorem sh22 (h : deg w = 2) : wishVal s (sharedW w 2) = Ex s fun r => Ex s fun q => S2 w r q * S2 w r q := by
  rw [sharedVal, h, ← sh_two]
  refine rsum_congr fun p hp => rsum_congr fun q hq => ?_
  have e : shPair 2 2 p q = [(met (fillF p.1 2) (fillF q.1 2) [0, 1] [0, 1], shareQ 2 2 * (p.2 * q.2)), (met (fillF p.1 2) (fillF q.1 2) [0, 1] [1, 0], shareQ 2 2 * (p.2 * q.2))] := rfl
  rw [e, fill2 (by have := deg_le hp; omega), fill2 (by have := deg_le hq; omega), sq22]
  unfold hsum
  simp only [List.map_cons, List.map_nil, rsum_cons, rsum_nil, momP_met ht]
  simp only [metE, metF, momP_c, momP_n]
  rw [mom_pair s (len_get hw hp 0) (len_get hw hq 0), mom_pair s (len_get hw hp 0) (len_get hw hq 1), mom_pair s (len_get hw hp 1) (len_get hw hq 0), mom_pair s (len_get hw hp 1) (len_get hw hq 1)]
  grind
include ht in
theorem sh10 (h : deg w = 1) : wishVal s (sharedW w 0) = Z1 s w * Z1 s w := by
  rw [sharedVal, h, ← sg_zero]
  refine rsum_congr fun p hp => rsum_congr fun q hq => ?_
  have e : shPair 1 0 p q = [(met (fillF p.1 1) (fillF q.1 1) [] [], shareQ 1 0 * (p.2 * q.2))] := rfl
  rw [e, fill1 (by have := deg_le hp; omega), fill1 (by have := deg_le hq; omega), sq10]
  unfold hsum
  rw [List.map_singleton, rsum_one]
  show 1 * (p.2 * q.2) * momP s (met _ _ [] []) = _
  rw [momP_met ht]
  show 1 * (p.2 * q.2) * (momAt s _ * (momAt s _ * 1)) = p.2 * q.2 * (momAt s _ * momAt s _)
  grind
include ht hw in
theorem sh11 (h : deg w = 1) : wishVal s (sharedW w 1) = Ex s fun r => S1 w r * S1 w r := by
  rw [sharedVal, h, ← sg_one]
  refine rsum_congr fun p hp => rsum_congr fun q hq => ?_
  have e : shPair 1 1 p q = [(met (fillF p.1 1) (fillF q.1 1) [0] [0], shareQ 1 1 * (p.2 * q.2))] := rfl
  rw [e, fill1 (by have := deg_le hp; omega), fill1 (by have := deg_le hq; omega), sq11]
  unfold hsum
  rw [List.map_singleton, rsum_one]
  show 1 * (p.2 * q.2) * momP s (met _ _ [0] [0]) = _
  rw [momP_met ht]
  rw [metG, momP_c, momP_n]
  rw [mom_pair s (len_get hw hp 0) (len_get hw hq 0)]
  grind
theorem sh00 (h : deg w = 0) : wishVal s (sharedW w 0) = Z0 w * Z0 w := by
  rw [sharedVal, h, ← sf_zero]
  refine rsum_congr fun p hp => rsum_congr fun q hq => ?_
  have e : shPair 0 0 p q = [(met (fillF p.1 0) (fillF q.1 0) [] [], shareQ 0 0 * (p.2 * q.2))] := rfl
  rw [e, fill0 (by have := deg_le hp; omega), fill0 (by have := deg_le hq; omega), sq00]
  unfold hsum
  rw [List.map_singleton, rsum_one]
  show 1 * (p.2 * q.2) * momP s (met [] [] [] []) = _
  have e2 : met [] [] [] [] = [] := by
    unfold met
    exact List.eq_nil_of_length_eq_zero (by rw [(perm_sortM _).length_eq]; rfl)
  rw [e2]
  show 1 * (p.2 * q.2) * 1 = _
  grind
/-! ### the wish itself -/
include ht in
theorem val2 (h : deg w = 2) : wishVal s w = Z2 s w := by
  rw [wishVal_eq]
  refine rsum_congr fun p hp => ?_
  rw [momP2 ht (by have := deg_le hp; omega)]
  rfl
include ht in
theorem val1 (h : deg w = 1) : wishVal s w = Z1 s w := by
  rw [wishVal_eq]
  refine rsum_congr fun p hp => ?_
  rw [momP1 ht (by have := deg_le hp; omega)]
  rfl
theorem val0 (h : deg w = 0) : wishVal s w = Z0 w := by
  rw [wishVal_eq]
  refine rsum_congr fun p hp => ?_
  rw [momP0 s (by have := deg_le hp; omega), Rat.mul_one]
end
/-! ### best programs -/
theorem lane_mul (rows : List Row) : ∀ (qs : List (Nat × Mom)) (x : Rat), qs.foldl (lstep rows) x = x * qs.foldl (lstep rows) 1
  | [], x => by simp [Rat.mul_one]
  | q :: qs, x => by
    rw [List.foldl_cons, List.foldl_cons, lane_mul rows qs (lstep rows x q), lane_mul rows qs (lstep rows 1 q)]
    unfold lstep
    grind
theorem dv1 : Rat.divInt 1 ((1 : Nat) : Int) = 1 := by decide +kernel
theorem dv2 : Rat.divInt 1 ((2 : Nat) : Int) = 1 / 2 := by decide +kernel
theorem dv3 : Rat.divInt 1 ((3 : Nat) : Int) = 1 / 3 := by decide +kernel
theorem dv6 : Rat.divInt 1 ((6 : Nat) : Int) = 1 / 6 := by decide +kernel
theorem lane0 (rows : List Row) (x : Rat) : laneV rows [] x [] = x := rfl
theorem lane1 (rows : List Row) (x : Rat) (m : Mom) (i : Nat) : laneV rows [m] x [i] = x * rowM (rows.getD i []) m := rfl
theorem lane2 (rows : List Row) (x : Rat) (m n : Mom) (i j : Nat) : laneV rows [m, n] x [i, j] = x * rowM (rows.getD i []) m * rowM (rows.getD j []) n := rfl
theorem best_map (w : Wish) (rows : List Row) {g : Fac × Rat → Rat} (h : ∀ p ∈ w, rsum (bestIn rows p) = g p) : bestV w rows = rsum (w.map g) := by
  unfold bestV
  rw [rsum_flat]
  exact rsum_congr h
theorem in20 (r q : Row) (x : Rat) : rsum (bestIn [r, q] ([], x)) = x := by
  have e : bestIn [r, q] ([], x) = [x * Rat.divInt 1 ((1 : Nat) : Int)] := rfl
  rw [e, rsum_one, dv1, Rat.mul_one]
theorem in21 (r q : Row) (m : Mom) (x : Rat) : rsum (bestIn [r, q] ([m], x)) = x * (1 / 2) * (rowM r m + rowM q m) := by
  have e : bestIn [r, q] ([m], x) = [x * Rat.divInt 1 ((2 : Nat) : Int) * rowM r m, x * Rat.divInt 1 ((2 : Nat) : Int) * rowM q m] := rfl
  rw [e, rsum_cons, rsum_one, dv2]
  grind
theorem in22 (r q : Row) (m n : Mom) (x : Rat) : rsum (bestIn [r, q] ([m, n], x)) = x * (1 / 2) * (rowM r m * rowM q n + rowM q m * rowM r n) := by
  have e : bestIn [r, q] ([m, n], x) = [x * Rat.divInt 1 ((2 : Nat) : Int) * rowM r m * rowM q n, x * Rat.divInt 1 ((2 : Nat) : Int) * rowM q m * rowM r n] := rfl
  rw [e, rsum_cons, rsum_one, dv2]
  grind
theorem in30 (a b c : Row) (x : Rat) : rsum (bestIn [a, b, c] ([], x)) = x := by
  have e : bestIn [a, b, c] ([], x) = [x * Rat.divInt 1 ((1 : Nat) : Int)] := rfl
  rw [e, rsum_one, dv1, Rat.mul_one]
theorem in31 (a b c : Row) (m : Mom) (x : Rat) : rsum (bestIn [a, b, c] ([m], x)) = x * (1 / 3) * (rowM a m + rowM b m + rowM c m) := by
  have e : bestIn [a, b, c] ([m], x) = [x * Rat.divInt 1 ((3 : Nat) : Int) * rowM a m, x * Rat.divInt 1 ((3 : Nat) : Int) * rowM b m, x * Rat.divInt 1 ((3 : Nat) : Int) * rowM c m] := rfl
  rw [e, rsum_cons, rsum_cons, rsum_one, dv3]
  grind
theorem in32 (a b c : Row) (m n : Mom) (x : Rat) : rsum (bestIn [a, b, c] ([m, n], x)) = x * (1 / 6) * (rowM a m * rowM b n + rowM a m * rowM c n + rowM b m * rowM a n + rowM b m * rowM c n + rowM c m * rowM a n + rowM c m * rowM b n) := by
  have e : bestIn [a, b, c] ([m, n], x) = [x * Rat.divInt 1 ((6 : Nat) : Int) * rowM a m * rowM b n, x * Rat.divInt 1 ((6 : Nat) : Int) * rowM a m * rowM c n, x * Rat.divInt 1 ((6 : Nat) : Int) * rowM b m * rowM a n, x * Rat.divInt 1 ((6 : Nat) : Int) * rowM b m * rowM c n, x * Rat.divInt 1 ((6 : Nat) : Int) * rowM c m * rowM a n, x * Rat.divInt 1 ((6 : Nat) : Int) * rowM c m * rowM b n] := rfl
  rw [e, rsum_cons, rsum_cons, rsum_cons, rsum_cons, rsum_cons, rsum_one, dv6]
  grind
theorem in10 (r : Row) (x : Rat) : rsum (bestIn [r] ([], x)) = x := by
  have e : bestIn [r] ([], x) = [x * Rat.divInt 1 ((1 : Nat) : Int)] := rfl
  rw [e, rsum_one, dv1, Rat.mul_one]
theorem in11 (r : Row) (m : Mom) (x : Rat) : rsum (bestIn [r] ([m], x)) = x * rowM r m := by
  have e : bestIn [r] ([m], x) = [x * Rat.divInt 1 ((1 : Nat) : Int) * rowM r m] := rfl
  rw [e, rsum_one, dv1, Rat.mul_one]
theorem in00 (x : Rat) : rsum (bestIn [] ([], x)) = x := by
  have e : bestIn [] ([], x) = [x * Rat.divInt 1 ((1 : Nat) : Int)] := rfl
  rw [e, rsum_one, dv1, Rat.mul_one]
theorem best2 {w : Wish} (h : deg w = 2) (r q : Row) : bestV w [r, q] = S2 w r q := by
  refine best_map w _ fun p hp => ?_
  obtain ⟨f, x⟩ := p
  have hl := deg_le hp
  rw [h] at hl
  show _ = x * (1 / 2) * (rowM r (f.getD 0 []) * rowM q (f.getD 1 []) + rowM r (f.getD 1 []) * rowM q (f.getD 0 []))
  match f, hl with
  | [], _ =>
    rw [in20]
    show x = x * (1 / 2) * (rowM r [] * rowM q [] + rowM r [] * rowM q [])
    rw [rowM_nil', rowM_nil']
    grind
  | [m], _ =>
    rw [in21]
    show _ = x * (1 / 2) * (rowM r m * rowM q [] + rowM r [] * rowM q m)
    rw [rowM_nil', rowM_nil']
    grind
  | [m, n], _ =>
    rw [in22]
    show _ = x * (1 / 2) * (rowM r m * rowM q n + rowM r n * rowM q m)
    grind
theorem best3 {w : Wish} (h : deg w = 2) (a b c : Row) : bestV w [a, b, c] = (S2 w a b + S2 w a c + S2 w b c) * (1 / 3) := by
  show _ = (rsum _ + rsum _ + rsum _) * (1 / 3)
  rw [← rsum_add, ← rsum_add, ← rsum_mul_r]
  refine best_map w _ fun p hp => ?_
  obtain ⟨f, x⟩ := p
  have hl := deg_le hp
  rw [h] at hl
  show _ = (x * (1 / 2) * (rowM a (f.getD 0 []) * rowM b (f.getD 1 []) + rowM a (f.getD 1 []) * rowM b (f.getD 0 [])) + x * (1 / 2) * (rowM a (f.getD 0 []) * rowM c (f.getD 1 []) + rowM a (f.getD 1 []) * rowM c (f.getD 0 [])) + x * (1 / 2) * (rowM b (f.getD 0 []) * rowM c (f.getD 1 []) + rowM b (f.getD 1 []) * rowM c (f.getD 0 []))) * (1 / 3)
  match f, hl with
  | [], _ =>
    rw [in30]
    show x = (x * (1 / 2) * (rowM a [] * rowM b [] + rowM a [] * rowM b []) + x * (1 / 2) * (rowM a [] * rowM c [] + rowM a [] * rowM c []) + x * (1 / 2) * (rowM b [] * rowM c [] + rowM b [] * rowM c [])) * (1 / 3)
    rw [rowM_nil', rowM_nil', rowM_nil']
    grind
  | [m], _ =>
    rw [in31]
    show _ = (x * (1 / 2) * (rowM a m * rowM b [] + rowM a [] * rowM b m) + x * (1 / 2) * (rowM a m * rowM c [] + rowM a [] * rowM c m) + x * (1 / 2) * (rowM b m * rowM c [] + rowM b [] * rowM c m)) * (1 / 3)
    rw [rowM_nil', rowM_nil', rowM_nil']
    grind
  | [m, n], _ =>
    rw [in32]
    show _ = (x * (1 / 2) * (rowM a m * rowM b n + rowM a n * rowM b m) + x * (1 / 2) * (rowM a m * rowM c n + rowM a n * rowM c m) + x * (1 / 2) * (rowM b m * rowM c n + rowM b n * rowM c m)) * (1 / 3)
    grind
theorem best11 {w : Wish} (h : deg w = 1) (r : Row) : bestV w [r] = S1 w r := by
  refine best_map w _ fun p hp => ?_
  obtain ⟨f, x⟩ := p
  have hl := deg_le hp
  rw [h] at hl
  match f, hl with
  | [], _ =>
    rw [in10]
    show x = x * rowM r []
    rw [rowM_nil', Rat.mul_one]
  | [m], _ => exact in11 r m x
theorem best12 {w : Wish} (h : deg w = 1) (r q : Row) : bestV w [r, q] = (S1 w r + S1 w q) * (1 / 2) := by
  show _ = (rsum _ + rsum _) * (1 / 2)
  rw [← rsum_add, ← rsum_mul_r]
  refine best_map w _ fun p hp => ?_
  obtain ⟨f, x⟩ := p
  have hl := deg_le hp
  rw [h] at hl
  show _ = (x * rowM r (f.getD 0 []) + x * rowM q (f.getD 0 [])) * (1 / 2)
  match f, hl with
  | [], _ =>
    rw [in20]
    show x = (x * rowM r [] + x * rowM q []) * (1 / 2)
    rw [rowM_nil', rowM_nil']
    grind
  | [m], _ =>
    rw [in21]
    show _ = (x * rowM r m + x * rowM q m) * (1 / 2)
    grind
theorem best00 {w : Wish} (h : deg w = 0) : bestV w [] = Z0 w := by
  refine best_map w _ fun p hp => ?_
  obtain ⟨f, x⟩ := p
  have hl := deg_le hp
  rw [h] at hl
  match f, hl with
  | [], _ => exact in00 x
theorem best01 {w : Wish} (h : deg w = 0) (r : Row) : bestV w [r] = Z0 w := by
  refine best_map w _ fun p hp => ?_
  obtain ⟨f, x⟩ := p
  have hl := deg_le hp
  rw [h] at hl
  match f, hl with
  | [], _ => exact in10 r x
end DW

/-! Pr23: layers, parts, spreads: what the law asks holds. -/
namespace DW
open PySem PySem.Spec PyProof.Rows L2 DM
/-! ### layers -/
theorem layT_val (s : Src) (w : Wish) (k : Nat) (t : Wish) (j : Nat) : wishVal s (layT w k t j) = wishVal s t + wishVal s (sharedW w j) * layC k j := by
  unfold layT
  rw [wishVal_gath, wishVal_app, wishVal_gath, wishVal_scale]
theorem c10 : layC 1 0 = -1 := by decide +kernel
theorem c11 : layC 1 1 = 1 := by decide +kernel
theorem c20 : layC 2 0 = 1 := by decide +kernel
theorem c21 : layC 2 1 = -2 := by decide +kernel
theorem c22 : layC 2 2 = 1 := by decide +kernel
theorem lay1_val (s : Src) (w : Wish) : wishVal s (layW w 1) = wishVal s (sharedW w 1) - wishVal s (sharedW w 0) := by
  have e : layW w 1 = layT w 1 (layT w 1 [] 0) 1 := rfl
  have z : wishVal s [] = 0 := rfl
  rw [e, layT_val, layT_val, z, c10, c11]
  grind
theorem lay2_val (s : Src) (w : Wish) : wishVal s (layW w 2) = wishVal s (sharedW w 2) - 2 * wishVal s (sharedW w 1) + wishVal s (sharedW w 0) := by
  have e : layW w 2 = layT w 2 (layT w 2 (layT w 2 [] 0) 1) 2 := rfl
  have z : wishVal s [] = 0 := rfl
  rw [e, layT_val, layT_val, layT_val, z, c20, c21, c22]
  grind
/-! ### told means, parts -/
theorem told_ed (w : Wish) (s : Src) (rows : List Row) : toldV w s rows = ED s (deg w - rows.length) fun o => bestV w (rows ++ o) := rfl
theorem sg10 : ((sgL 1 0 : Int) : Rat) = -1 := by decide +kernel
theorem sg11 : ((sgL 1 1 : Int) : Rat) = 1 := by decide +kernel
theorem sg00 : ((sgL 0 0 : Int) : Rat) = 1 := by decide +kernel
theorem sg20 : ((sgL 2 0 : Int) : Rat) = 1 := by decide +kernel
theorem sg21 : ((sgL 2 1 : Int) : Rat) = -1 := by decide +kernel
theorem sg22 : ((sgL 2 2 : Int) : Rat) = 1 := by decide +kernel
theorem part0 (w : Wish) (s : Src) : partV w s [] = toldV w s [] := by
  show rsum [((sgL 0 0 : Int) : Rat) * toldV w s []] = _
  rw [rsum_one, sg00, Rat.one_mul]
theorem part1 (w : Wish) (s : Src) (r : Row) : partV w s [r] = toldV w s [r] - toldV w s [] := by
  show rsum [((sgL 1 0 : Int) : Rat) * toldV w s [], ((sgL 1 1 : Int) : Rat) * toldV w s [r]] = _
  rw [rsum_cons, rsum_one, sg10, sg11]
  grind
theorem part2 (w : Wish) (s : Src) (r q : Row) : partV w s [r, q] = toldV w s [r, q] - toldV w s [r] - toldV w s [q] + toldV w s [] := by
  show rsum [((sgL 2 0 : Int) : Rat) * toldV w s [], ((sgL 2 1 : Int) : Rat) * toldV w s [r], ((sgL 2 1 : Int) : Rat) * toldV w s [q], ((sgL 2 2 : Int) : Rat) * toldV w s [r, q]] = _
  rw [rsum_cons, rsum_cons, rsum_cons, rsum_one, sg20, sg21, sg22]
  grind
section
variable {s : Src} {w : Wish} (h2 : deg w = 2) (h1 : deg w = 1) (h0 : deg w = 0)
include h2 in
theorem told22 (r q : Row) : toldV w s [r, q] = S2 w r q := by
  rw [told_ed, h2]
  show ED s 0 _ = _
  rw [ED_zero]
  exact best2 h2 r q
include h2 in
theorem told21 (r : Row) : toldV w s [r] = T2 s w r := by
  rw [told_ed, h2]
  show ED s 1 _ = _
  rw [ED_one]
  show (Ex s fun q => bestV w [r, q]) = _
  rw [Ex_congr (g := S2 w r) fun q => best2 h2 r q]
  exact K2_one s w xw (ra 0) (ra 1) r
include h2 in
theorem told20 : toldV w s [] = Z2 s w := by
  rw [told_ed, h2]
  show ED s 2 _ = _
  rw [ED_two]
  show (Ex s fun r => Ex s fun q => bestV w [r, q]) = _
  rw [Ex_congr (g := fun r => Ex s (S2 w r)) fun r => Ex_congr fun q => best2 h2 r q]
  exact K2_two s w xw (ra 0) (ra 1)
include h1 in
theorem told11 (r : Row) : toldV w s [r] = S1 w r := by
  rw [told_ed, h1]
  show ED s 0 _ = _
  rw [ED_zero]
  exact best11 h1 r
include h1 in
theorem told10 : toldV w s [] = Z1 s w := by
  rw [told_ed, h1]
  show ED s 1 _ = _
  rw [ED_one]
  show (Ex s fun q => bestV w [q]) = _
  rw [Ex_congr (g := S1 w) fun q => best11 h1 q]
  exact J1_one s w xw (ra 0)
include h0 in
theorem told00 : toldV w s [] = Z0 w := by
  rw [told_ed, h0]
  show ED s 0 _ = _
  rw [ED_zero]
  exact best00 h0
end
def sqV (w : Wish) (s : Src) (k : Nat) : Rat := ED s k fun rows => partV w s rows * partV w s rows
theorem both_ed (w : Wish) (s : Src) (k : Nat) : bothV w s k = ED s (2 * deg w - k) fun rows => bestV w (rows.take (deg w)) * bestV w (rows.drop (deg w - k)) := rfl
theorem spread_ed (w : Wish) (s : Src) (n : Nat) : spreadV w s n = ED s n fun rows => gapV w s rows * gapV w s rows := rfl
theorem K1_sym {w : Wish} (r q : Row) : S2 w r q = S2 w q r := K2_sym w xw (ra 0) (ra 1) r q
theorem T2_ex (s : Src) (w : Wish) (r : Row) : T2 s w r = Ex s (S2 w r) := (K2_one s w xw (ra 0) (ra 1) r).symm
theorem Z2_ex (s : Src) (w : Wish) : Ex s (fun r => Ex s (S2 w r)) = Z2 s w := K2_two s w xw (ra 0) (ra 1)
theorem TT_ex (s : Src) (w : Wish) : Ex s (fun r => T2 s w r * T2 s w r) = Ex s fun r => Ex s (S2 w r) * Ex s (S2 w r) := Ex_congr fun r => by rw [T2_ex]
section
variable {c : Nat} {s : Src} {w : Wish} (ht : Tot1 s) (hw : ∀ p ∈ w, ∀ m ∈ p.1, m.length = c)
include ht hw in
theorem lay_22 (h : deg w = 2) : wishVal s (layW w 2) = sqV w s 2 := by
  rw [lay2_val, sh22 ht hw h, sh21 ht hw h, sh20 ht h, TT_ex]
  unfold sqV
  rw [ED_two]
  have e : ∀ r q, partV w s [r, q] * partV w s [r, q] = (S2 w r q - Ex s (S2 w r) - Ex s (S2 w q) + Z2 s w) * (S2 w r q - Ex s (S2 w r) - Ex s (S2 w q) + Z2 s w) := fun r q => by
    rw [part2, told22 h, told21 h, told21 h, told20 h, T2_ex, T2_ex]
  rw [Ex_congr fun r => Ex_congr (e r), two_v2 ht K1_sym (Z2_ex s w)]
include ht hw in
theorem lay_21 (h : deg w = 2) : wishVal s (layW w 1) = sqV w s 1 := by
  rw [lay1_val, sh21 ht hw h, sh20 ht h]
  unfold sqV
  rw [ED_one]
  have hz : Ex s (T2 s w) = Z2 s w := K1_one s w xw (ra 0) (ra 1)
  have e : ∀ r, partV w s [r] * partV w s [r] = (T2 s w r - Ex s (T2 s w)) * (T2 s w r - Ex s (T2 s w)) := fun r => by
    rw [part1, told21 h, told20 h, hz]
  rw [Ex_congr e, one_var ht, hz]
include ht hw in
theorem lay_11 (h : deg w = 1) : wishVal s (layW w 1) = sqV w s 1 := by
  rw [lay1_val, sh11 ht hw h, sh10 ht h]
  unfold sqV
  rw [ED_one]
  have hz : Ex s (S1 w) = Z1 s w := J1_one s w xw (ra 0)
  have e : ∀ r, partV w s [r] * partV w s [r] = (S1 w r - Ex s (S1 w)) * (S1 w r - Ex s (S1 w)) := fun r => by
    rw [part1, told11 h, told10 h, hz]
  rw [Ex_congr e, one_var ht, hz]
/-- the value of each layer is the mean of the square of its part -/
theorem law_layers (hW : W1 c w) (ht : Tot1 s) {k : Nat} (h1 : 1 ≤ k) (hk : k ≤ deg w) : wishVal s (layW w k) = sqV w s k := by
  have hd := hW.ok.deg
  have hw := hW.row
  have : (deg w = 2 ∧ k = 2) ∨ (deg w = 2 ∧ k = 1) ∨ (deg w = 1 ∧ k = 1) := by omega
  rcases this with ⟨h, rfl⟩ | ⟨h, rfl⟩ | ⟨h, rfl⟩
  · exact lay_22 ht hw h
  · exact lay_21 ht hw h
  · exact lay_11 ht hw h
/-- shared means by drawings of two lots -/
theorem law_shared (hW : W1 c w) (ht : Tot1 s) {k : Nat} (hk : k ≤ deg w) : wishVal s (sharedW w k) = bothV w s k := by
  have hd := hW.ok.deg
  have hw := hW.row
  rw [both_ed]
  have : (deg w = 2 ∧ k = 2) ∨ (deg w = 2 ∧ k = 1) ∨ (deg w = 2 ∧ k = 0) ∨ (deg w = 1 ∧ k = 1) ∨ (deg w = 1 ∧ k = 0) ∨ (deg w = 0 ∧ k = 0) := by omega
  rcases this with ⟨h, rfl⟩ | ⟨h, rfl⟩ | ⟨h, rfl⟩ | ⟨h, rfl⟩ | ⟨h, rfl⟩ | ⟨h, rfl⟩
  · rw [sh22 ht hw h, h]
    show _ = ED s 2 fun rows => bestV w (rows.take 2) * bestV w (rows.drop 0)
    rw [ED_two]
    exact Ex_congr fun r => Ex_congr fun q => by
      show _ = bestV w [r, q] * bestV w [r, q]
      rw [best2 h]
  · rw [sh21 ht hw h, h, TT_ex, ← two_b1 K1_sym]
    show _ = ED s 3 fun rows => bestV w (rows.take 2) * bestV w (rows.drop 1)
    rw [ED_three]
    exact Ex_congr fun a => Ex_congr fun b => Ex_congr fun d => by
      show _ = bestV w [a, b] * bestV w [b, d]
      rw [best2 h, best2 h]
  · rw [sh20 ht h, h, ← Z2_ex, ← two_b0]
    show _ = ED s 4 fun rows => bestV w (rows.take 2) * bestV w (rows.drop 2)
    rw [ED_four]
    exact Ex_congr fun a => Ex_congr fun b => Ex_congr fun d => Ex_congr fun e => by
      show _ = bestV w [a, b] * bestV w [d, e]
      rw [best2 h, best2 h]
  · rw [sh11 ht hw h, h]
    show _ = ED s 1 fun rows => bestV w (rows.take 1) * bestV w (rows.drop 0)
    rw [ED_one]
    exact Ex_congr fun r => by
      show _ = bestV w [r] * bestV w [r]
      rw [best11 h]
  · have hz : Ex s (S1 w) = Z1 s w := J1_one s w xw (ra 0)
    rw [sh10 ht h, h, ← hz, ← one_both ht]
    show _ = ED s 2 fun rows => bestV w (rows.take 1) * bestV w (rows.drop 1)
    rw [ED_two]
    exact Ex_congr fun r => Ex_congr fun q => by
      show _ = bestV w [r] * bestV w [q]
      rw [best11 h, best11 h]
  · rw [sh00 h, h]
    show _ = ED s 0 fun rows => bestV w (rows.take 0) * bestV w (rows.drop 0)
    rw [ED_zero]
    show _ = bestV w [] * bestV w []
    rw [best00 h]
end
/-! ### spreads -/
theorem bestT_val (s : Src) (w : Wish) (n : Nat) (t : Wish) (i : Nat) : wishVal s (bestT w n t i) = wishVal s t + wishVal s (layW w (i + 1)) * shareN (deg w) n (i + 1) := by
  unfold bestT
  rw [wishVal_gath, wishVal_app, wishVal_gath, wishVal_scale]
theorem best_val (s : Src) (w : Wish) (n : Nat) : wishVal s (bestS w n) = spV (deg w) n (layVals w s) := by
  have go : ∀ j, wishVal s ((List.range j).foldl (bestT w n) []) = rsum ((List.range j).map fun i => shareN (deg w) n (i + 1) * wishVal s (layW w (i + 1))) := fun j => by
    induction j with
    | zero => rfl
    | succ j ih =>
      rw [List.range_succ, List.foldl_append, List.map_append, rsum_append]
      show wishVal s (bestT w n _ j) = _ + rsum [_]
      rw [bestT_val, ih, rsum_one]
      grind
  unfold bestS spV spList sharesL layVals
  rw [go, List.zip_map', List.map_map]
  rfl
theorem n221 : shareN 2 2 1 = 2 := by decide +kernel
theorem n222 : shareN 2 2 2 = 1 := by decide +kernel
theorem n231 : shareN 2 3 1 = 4 / 3 := by decide +kernel
theorem n232 : shareN 2 3 2 = 1 / 3 := by decide +kernel
theorem n111 : shareN 1 1 1 = 1 := by decide +kernel
theorem n121 : shareN 1 2 1 = 1 / 2 := by decide +kernel
theorem spV2 (n : Nat) (a b : Rat) : spV 2 n [a, b] = shareN 2 n 1 * a + shareN 2 n 2 * b := by
  show rsum [shareN 2 n 1 * a, shareN 2 n 2 * b] = _
  rw [rsum_cons, rsum_one]
theorem spV1 (n : Nat) (a : Rat) : spV 1 n [a] = shareN 1 n 1 * a := by
  show rsum [shareN 1 n 1 * a] = _
  rw [rsum_one]
theorem spV0 (n : Nat) : spV 0 n [] = 0 := rfl
theorem lays2 {w : Wish} (s : Src) (h : deg w = 2) : layVals w s = [wishVal s (layW w 1), wishVal s (layW w 2)] := by
  unfold layVals
  rw [h]
  rfl
theorem lays1 {w : Wish} (s : Src) (h : deg w = 1) : layVals w s = [wishVal s (layW w 1)] := by
  unfold layVals
  rw [h]
  rfl
theorem lays0 {w : Wish} (s : Src) (h : deg w = 0) : layVals w s = [] := by
  unfold layVals
  rw [h]
  rfl
/-- the spread of the best program, by shares and layers -/
theorem law_spread {c n : Nat} {s : Src} {w : Wish} (hW : W1 c w) (ht : Tot1 s) (h1 : deg w ≤ n) (h2 : n ≤ deg w + 1) : spreadV w s n = spV (deg w) n (layVals w s) := by
  have hd := hW.ok.deg
  have hw := hW.row
  rw [spread_ed]
  have : (deg w = 2 ∧ n = 2) ∨ (deg w = 2 ∧ n = 3) ∨ (deg w = 1 ∧ n = 1) ∨ (deg w = 1 ∧ n = 2) ∨ (deg w = 0 ∧ n = 0) ∨ (deg w = 0 ∧ n = 1) := by omega
  rcases this with ⟨h, rfl⟩ | ⟨h, rfl⟩ | ⟨h, rfl⟩ | ⟨h, rfl⟩ | ⟨h, rfl⟩ | ⟨h, rfl⟩
  · rw [lays2 s h, h, spV2, n221, n222, lay1_val, lay2_val, sh22 ht hw h, sh21 ht hw h, sh20 ht h, ED_two]
    have e : ∀ r q, gapV w s [r, q] * gapV w s [r, q] = (S2 w r q - Z2 s w) * (S2 w r q - Z2 s w) := fun r q => by
      unfold gapV
      rw [best2 h, val2 ht h]
      grind
    rw [Ex_congr fun r => Ex_congr (e r), two_sp2 ht (Z2_ex s w)]
    grind
  · rw [lays2 s h, h, spV2, n231, n232, lay1_val, lay2_val, sh22 ht hw h, sh21 ht hw h, sh20 ht h, ED_three, TT_ex]
    have e : ∀ a b d, gapV w s [a, b, d] * gapV w s [a, b, d] = ((S2 w a b + S2 w a d + S2 w b d) * (1 / 3) - Z2 s w) * ((S2 w a b + S2 w a d + S2 w b d) * (1 / 3) - Z2 s w) := fun a b d => by
      unfold gapV
      rw [best3 h, val2 ht h]
      grind
    rw [Ex_congr fun a => Ex_congr fun b => Ex_congr (e a b), two_sp3 ht K1_sym (Z2_ex s w)]
    grind
  · rw [lays1 s h, h, spV1, n111, lay1_val, sh11 ht hw h, sh10 ht h, ED_one]
    have hz : Ex s (S1 w) = Z1 s w := J1_one s w xw (ra 0)
    have e : ∀ r, gapV w s [r] * gapV w s [r] = (S1 w r - Ex s (S1 w)) * (S1 w r - Ex s (S1 w)) := fun r => by
      unfold gapV
      rw [best11 h, val1 ht h, hz]
      grind
    rw [Ex_congr e, one_var ht, hz]
    grind
  · rw [lays1 s h, h, spV1, n121, lay1_val, sh11 ht hw h, sh10 ht h, ED_two]
    have hz : Ex s (S1 w) = Z1 s w := J1_one s w xw (ra 0)
    have e : ∀ r q, gapV w s [r, q] * gapV w s [r, q] = ((S1 w r + S1 w q) * (1 / 2) - Ex s (S1 w)) * ((S1 w r + S1 w q) * (1 / 2) - Ex s (S1 w)) := fun r q => by
      unfold gapV
      rw [best12 h, val1 ht h, hz]
      grind
    rw [Ex_congr fun r => Ex_congr (e r), one_two ht, hz]
    grind
  · rw [lays0 s h, h, spV0, ED_zero]
    unfold gapV
    rw [best00 h, val0 h]
    grind
  · rw [lays0 s h, h, spV0, ED_one]
    have e : ∀ r, gapV w s [r] * gapV w s [r] = 0 := fun r => by
      unfold gapV
      rw [best01 h, val0 h]
      grind
    rw [Ex_congr e, Ex_const ht]
/-! ### the form of a part -/
theorem blank_rep (s : Src) : ∃ k, blankM s = List.replicate k 0 := by
  cases s with
  | nil => exact ⟨0, rfl⟩
  | cons p s => exact ⟨p.1.length, rfl⟩
theorem ymul_out {s : Src} (ht : Tot1 s) {im : List Nat} {i : Nat} (h : i ∉ im) (y : Rat) (m : Mom) : ymul s im y (m, i) = y * momAt s m := by
  unfold ymul
  rw [decide_eq_false h]
  cases m with
  | nil =>
    show y = _
    rw [momAt_nil ht, Rat.mul_one]
  | cons a b => rfl
theorem ymul_in (s : Src) {im : List Nat} {i : Nat} (h : i ∈ im) (y : Rat) (m : Mom) : ymul s im y (m, i) = y := by
  unfold ymul
  rw [decide_eq_true h]
  rfl
theorem yOf2 (s : Src) (im : List Nat) (a b : Mom) (x : Rat) : yOf s [a, b] im x = ymul s im (ymul s im x (a, 0)) (b, 1) := rfl
theorem yOf1 (s : Src) (im : List Nat) (a : Mom) (x : Rat) : yOf s [a] im x = ymul s im x (a, 0) := rfl
def lotV (w : Wish) (s : Src) (k : Nat) (rows : List Row) (lot : List Nat) : Rat := hsum (fun f => rowsP f rows) (toldM w s lot k (deg w) (blankM s))
theorem partL_val (w : Wish) (s : Src) (k many : Nat) (lot : List Nat) (rows : List Row) : hsum (fun f => rowsP f rows) (partL w s k many lot) = sgnQ k many * lotV w s k rows lot := by
  unfold lotV partL hsum
  rw [List.map_map, ← rsum_mul]
  exact rsum_congr fun p _ => by
    show sgnQ k many * p.2 * rowsP p.1 rows = _
    rw [Rat.mul_assoc]
theorem partF_val (w : Wish) (s : Src) (k : Nat) (rows : List Row) : formV (partF w s k) rows = rsum ((List.range (k + 1)).map fun m => rsum ((combT k m).map fun lot => sgnQ k m * lotV w s k rows lot)) := by
  unfold partF
  rw [formV_gath, formV_eq]
  unfold partP
  rw [hsum_flat]
  refine rsum_congr fun m _ => ?_
  unfold partN
  rw [hsum_flat]
  exact rsum_congr fun lot _ => partL_val w s k m lot rows
theorem q00 : sgnQ 0 0 = 1 := rfl
theorem q10 : sgnQ 1 0 = -1 := rfl
theorem q11 : sgnQ 1 1 = 1 := rfl
theorem q20 : sgnQ 2 0 = 1 := rfl
theorem q21 : sgnQ 2 1 = -1 := rfl
theorem q22 : sgnQ 2 2 = 1 := rfl
theorem part_f0 (w : Wish) (s : Src) : formV (partF w s 0) [] = lotV w s 0 [] [] := by
  rw [partF_val]
  show rsum [rsum [sgnQ 0 0 * lotV w s 0 [] []]] = _
  rw [rsum_one, rsum_one, q00, Rat.one_mul]
theorem part_f1 (w : Wish) (s : Src) (r : Row) : formV (partF w s 1) [r] = lotV w s 1 [r] [0] - lotV w s 1 [r] [] := by
  rw [partF_val]
  show rsum [rsum [sgnQ 1 0 * lotV w s 1 [r] []], rsum [sgnQ 1 1 * lotV w s 1 [r] [0]]] = _
  rw [rsum_cons, rsum_one, rsum_one, rsum_one, q10, q11]
  grind
theorem part_f2 (w : Wish) (s : Src) (r q : Row) : formV (partF w s 2) [r, q] = lotV w s 2 [r, q] [0, 1] - lotV w s 2 [r, q] [0] - lotV w s 2 [r, q] [1] + lotV w s 2 [r, q] [] := by
  rw [partF_val]
  show rsum [rsum [sgnQ 2 0 * lotV w s 2 [r, q] []], rsum [sgnQ 2 1 * lotV w s 2 [r, q] [0], sgnQ 2 1 * lotV w s 2 [r, q] [1]], rsum [sgnQ 2 2 * lotV w s 2 [r, q] [0, 1]]] = _
  simp only [rsum_cons, rsum_nil, q20, q21, q22]
  grind
theorem lotV_sum (w : Wish) (s : Src) (k : Nat) (rows : List Row) (lot : List Nat) {g : Fac × Rat → Rat} (h : ∀ p ∈ w, hsum (fun f => rowsP f rows) (toldP s lot k (deg w) (blankM s) p) = g p) : lotV w s k rows lot = rsum (w.map g) := by
  unfold lotV toldM
  rw [hsum_flat]
  exact rsum_congr h
theorem rowsP0 (f : Fac) : rowsP f [] = 1 := by cases f <;> rfl
theorem rowsP1 (m : Mom) (r : Row) : rowsP [m] [r] = rowM r m := by
  show rowM r m * 1 = _
  rw [Rat.mul_one]
theorem rowsP2 (m n : Mom) (r q : Row) : rowsP [m, n] [r, q] = rowM r m * rowM q n := by
  show rowM r m * (rowM q n * 1) = _
  rw [Rat.mul_one]
section
variable {s : Src} {w : Wish} (ht : Tot1 s)
theorem toldP2n (h : deg w = 2) {p : Fac × Rat} (hp : p ∈ w) (k : Nat) (b : Mom) : toldP s [] k 2 b p = [(List.replicate k b, yOf s [p.1.getD 0 [], p.1.getD 1 []] [] (p.2 * Rat.divInt 1 ((1 : Nat) : Int)))] := by
  have e : toldP s [] k 2 b p = [(List.replicate k b, yOf s (fillF p.1 2) [] (p.2 * Rat.divInt 1 ((1 : Nat) : Int)))] := rfl
  rw [e, fill2 (by have := deg_le hp; omega)]
include ht in
theorem lot2n (h : deg w = 2) (k : Nat) (rows : List Row) (hr : rows.length = k) : lotV w s k rows [] = Z2 s w := by
  refine lotV_sum w s k rows [] fun p hp => ?_
  obtain ⟨j, hj⟩ := blank_rep s
  rw [h, hj, toldP2n h hp]
  unfold hsum
  rw [List.map_singleton, rsum_one]
  have e : ∀ (k : Nat) (rows : List Row), rowsP (List.replicate k (List.replicate j 0)) rows = 1 := fun k => by
    induction k with
    | zero => intro rows; cases rows <;> rfl
    | succ k ih =>
      intro rows
      cases rows with
      | nil => rfl
      | cons r rows =>
        show rowM r (List.replicate j 0) * rowsP _ rows = 1
        rw [rowM_blank, ih, Rat.mul_one]
  show yOf s _ [] _ * rowsP (List.replicate k (List.replicate j 0)) rows = _
  rw [e, yOf2, ymul_out ht (by simp), ymul_out ht (by simp), dv1]
  show _ = p.2 * (momAt s _ * momAt s _)
  grind
include ht in
theorem lot1n (h : deg w = 1) (k : Nat) (rows : List Row) (hr : rows.length = k) : lotV w s k rows [] = Z1 s w := by
  refine lotV_sum w s k rows [] fun p hp => ?_
  obtain ⟨j, hj⟩ := blank_rep s
  have e0 : toldP s [] k 1 (List.replicate j 0) p = [(List.replicate k (List.replicate j 0), yOf s (fillF p.1 1) [] (p.2 * Rat.divInt 1 ((1 : Nat) : Int)))] := rfl
  rw [h, hj, e0, fill1 (by have := deg_le hp; omega)]
  unfold hsum
  rw [List.map_singleton, rsum_one]
  have e : ∀ (k : Nat) (rows : List Row), rowsP (List.replicate k (List.replicate j 0)) rows = 1 := fun k => by
    induction k with
    | zero => intro rows; cases rows <;> rfl
    | succ k ih =>
      intro rows
      cases rows with
      | nil => rfl
      | cons r rows =>
        show rowM r (List.replicate j 0) * rowsP _ rows = 1
        rw [rowM_blank, ih, Rat.mul_one]
  show yOf s _ [] _ * rowsP (List.replicate k (List.replicate j 0)) rows = _
  rw [e, yOf1, ymul_out ht (by simp), dv1]
  show _ = p.2 * momAt s _
  grind
theorem lot0n (h : deg w = 0) : lotV w s 0 [] [] = Z0 w := by
  refine lotV_sum w s 0 [] [] fun p hp => ?_
  have e0 : toldP s [] 0 0 (blankM s) p = [([], yOf s (fillF p.1 0) [] (p.2 * Rat.divInt 1 ((1 : Nat) : Int)))] := rfl
  rw [h, e0, fill0 (by have := deg_le hp; omega)]
  unfold hsum
  rw [List.map_singleton, rsum_one, dv1]
  show p.2 * 1 * 1 = p.2
  rw [Rat.mul_one, Rat.mul_one]
include ht in
theorem lot21 (h : deg w = 2) (r : Row) : lotV w s 1 [r] [0] = T2 s w r := by
  refine lotV_sum w s 1 [r] [0] fun p hp => ?_
  obtain ⟨j, hj⟩ := blank_rep s
  have e0 : ∀ a b : Mom, powsOf [a, b] (List.replicate j 0) ([0].zip [0]) 1 = [orM a (List.replicate j 0)] ∧ powsOf [a, b] (List.replicate j 0) ([0].zip [1]) 1 = [orM b (List.replicate j 0)] := fun a b => ⟨rfl, rfl⟩
  have e1 : toldP s [0] 1 2 (List.replicate j 0) p = [(powsOf (fillF p.1 2) (List.replicate j 0) ([0].zip [0]) 1, yOf s (fillF p.1 2) [0] (p.2 * Rat.divInt 1 ((2 : Nat) : Int))), (powsOf (fillF p.1 2) (List.replicate j 0) ([0].zip [1]) 1, yOf s (fillF p.1 2) [1] (p.2 * Rat.divInt 1 ((2 : Nat) : Int)))] := rfl
  rw [h, hj, e1, fill2 (by have := deg_le hp; omega), (e0 _ _).1, (e0 _ _).2]
  unfold hsum
  simp only [List.map_cons, List.map_nil, rsum_cons, rsum_nil, rowsP1, rowM_or, yOf2]
  rw [ymul_in s (im := [0]) (i := 0) (by simp), ymul_out ht (im := [0]) (i := 1) (by simp), ymul_out ht (im := [1]) (i := 0) (by simp), ymul_in s (im := [1]) (i := 1) (by simp), dv2]
  show _ = p.2 * (1 / 2) * (rowM r _ * momAt s _ + rowM r _ * momAt s _)
  grind
include ht in
theorem lot22a (h : deg w = 2) (r q : Row) : lotV w s 2 [r, q] [0] = T2 s w r := by
  refine lotV_sum w s 2 [r, q] [0] fun p hp => ?_
  obtain ⟨j, hj⟩ := blank_rep s
  have e0 : ∀ a b : Mom, powsOf [a, b] (List.replicate j 0) ([0].zip [0]) 2 = [orM a (List.replicate j 0), List.replicate j 0] ∧ powsOf [a, b] (List.replicate j 0) ([0].zip [1]) 2 = [orM b (List.replicate j 0), List.replicate j 0] := fun a b => ⟨rfl, rfl⟩
  have e1 : toldP s [0] 2 2 (List.replicate j 0) p = [(powsOf (fillF p.1 2) (List.replicate j 0) ([0].zip [0]) 2, yOf s (fillF p.1 2) [0] (p.2 * Rat.divInt 1 ((2 : Nat) : Int))), (powsOf (fillF p.1 2) (List.replicate j 0) ([0].zip [1]) 2, yOf s (fillF p.1 2) [1] (p.2 * Rat.divInt 1 ((2 : Nat) : Int)))] := rfl
  rw [h, hj, e1, fill2 (by have := deg_le hp; omega), (e0 _ _).1, (e0 _ _).2]
  unfold hsum
  simp only [List.map_cons, List.map_nil, rsum_cons, rsum_nil, rowsP2, rowM_or, rowM_blank, yOf2]
  rw [ymul_in s (im := [0]) (i := 0) (by simp), ymul_out ht (im := [0]) (i := 1) (by simp), ymul_out ht (im := [1]) (i := 0) (by simp), ymul_in s (im := [1]) (i := 1) (by simp), dv2]
  show _ = p.2 * (1 / 2) * (rowM r _ * momAt s _ + rowM r _ * momAt s _)
  grind
include ht in
theorem lot22b (h : deg w = 2) (r q : Row) : lotV w s 2 [r, q] [1] = T2 s w q := by
  refine lotV_sum w s 2 [r, q] [1] fun p hp => ?_
  obtain ⟨j, hj⟩ := blank_rep s
  have e0 : ∀ a b : Mom, powsOf [a, b] (List.replicate j 0) ([1].zip [0]) 2 = [List.replicate j 0, orM a (List.replicate j 0)] ∧ powsOf [a, b] (List.replicate j 0) ([1].zip [1]) 2 = [List.replicate j 0, orM b (List.replicate j 0)] := fun a b => ⟨rfl, rfl⟩
  have e1 : toldP s [1] 2 2 (List.replicate j 0) p = [(powsOf (fillF p.1 2) (List.replicate j 0) ([1].zip [0]) 2, yOf s (fillF p.1 2) [0] (p.2 * Rat.divInt 1 ((2 : Nat) : Int))), (powsOf (fillF p.1 2) (List.replicate j 0) ([1].zip [1]) 2, yOf s (fillF p.1 2) [1] (p.2 * Rat.divInt 1 ((2 : Nat) : Int)))] := rfl
  rw [h, hj, e1, fill2 (by have := deg_le hp; omega), (e0 _ _).1, (e0 _ _).2]
  unfold hsum
  simp only [List.map_cons, List.map_nil, rsum_cons, rsum_nil, rowsP2, rowM_or, rowM_blank, yOf2]
  rw [ymul_in s (im := [0]) (i := 0) (by simp), ymul_out ht (im := [0]) (i := 1) (by simp), ymul_out ht (im := [1]) (i := 0) (by simp), ymul_in s (im := [1]) (i := 1) (by simp), dv2]
  show _ = p.2 * (1 / 2) * (rowM q _ * momAt s _ + rowM q _ * momAt s _)
  grind
theorem lot22c (h : deg w = 2) (r q : Row) : lotV w s 2 [r, q] [0, 1] = S2 w r q := by
  refine lotV_sum w s 2 [r, q] [0, 1] fun p hp => ?_
  obtain ⟨j, hj⟩ := blank_rep s
  have e0 : ∀ a b : Mom, powsOf [a, b] (List.replicate j 0) ([0, 1].zip [0, 1]) 2 = [orM a (List.replicate j 0), orM b (List.replicate j 0)] ∧ powsOf [a, b] (List.replicate j 0) ([0, 1].zip [1, 0]) 2 = [orM b (List.replicate j 0), orM a (List.replicate j 0)] := fun a b => ⟨rfl, rfl⟩
  have e1 : toldP s [0, 1] 2 2 (List.replicate j 0) p = [(powsOf (fillF p.1 2) (List.replicate j 0) ([0, 1].zip [0, 1]) 2, yOf s (fillF p.1 2) [0, 1] (p.2 * Rat.divInt 1 ((2 : Nat) : Int))), (powsOf (fillF p.1 2) (List.replicate j 0) ([0, 1].zip [1, 0]) 2, yOf s (fillF p.1 2) [1, 0] (p.2 * Rat.divInt 1 ((2 : Nat) : Int)))] := rfl
  rw [h, hj, e1, fill2 (by have := deg_le hp; omega), (e0 _ _).1, (e0 _ _).2]
  unfold hsum
  simp only [List.map_cons, List.map_nil, rsum_cons, rsum_nil, rowsP2, rowM_or, rowM_blank, yOf2]
  rw [ymul_in s (im := [0, 1]) (i := 0) (by simp), ymul_in s (im := [0, 1]) (i := 1) (by simp), ymul_in s (im := [1, 0]) (i := 0) (by simp), ymul_in s (im := [1, 0]) (i := 1) (by simp), dv2]
  show _ = p.2 * (1 / 2) * (rowM r _ * rowM q _ + rowM r _ * rowM q _)
  grind
theorem lot11 (h : deg w = 1) (r : Row) : lotV w s 1 [r] [0] = S1 w r := by
  refine lotV_sum w s 1 [r] [0] fun p hp => ?_
  obtain ⟨j, hj⟩ := blank_rep s
  have e0 : ∀ a : Mom, powsOf [a] (List.replicate j 0) ([0].zip [0]) 1 = [orM a (List.replicate j 0)] := fun a => rfl
  have e1 : toldP s [0] 1 1 (List.replicate j 0) p = [(powsOf (fillF p.1 1) (List.replicate j 0) ([0].zip [0]) 1, yOf s (fillF p.1 1) [0] (p.2 * Rat.divInt 1 ((1 : Nat) : Int)))] := rfl
  rw [h, hj, e1, fill1 (by have := deg_le hp; omega), e0]
  unfold hsum
  simp only [List.map_cons, List.map_nil, rsum_cons, rsum_nil, rowsP1, rowM_or, yOf1]
  rw [ymul_in s (im := [0]) (i := 0) (by simp), dv1]
  show _ = p.2 * rowM r _
  grind
/-- the parts at drawn rows -/
theorem law_parts {c k : Nat} (hW : W1 c w) (ht : Tot1 s) {rows : List Row} (hr : rows.length = k) (hk : k ≤ deg w) : formV (partF w s k) rows = partV w s rows := by
  have hd := hW.ok.deg
  have : (deg w = 2 ∧ k = 2) ∨ (deg w = 2 ∧ k = 1) ∨ (deg w = 2 ∧ k = 0) ∨ (deg w = 1 ∧ k = 1) ∨ (deg w = 1 ∧ k = 0) ∨ (deg w = 0 ∧ k = 0) := by omega
  rcases this with ⟨h, rfl⟩ | ⟨h, rfl⟩ | ⟨h, rfl⟩ | ⟨h, rfl⟩ | ⟨h, rfl⟩ | ⟨h, rfl⟩
  · match rows, hr with
    | [r, q], _ => rw [part_f2, part2, told22 h, told21 h, told21 h, told20 h, lot22a ht h, lot22b ht h, lot22c h, lot2n ht h 2 _ rfl]
  · match rows, hr with
    | [r], _ => rw [part_f1, part1, told21 h, told20 h, lot21 ht h, lot2n ht h 1 _ rfl]
  · match rows, hr with
    | [], _ => rw [part_f0, part0, told20 h, lot2n ht h 0 _ rfl]
  · match rows, hr with
    | [r], _ => rw [part_f1, part1, told11 h, told10 h, lot11 h, lot1n ht h 1 _ rfl]
  · match rows, hr with
    | [], _ => rw [part_f0, part0, told10 h, lot1n ht h 0 _ rfl]
  · match rows, hr with
    | [], _ => rw [part_f0, part0, told00 h, lot0n h]
end
end DW

/-! Pr24: enough samples: shares fall, sizes, the least number. -/
namespace DW
open PySem PySem.Spec PyProof.Rows L2 DM
/-! ### shares -/
theorem divInt_mulc {a b : Int} (hb : 0 < b) : Rat.divInt a b * (b : Rat) = (a : Rat) := by
  have hne : ((b : Int) : Rat) ≠ 0 := fun z => by
    have := Rat.intCast_eq_zero_iff.mp z
    omega
  rw [Rat.divInt_eq_div, Rat.div_mul_cancel hne]
theorem divInt_anti {a b b' : Int} (ha : 0 ≤ a) (hb : 0 < b) (h : b ≤ b') : Rat.divInt a b' ≤ Rat.divInt a b := by
  have hb' : 0 < b' := by omega
  have hy : 0 ≤ Rat.divInt a b' := Rat.divInt_nonneg ha (by omega)
  have hbq : (0 : Rat) < (b : Rat) := Rat.intCast_pos.mpr hb
  have hle : (b : Rat) ≤ (b' : Rat) := Rat.intCast_le_intCast.mpr h
  refine Rat.le_of_mul_le_mul_right (c := (b : Rat)) ?_ hbq
  have h1 := Rat.mul_le_mul_of_nonneg_left hle hy
  rw [divInt_mulc hb'] at h1
  rw [divInt_mulc hb]
  exact h1
theorem comb_mono {n m k : Nat} (hk : k ≤ n) (h : n ≤ m) (h2 : k ≤ 2) : PySem.W.mcComb n k ≤ PySem.W.mcComb m k := by
  have : k = 0 ∨ k = 1 ∨ k = 2 := by omega
  rcases this with rfl | rfl | rfl
  · have h3 := PySem.W.mcComb_ends (a := (n : Int)) (b := 0) (by decide) (by omega) (.inl rfl)
    have h4 := PySem.W.mcComb_ends (a := (m : Int)) (b := 0) (by decide) (by omega) (.inl rfl)
    show PySem.W.mcComb n 0 ≤ PySem.W.mcComb m 0
    omega
  · have h3 := PySem.W.mcComb_one (a := (n : Int)) (by omega)
    have h4 := PySem.W.mcComb_one (a := (m : Int)) (by omega)
    show PySem.W.mcComb n 1 ≤ PySem.W.mcComb m 1
    omega
  · have h3 := PySem.W.mcComb_two (a := (n : Int)) (by omega)
    have h4 := PySem.W.mcComb_two (a := (m : Int)) (by omega)
    show PySem.W.mcComb n 2 ≤ PySem.W.mcComb m 2
    have h5 : (n : Int) * ((n : Int) - 1) ≤ (m : Int) * ((m : Int) - 1) := Int.mul_le_mul (by omega) (by omega) (by omega) (by omega)
    omega
theorem share_anti {d n m k : Nat} (hk : k ≤ d) (hd : d ≤ 2) (hn : d ≤ n) (h : n ≤ m) (hm : m ≤ 1000) : shareN d m k ≤ shareN d n k := by
  obtain ⟨c1, _, _, _⟩ := cp_small hd hk
  obtain ⟨c3, _⟩ := comb_le (n := n) (k := k) (by omega) (by omega) (by omega)
  exact divInt_anti (Int.pow_nonneg (Int.le_of_lt c1)) c3 (comb_mono (by omega) h (by omega))
theorem share_nn {d n k : Nat} (hk : k ≤ d) (hd : d ≤ 2) (hn : d ≤ n) (hm : n ≤ 1000) : 0 ≤ shareN d n k := by
  obtain ⟨c1, _, _, _⟩ := cp_small hd hk
  obtain ⟨c3, _⟩ := comb_le (n := n) (k := k) (by omega) (by omega) (by omega)
  exact Rat.divInt_nonneg (Int.pow_nonneg (Int.le_of_lt c1)) (by omega)
theorem sp_form {d : Nat} {V : List Rat} (hV : V.length = d) (n : Nat) : spV d n V = rsum ((List.range d).map fun i => shareN d n (i + 1) * V.getD i 0) := by
  unfold spV spList sharesL
  congr 1
  apply List.ext_getElem?
  intro i
  rw [List.getElem?_map, List.getElem?_map]
  by_cases hi : i < d
  · have hv : i < V.length := by omega
    rw [List.getElem?_eq_getElem (by rw [List.length_zip, List.length_map, List.length_range]; omega), List.getElem_zip, List.getElem_map, List.getElem_range, List.getElem?_range hi]
    show some _ = some (shareN d n (i + 1) * V.getD i 0)
    rw [List.getD_eq_getElem?_getD, List.getElem?_eq_getElem hv]
    rfl
  · rw [List.getElem?_eq_none (by rw [List.length_zip, List.length_map, List.length_range]; omega), List.getElem?_eq_none (by rw [List.length_range]; omega)]
    rfl
theorem rsum_le {α : Type} {f g : α → Rat} : ∀ {xs : List α}, (∀ x ∈ xs, f x ≤ g x) → rsum (xs.map f) ≤ rsum (xs.map g)
  | [], _ => Rat.le_refl
  | x :: xs, h => by
    rw [List.map_cons, List.map_cons, rsum_cons, rsum_cons]
    have h1 := h x List.mem_cons_self
    have h2 := rsum_le (xs := xs) fun y hy => h y (List.mem_cons_of_mem _ hy)
    exact Rat.le_trans (Rat.add_le_add_right.mpr h1) (Rat.add_le_add_left.mpr h2)
theorem getD_nn {V : List Rat} (h : ∀ v ∈ V, 0 ≤ v) (i : Nat) : 0 ≤ V.getD i 0 := by
  rw [List.getD_eq_getElem?_getD]
  by_cases hi : i < V.length
  · rw [List.getElem?_eq_getElem hi]
    exact h _ (List.getElem_mem hi)
  · rw [List.getElem?_eq_none (by omega)]
    exact Rat.le_refl
theorem sp_anti {d n m : Nat} {V : List Rat} (hV : V.length = d) (hp : ∀ v ∈ V, 0 ≤ v) (hd : d ≤ 2) (hn : d ≤ n) (h : n ≤ m) (hm : m ≤ 1000) : spV d m V ≤ spV d n V := by
  rw [sp_form hV, sp_form hV]
  exact rsum_le fun i hi => Rat.mul_le_mul_of_nonneg_right (share_anti (by have := List.mem_range.mp hi; omega) hd hn h hm) (getD_nn hp i)
theorem sp_nn {d n : Nat} {V : List Rat} (hV : V.length = d) (hp : ∀ v ∈ V, 0 ≤ v) (hd : d ≤ 2) (hn : d ≤ n) (hm : n ≤ 1000) : 0 ≤ spV d n V := by
  rw [sp_form hV]
  refine rsum_nonneg fun x hx => ?_
  obtain ⟨i, hi, rfl⟩ := List.mem_map.mp hx
  exact Rat.mul_nonneg (share_nn (by have := List.mem_range.mp hi; omega) hd hn hm) (getD_nn hp i)
/-! ### sizes -/
structure Bt (a : Nat) (q : Rat) : Prop where
  n : q.num.natAbs < 2 ^ a
  d : q.den < 2 ^ a
theorem Bt.sz {a : Nat} {q : Rat} (h : Bt a q) (ha : a ≤ 4000) : Sz q := ⟨Nat.lt_of_lt_of_le h.n (Nat.pow_le_pow_right (by decide) ha), Nat.lt_of_lt_of_le h.d (Nat.pow_le_pow_right (by decide) ha)⟩
theorem bt_div {a : Nat} {x y : Int} (hy : 0 < y) (h1 : x.natAbs < 2 ^ a) (h2 : y.natAbs < 2 ^ a) : Bt a (Rat.divInt x y) := by
  obtain ⟨e1, e2⟩ := gcd_rat (a := x) hy
  refine ⟨?_, ?_⟩
  · rw [← e1, Int.natAbs_ediv_of_dvd (Int.ofNat_dvd_left.mpr (Nat.gcd_dvd_left _ _))]
    exact Nat.lt_of_le_of_lt (Nat.div_le_self _ _) h1
  · have e3 : (Rat.divInt x y).den = (y / ((Nat.gcd x.natAbs y.natAbs : Nat) : Int)).natAbs := by rw [e2, Int.natAbs_natCast]
    rw [e3, Int.natAbs_ediv_of_dvd (Int.ofNat_dvd_left.mpr (Nat.gcd_dvd_right _ _))]
    exact Nat.lt_of_le_of_lt (Nat.div_le_self _ _) h2
theorem bt_den {a : Nat} {x y : Rat} {b : Nat} (h1 : Bt a x) (h2 : Bt b y) : 0 < (x.den : Int) * y.den ∧ ((x.den : Int) * y.den).natAbs < 2 ^ (a + b) := by
  refine ⟨Int.mul_pos (den_pos x) (den_pos y), ?_⟩
  exact wide_lt (i := x.den) (j := y.den) h1.d h2.d
theorem Bt.mul {a b : Nat} {x y : Rat} (h1 : Bt a x) (h2 : Bt b y) : Bt (a + b) (x * y) := by
  rw [← mul_rat]
  exact bt_div (bt_den h1 h2).1 (wide_lt h1.n h2.n) (bt_den h1 h2).2
theorem Bt.mono {a b : Nat} {x : Rat} (h : Bt a x) (e : a ≤ b) : Bt b x := ⟨Nat.lt_of_lt_of_le h.n (Nat.pow_le_pow_right (by decide) e), Nat.lt_of_lt_of_le h.d (Nat.pow_le_pow_right (by decide) e)⟩
theorem Bt.add {a b : Nat} {x y : Rat} (h1 : Bt a x) (h2 : Bt b y) : Bt (a + b + 1) (x + y) := by
  rw [← add_rat]
  have p1 := wide_lt (i := x.num) (j := y.den) h1.n h2.d
  have p2 := wide_lt (i := y.num) (j := x.den) h2.n h1.d
  rw [Nat.add_comm b a] at p2
  have p3 := Int.natAbs_add_le (x.num * y.den) (y.num * x.den)
  have e : 2 ^ (a + b + 1) = 2 ^ (a + b) + 2 ^ (a + b) := by rw [Nat.pow_succ]; omega
  refine bt_div (bt_den h1 h2).1 (by omega) ?_
  exact Nat.lt_of_lt_of_le (bt_den h1 h2).2 (Nat.pow_le_pow_right (by decide) (by omega))
theorem bt_fit {k : Nat} {q : Rat} (h : Fit k q) : Bt (26 * k + 1) q := by
  obtain ⟨z, h1, h2⟩ := h
  have hg : G ^ k ≤ 2 ^ (13 * k) := by
    rw [Nat.pow_mul]
    exact Nat.pow_le_pow_left (show G ≤ 2 ^ 13 by decide) k
  have hg2 : G ^ (2 * k) ≤ 2 ^ (13 * (2 * k)) := by
    rw [Nat.pow_mul 2 13]
    exact Nat.pow_le_pow_left (show G ≤ 2 ^ 13 by decide) _
  have e : q = Rat.divInt z ((G ^ k : Nat) : Int) := by
    rw [Rat.divInt_ofNat, Rat.mkRat_eq_div, ← h1, Rat.mul_div_cancel (gne k)]
  have hp : 0 < G ^ k := Nat.pow_pos G0
  have b1 : 2 ^ (13 * (2 * k)) < 2 ^ (26 * k + 1) := Nat.pow_lt_pow_right (by decide) (by omega)
  have b2 : 2 ^ (13 * k) ≤ 2 ^ (13 * (2 * k)) := Nat.pow_le_pow_right (by decide) (by omega)
  rw [e]
  exact bt_div (by omega) (by omega) (by rw [Int.natAbs_natCast]; omega)
theorem share_bt {d n k : Nat} (hk : k ≤ d) (hd : d ≤ 2) (hn : d ≤ n) (hm : n ≤ 1000) : Bt 20 (shareN d n k) := by
  obtain ⟨c1, c2, _, _⟩ := cp_small hd hk
  obtain ⟨c3, c4⟩ := comb_le (n := n) (k := k) (by omega) (by omega) (by omega)
  refine bt_div c3 ?_ (by omega)
  have : PySem.W.mcComb d k = 1 ∨ PySem.W.mcComb d k = 2 := by omega
  rcases this with e | e <;> rw [e] <;> decide
theorem bt_zero : Bt 1 0 := ⟨by decide, by decide⟩
theorem few_lists {d n : Nat} {V : List Rat} (hV : V.length = d) (hd : d ≤ 2) : (spList d n V).length ≤ 2 := by
  unfold spList sharesL
  rw [List.length_map, List.length_zip, List.length_map, List.length_range]
  omega
theorem sp_sz {d n k : Nat} {V : List Rat} (hV : V.length = d) (hf : ∀ v ∈ V, Fit k v) (hk : k ≤ 60) (hd : d ≤ 2) (hn : d ≤ n) (hm : n ≤ 1000) : SpSz d n V ∧ Bt 3200 (spV d n V) := by
  have h2 : ∀ p ∈ (sharesL d n).zip V, Bt 20 p.1 ∧ Bt 1561 p.2 := fun p hp => by
    have a := (List.of_mem_zip (a := p.1) (b := p.2) hp).1
    have b := (List.of_mem_zip (a := p.1) (b := p.2) hp).2
    obtain ⟨i, hi, e⟩ := List.mem_map.mp a
    have hi' := List.mem_range.mp hi
    exact ⟨by rw [← e]; exact share_bt (by omega) hd hn hm, (bt_fit (hf _ b)).mono (by omega)⟩
  have h1 : ∀ x ∈ spList d n V, Bt 1581 x := fun x hx => by
    obtain ⟨p, hp, rfl⟩ := List.mem_map.mp hx
    exact (h2 p hp).1.mul (h2 p hp).2
  have h3 : ∀ xs : List Rat, xs.length ≤ 2 → (∀ x ∈ xs, Bt 1581 x) → Bt 3200 (rsum xs) := fun xs hl h => by
    match xs, hl with
    | [], _ => exact bt_zero.mono (by decide)
    | [x], _ =>
      rw [rsum_one]
      exact (h x (by simp)).mono (by decide)
    | [x, y], _ =>
      rw [rsum_cons, rsum_one]
      exact ((h x (by simp)).add (h y (by simp))).mono (by decide)
  have hl := few_lists (n := n) hV hd
  refine ⟨⟨fun p hp => ⟨(h2 p hp).1.sz (by decide), (h2 p hp).2.sz (by decide)⟩, fun x hx => (h1 x hx).sz (by decide), fun q hq => ?_⟩, h3 _ hl h1⟩
  exact (h3 q (Nat.le_trans hq.length_le hl) fun x hx => h1 x (hq.subset hx)).sz (by decide)
/-! ### values of the layers -/
theorem draws_pos {s : Src} (hp : ∀ q ∈ s, 0 ≤ q.2) : ∀ n, ∀ q ∈ draws s n, 0 ≤ q.2
  | 0 => fun q hq => by
    have : q = ([], 1) := by simpa [draws] using hq
    subst this
    show (0 : Rat) ≤ 1
    decide
  | n + 1 => fun q hq => by
    rw [draws_succ] at hq
    obtain ⟨q', h1, h2⟩ := List.mem_flatMap.mp hq
    obtain ⟨o, h3, rfl⟩ := List.mem_map.mp h2
    exact Rat.mul_nonneg (draws_pos hp n q' h1) (hp o h3)
theorem sqV_nn {w : Wish} {s : Src} (hp : ∀ q ∈ s, 0 ≤ q.2) (k : Nat) : 0 ≤ sqV w s k := by
  refine rsum_nonneg fun x hx => ?_
  obtain ⟨q, hq, rfl⟩ := List.mem_map.mp hx
  exact Rat.mul_nonneg (draws_pos hp k q hq) (sq_nonneg _)
def sqT (w : Wish) (s : Src) (q : List Row × Rat) : Rat := q.2 * (partV w s q.1 * partV w s q.1)
theorem sqT_fit {w : Wish} (hw : W0 w) {s : Src} (hs : SrcOk s) {k : Nat} (hk : k ≤ deg w) {q : List Row × Rat} (hq : q ∈ draws s k) : Fit 33 (sqT w s q) := by
  obtain ⟨a, b, c⟩ := draws_mem hs k q hq
  have h := partV_fit hw hs b (by omega)
  exact (c.mul (h.mul h)).mono (by have := hw.deg; omega)
theorem sq_sum {w : Wish} (hw : W0 w) {s : Src} (hs : SrcOk s) {k : Nat} (hk : k ≤ deg w) : (∀ x ∈ (draws s k).map (sqT w s), Fit 33 x) ∧ ((draws s k).map (sqT w s)).length ≤ G := by
  refine ⟨fun x hx => ?_, ?_⟩
  · obtain ⟨q, hq, rfl⟩ := List.mem_map.mp hx
    exact sqT_fit hw hs hk hq
  · rw [List.length_map]
    have := draws_81 hs (n := k) (by have := hw.deg; omega)
    have : 81 ≤ G := by decide
    omega
theorem sqV_eq (w : Wish) (s : Src) (k : Nat) : sqV w s k = rsum ((draws s k).map (sqT w s)) := rfl
theorem sqV_fit {w : Wish} (hw : W0 w) {s : Src} (hs : SrcOk s) {k : Nat} (hk : k ≤ deg w) : Fit 34 (sqV w s k) := Fit.sum (sq_sum hw hs hk).1 (sq_sum hw hs hk).2
structure ValsOk (d : Nat) (V : List Rat) : Prop where
  len : V.length = d
  two : d ≤ 2
  pos : ∀ v ∈ V, 0 ≤ v
  fit : ∀ v ∈ V, Fit 34 v
theorem vals_ok {c : Nat} {w : Wish} {s : Src} (hW : W1 c w) (hS : Src1 c s) : ValsOk (deg w) (layVals w s) := by
  have hm : ∀ v ∈ layVals w s, ∃ k, 1 ≤ k ∧ k ≤ deg w ∧ v = sqV w s k := fun v hv => by
    obtain ⟨i, hi, rfl⟩ := List.mem_map.mp hv
    have hi' := List.mem_range.mp hi
    exact ⟨i + 1, by omega, by omega, law_layers hW hS.tot (by omega) (by omega)⟩
  refine ⟨by unfold layVals; rw [List.length_map, List.length_range], hW.ok.deg, fun v hv => ?_, fun v hv => ?_⟩
  · obtain ⟨k, _, _, rfl⟩ := hm v hv
    exact sqV_nn hS.pos k
  · obtain ⟨k, _, h, rfl⟩ := hm v hv
    exact sqV_fit hW.ok hS.ok h
theorem ValsOk.sz {d n : Nat} {V : List Rat} (h : ValsOk d V) (hn : d ≤ n) (hm : n ≤ 1000) : SpSz d n V ∧ Bt 3200 (spV d n V) := sp_sz h.len h.fit (by decide) h.two hn hm
/-! ### the least number -/
def dstep (T : Nat → Bool) (d : Nat) (_ : Nat) : Nat := if T d = true then d + 1 else d
def dueIt (T : Nat → Bool) (d0 j : Nat) : Nat := (List.range j).foldl (dstep T) d0
theorem due_succ (T : Nat → Bool) (d0 j : Nat) : dueIt T d0 (j + 1) = dstep T (dueIt T d0 j) j := by
  unfold dueIt
  rw [List.range_succ, List.foldl_append]
  rfl
theorem due_ok {T : Nat → Bool} {d0 N : Nat} (hN : d0 ≤ N) (hT : T N = false) : ∀ j, d0 ≤ dueIt T d0 j ∧ dueIt T d0 j ≤ N ∧ (∀ n, d0 ≤ n → n < dueIt T d0 j → T n = true) ∧ (T (dueIt T d0 j) = false ∨ dueIt T d0 j = d0 + j)
  | 0 => ⟨Nat.le_refl _, hN, fun n a b => by
      have : n < d0 := b
      omega, .inr rfl⟩
  | j + 1 => by
    obtain ⟨h1, h2, h3, h4⟩ := due_ok hN hT j
    rw [due_succ]
    unfold dstep
    by_cases h : T (dueIt T d0 j) = true
    · rw [if_pos h]
      have hne : dueIt T d0 j ≠ N := fun e => by rw [e, hT] at h; cases h
      refine ⟨by omega, by omega, fun n a b => ?_, ?_⟩
      · by_cases e : n = dueIt T d0 j
        · rw [e]; exact h
        · exact h3 n a (by omega)
      · rcases h4 with h4 | h4
        · rw [h4] at h; cases h
        · right; omega
    · rw [if_neg h]
      have h' : T (dueIt T d0 j) = false := by simpa using h
      exact ⟨h1, h2, h3, .inl h'⟩
theorem due_end {T : Nat → Bool} {d0 N J : Nat} (hN : d0 ≤ N) (hJ : N < d0 + J) (hT : T N = false) : T (dueIt T d0 J) = false := by
  obtain ⟨h1, h2, h3, h4⟩ := due_ok hN hT J
  rcases h4 with h | h
  · exact h
  · omega
def facsQ : List Rat := [1, Rat.divInt 10 9, Rat.divInt 3 2]
def mostOf (d n : Nat) (V : List Rat) (i : Nat) : Rat := if spV d n V * facsQ.getD i 1 = 0 then Rat.divInt 1 7 else spV d n V * facsQ.getD i 1
theorem facs_ge (i : Nat) : (1 : Rat) ≤ facsQ.getD i 1 := by
  match i with
  | 0 => decide +kernel
  | 1 => decide +kernel
  | 2 => decide +kernel
  | _ + 3 => exact Rat.le_refl
theorem facs_bt (i : Nat) : Bt 10 (facsQ.getD i 1) := by
  have t : ∀ i ∈ ([0, 1, 2] : List Nat), (decide ((facsQ.getD i 1).num.natAbs < 2 ^ 10) && decide ((facsQ.getD i 1).den < 2 ^ 10)) = true := by decide +kernel
  have u : ∀ i ∈ ([0, 1, 2] : List Nat), Bt 10 (facsQ.getD i 1) := fun i hi => by
    have := t i hi
    rw [Bool.and_eq_true, decide_eq_true_eq, decide_eq_true_eq] at this
    exact ⟨this.1, this.2⟩
  match i with
  | 0 => exact u 0 (by simp)
  | 1 => exact u 1 (by simp)
  | 2 => exact u 2 (by simp)
  | _ + 3 => exact ⟨by show (1 : Int).natAbs < 2 ^ 10; decide, by show 1 < 2 ^ 10; decide⟩
theorem most_ok {d n : Nat} {V : List Rat} (h : ValsOk d V) (hn : d ≤ n) (hm : n ≤ 1000) (i : Nat) : Sz (mostOf d n V i) ∧ ¬ mostOf d n V i < spV d n V := by
  have hb := (h.sz hn hm).2
  have hnn := sp_nn h.len h.pos h.two hn hm
  unfold mostOf
  split
  · rename_i hz
    refine ⟨(bt_div (a := 5) (x := 1) (y := 7) (by decide) (by decide) (by decide)).sz (by decide), ?_⟩
    have h1 := Rat.mul_le_mul_of_nonneg_left (facs_ge i) hnn
    rw [hz, Rat.mul_one] at h1
    rw [Rat.not_lt]
    exact Rat.le_trans h1 (Rat.divInt_nonneg (by decide) (by decide))
  · refine ⟨(hb.mul (facs_bt i)).sz (by decide), ?_⟩
    have h1 := Rat.mul_le_mul_of_nonneg_left (facs_ge i) hnn
    rw [Rat.mul_one] at h1
    rw [Rat.not_lt]
    exact h1
end DW

/-! Pr25: the law's look at enough samples. -/
namespace DW
open PySem PySem.Spec PyProof.Rows L2 DM
section
variable {P : Program} {w : World} {K : PySem.W.Frag} {mg : Str → Option Value} {base : Heap}
def R_enr (us ds : List PyData) (d : PyData) (us' : List PyData) : Prop := ∃ (u : Urn) (N c : Nat) (w : Wish) (s : Src), us = eU u ∧ UrnOk N u ∧ N ≤ 990 ∧ ds = [eW w, eS s, .list ((layVals w s).map rd)] ∧ W1 c w ∧ Src1 c s ∧ d = .bool true ∧ us' = eU (takeS (takeS u 30) 3)
theorem ok_law_enr (D : Df K mg "_law_enough_right" s__law_enough_right) (G1 : Fn P w K mg base 1 "_law_take" (spU K R_take)) (G2 : Fn P w K mg base 2 "_law_of" (spU K R_of)) (G3 : Fn P w K mg base 4 "_law_spread_by" (spP K R_spBy)) (G4 : Fn P w K mg base 9 "enough_samples" (spP K R_enough)) (G5 : Fn P w K mg base 1 "_law_same" (spP K (R_same 0))) (G6 : Fn P w K mg base 2 "_law_mul" (spP K (R_two (· * ·)))) (m1 : mg "len" = none) (m2 : mg "range" = none) : Fn P w K mg base 10 "_law_enough_right" (spU K R_enr) := by
  refine fn_urn (k := 9) D sc__law_enough_right ?_ (fun _ _ _ _ _ _ us hl => match us, hl with | [_, _, _, _], _ => by kernel_rfl) ?_
  · rintro us ds d us' ⟨a, b, c, e, g, _, _, _, rfl, _⟩
    rfl
  · rintro f cdv A outer s H E us ds d us' hr ⟨u, N, c, w, src, rfl, hu, hN, rfl, hW, hS, rfl, rfl⟩
    have hV := vals_ok hW hS
    have hVl := hV.len
    have hw := hW.ok
    have hd := hw.deg
    have h30 := takeN_lt u (n := 30) (by decide)
    have h3 := takeN_lt (takeS u 30) (n := 3) (by decide)
    have hu1 := hu.take 30
    obtain ⟨z1, z2⟩ := hV.sz (n := deg w + takeN u 30) (by omega) (by omega)
    obtain ⟨y1, y2⟩ := most_ok hV (n := deg w + takeN u 30) (by omega) (by omega) (takeN (takeS u 30) 3)
    have hsz : ∀ n, deg w ≤ n → n ≤ 1000 → SpSz (deg w) n (layVals w src) := fun n a b => (hV.sz a b).1
    have hszb : ∀ n, deg w ≤ n → n ≤ 1000 → Sz (spV (deg w) n (layVals w src)) := fun n a b => (hV.sz a b).2.sz (by decide)
    have hanti : ∀ n m, deg w ≤ n → n ≤ m → m ≤ 1000 → spV (deg w) m (layVals w src) ≤ spV (deg w) n (layVals w src) := fun n m a b e => sp_anti hV.len hV.pos hV.two a b e
    have hfb := (facs_bt (takeN (takeS u 30) 3)).sz (by decide)
    have hmo : mostOf (deg w) (deg w + takeN u 30) (layVals w src) (takeN (takeS u 30) 3) = if spV (deg w) (deg w + takeN u 30) (layVals w src) * facsQ.getD (takeN (takeS u 30) 3) 1 = 0 then Rat.divInt 1 7 else spV (deg w) (deg w + takeN u 30) (layVals w src) * facsQ.getD (takeN (takeS u 30) 3) 1 := rfl
    generalize hVe : layVals w src = V at *
    generalize hm : deg w = m at *
    generalize ht30 : takeN u 30 = t at *
    have hsp := hszb (m + t) (by omega) (by omega)
    have hpos7 : rd (Rat.divInt 1 7) = .tuple [.int 1, .int 7] := (rd_one (n := 7) (by decide)).symm
    generalize hfq : facsQ.getD (takeN (takeS u 30) 3) 1 = fq at *
    have hget : (facsQ.map rd)[takeN (takeS u 30) 3]? = some (rd fq) := by
      rw [← hfq]
      exact getD_at rd facsQ _ 1 h3
    generalize hmost : mostOf m (m + t) V (takeN (takeS u 30) 3) = most at *
    let T : Nat → Bool := fun n => decide (most < spV m n V)
    have hT : T (m + t) = false := decide_eq_false y2
    have hdu := due_ok (T := T) (d0 := m) (N := m + t) (by omega) hT
    have hend := due_end (T := T) (d0 := m) (N := m + t) (J := 30) (by omega) (by omega) hT
    let C : List SV := [.h 0, .d (eW w), .d (eS src), .d (.list (V.map rd))]
    refine ⟨[.l (eU (takeS (takeS u 30) 3))], rfl,
      bj_cons (sj_par 4 5 sc__law_enough_right.nd (d1 := .int m) (d2 := .int (m + t : Nat)) (μ' := [.l (eU (takeS u 30))]) ?_)
      (bj_cons (sj_set 6 sc__law_enough_right.nd (d := rd (spV m (m + t) V * fq)) (μ' := [.l (eU (takeS (takeS u 30) 3))]) ?_)
      (bj_cons (ρ1 := C ++ ([.d (.int m), .d (.int (m + t : Nat)), .d (rd most), .u, .u] : List SV)) (μ1 := [.l (eU (takeS (takeS u 30) 3))]) (sj_if (k := ((spV m (m + t) V * fq).num == 0)) (μ1 := [.l (eU (takeS (takeS u 30) 3))]) ?_ (fun z => ?_) (fun z => ?_))
      (bj_cons (ρ1 := C ++ ([.d (.int (dueIt T m 30 : Nat)), .d (.int (m + t : Nat)), .d (rd most), .u, .u] : List SV)) (μ1 := [.l (eU (takeS (takeS u 30) 3))]) (sj_for (iv_eq (iv_range m2 (n := 30) ev_int (by omega) (by omega)) (rng0 30)) (for_preS eN (fun pre => C ++ ([.d (.int (dueIt T m pre.length : Nat)), .d (.int (m + t : Nat)), .d (rd most), .u, .u] : List SV)) (fun _ => [.l (eU (takeS (takeS u 30) 3))]) (List.range 30) rfl rfl fun pre j suf e => ?_))
      (bj_one (sj_ret (d := .bool true) ?_)))))⟩
    · have e1 : (((V.map rd).length : Nat) : Int) = (m : Int) := by rw [List.length_map, hVl]
      refine av_cons (ev_eq (ev_lenL m1 (lv_of_ev (ev_name 3 rfl))) (congrArg PyData.int e1)) (av_cons (ev_eq (d := .int ((m : Int) + (t : Int))) (ev_add (ev_eq (ev_lenL m1 (lv_of_ev (ev_name 3 rfl))) (congrArg PyData.int e1)) (ev_callV 0 G1 hr rfl (av_cons ev_int av_nil) rfl ⟨u, N, 30, rfl, hu, by omega, rfl, by decide, by decide, by rw [ht30], rfl⟩ rfl)) (congrArg PyData.int (Int.natCast_add m t).symm)) av_nil)
    · exact ev_call G6 hr (av_cons (ev_call G3 hr (av_cons (ev_name 3 rfl) (av_cons (ev_name 5 rfl) av_nil)) ⟨V, m + t, rfl, by omega, by omega, by omega, by rw [hVl]; exact z1, by rw [hVl]⟩)
        (av_cons (ev_callV 0 G2 hr rfl (av_cons (ev_eq (d' := .list (facsQ.map rd)) (ev_of_ef (ef_lst (av_cons (ev_tup (av_cons ev_int (av_cons ev_int av_nil))) (av_cons (ev_tup (av_cons ev_int (av_cons ev_int av_nil))) (av_cons (ev_tup (av_cons ev_int (av_cons ev_int av_nil))) av_nil))))) (by kernel_rfl)) av_nil) rfl ⟨takeS u 30, N + 1, facsQ.map rd, _, rfl, hu1, by omega, rfl, .inl rfl, by decide, by decide, hget, rfl⟩ rfl) av_nil)) ⟨_, _, rfl, hsp, hfb, rfl⟩
    · exact tv_cmp op_eq ov_eqI (ev_ixT (ev_name 6 rfl) ev_int rfl) ev_int
    · have hz : spV m (m + t) V * fq = 0 := Rat.num_eq_zero.mp (eq_of_beq z)
      rw [hmo, if_pos hz, hpos7]
      exact bj_one (sj_set 6 sc__law_enough_right.nd (ev_tup (av_cons ev_int (av_cons ev_int av_nil))))
    · have hz : ¬ spV m (m + t) V * fq = 0 := fun h => by
        rw [h] at z
        cases z
      rw [hmo, if_neg hz]
      exact bj_nil
    · obtain ⟨rfl, hj⟩ := range_split e
      rw [List.length_append, List.length_singleton, List.length_range, due_succ]
      obtain ⟨d1, d2, d3, d4⟩ := hdu j
      generalize dueIt T m j = due at d1 d2 d3 d4
      have hq := hszb due (by omega) (by omega)
      have w1 : CMulW (spV m due V).num most.den := mul_szW hq.n y1.d
      have w2 : CMulW most.num (spV m due V).den := mul_szW y1.n hq.d
      have hk : decide ((spV m due V).num * most.den > most.num * (spV m due V).den) = T due := by
        show _ = decide (most < spV m due V)
        rw [decide_eq_decide]
        exact (Rat.lt_iff _ _).symm
      refine ⟨_, _, C ++ ([.d (.int (dstep T due j : Nat)), .d (.int (m + t : Nat)), .d (rd most), .d (eN j), .d (rd (spV m due V))] : List SV), gv_name 7 sc__law_enough_right.nd,
        bj_cons (sj_set 8 sc__law_enough_right.nd (ev_call G3 hr (av_cons (ev_name 3 rfl) (av_cons (ev_name 4 rfl) av_nil)) ⟨V, due, rfl, by omega, by omega, by omega, by rw [hVl]; exact hsz due (by omega) (by omega), by rw [hVl]⟩))
          (bj_one (sj_if (tv_eq (tv_cmp op_gt ov_B0 (ev_mul w1 (ev_ixT (ev_name 8 rfl) ev_int rfl) (ev_ixT (ev_name 6 rfl) ev_int rfl)) (ev_mul w2 (ev_ixT (ev_name 6 rfl) ev_int rfl) (ev_ixT (ev_name 8 rfl) ev_int rfl))) hk) (fun z => ?_) (fun z => ?_))), ?_⟩
      · have e5 : dstep T due j = due + 1 := if_pos z
        rw [e5]
        exact bj_one (sj_set 4 sc__law_enough_right.nd (ev_eq (ev_add (ev_name 4 rfl) ev_int) rfl))
      · have e5 : dstep T due j = due := if_neg (by rw [z]; decide)
        rw [e5]
        exact bj_nil
      · exact .keep (.keep (.keep (.keep (.keep (.keep (.keep (.drop (.drop .nil))))))))
    · obtain ⟨d1, d2, d3, _⟩ := hdu 30
      refine ev_call G5 hr (av_cons (ev_call G4 hr (av_cons (ev_name 1 rfl) (av_cons (ev_name 2 rfl) (av_cons (ev_name 6 rfl) av_nil))) ⟨w, src, most, dueIt T m 30, rfl, hw, hS.ok, y1, by omega, by omega, fun n a b => ?_, fun n a b => ?_, fun n a b => ?_, rfl⟩) (av_cons (ev_name 4 rfl) av_nil)) ⟨_, rfl, ls_int 0 _, rfl⟩
      · rw [hm, hVe]
        exact of_decide_eq_true (d3 n (by omega) b)
      · rw [hm, hVe]
        have h0 := of_decide_eq_false hend
        rw [Rat.not_lt] at h0 ⊢
        exact Rat.le_trans (hanti _ _ d1 a b) h0
      · rw [hm, hVe]
        exact hsz n (by omega) b
end
end DW

/-! Pr26: a case of the law. -/
namespace DW
open PySem PySem.Spec PyProof.Rows L2 DM
/-- a, b = d, a new list, by way of a tuple -/
theorem sj_asgL (i j : Nat) {X : Cx} {un : Nat} {x y : Str} {a b : Expr} {ρ : List SV} {μ μ1 μ' : List MO} {d1 : PyData} {xs : List PyData} {px py pt pt2 pos : Pos} {kt k2 : Nat} (nd : X.N.Nodup) (h : EV X a ρ μ d1 μ1) (h' : EF X b ρ μ1 xs μ') (hi : X.N[i]? = some x := by kernel_rfl) (hj : X.N[j]? = some y := by kernel_rfl) (hx : locB X.fn X.env.scope x = true := by kernel_rfl) (hy : locB X.fn X.env.scope y = true := by kernel_rfl) (hc : X.calm = true := by kernel_rfl)
    (hs : (assignEach [.Name x px, .Name y py] X.env).map (·.2) = assign (.Name x px) X.env :: (assignEach [.Name y py] X.env).map (·.2) := by kernel_rfl) (hs2 : (assignEach [.Name y py] X.env).map (·.2) = assign (.Name y py) X.env :: (assignEach [] X.env).map (·.2) := by kernel_rfl)
    (hn : (assignEach [.Name x px, .Name y py] X.env).length = 2 := by kernel_rfl) (hst : (assignEach [.Name x px, .Name y py] X.env).findIdx? (·.1) = none := by kernel_rfl)
    (he : starEach [a, b] X.env = (false, eval a X.env) :: starEach [b] X.env := by kernel_rfl) (he2 : starEach [b] X.env = (false, eval b X.env) :: starEach [] X.env := by kernel_rfl)
    (hsw : swapsWithSole [.Tuple [.Name x px, .Name y py] kt pt] (.Tuple [a, b] k2 pt2) pos.line X.env = pure false := by kernel_rfl) (hw : swappedStores [.Tuple [.Name x px, .Name y py] kt pt] (.Tuple [a, b] k2 pt2) X.env = pure none := by kernel_rfl)
    (h1 : (assignEach [.Tuple [.Name x px, .Name y py] kt pt] X.env).map (·.2) = [assign (.Tuple [.Name x px, .Name y py] kt pt) X.env] := by kernel_rfl) :
    SJ X un (.Assign [.Tuple [.Name x px, .Name y py] kt pt] (.Tuple [a, b] k2 pt2) pos) ρ μ (.nx ((ρ.set i (.d d1)).set j (.h μ'.length)) (μ' ++ [.l xs])) := .mk fun B F H σ as R hW D q => by
  refine wpS_of (ps_asg (pe_tup (pa_cons (peW (e := a)) (pa_cons (peW (e := b)) pa_nil he2) he)) (pg_tup hc (pgs_cons (pg_name nd hi (locB_loc hx) (locB_fn hx)) (pgs_cons (pg_name nd hj (locB_loc hy) (locB_fn hy)) pgs_nil hs2) hs) hn hst) hsw hw h1) ?_
  exact h.run B F H σ as R _ fun v F1 H1 R1 g1 e1 => h'.run B F1 H1 σ as R1 _ fun p vs F2 H2 R2 g2 k1 k2 k3 k4 => ⟨by rw [sizeLine_eq]; show 2 ≤ _; decide, fun T hT =>
    ⟨T, [v, .ref p], rfl, .inl (.inl upd_same), rfl, v, _, rfl, .ref p, _, rfl, rfl, q F2 _ _ _ ((SR.ownl (R1.store e1) (R2.store (e1.up g2.ff)) k1 k2 k3 k4).up (same_new hT)) (List.prefix_append _ _)⟩⟩
/-! ### the form of a part is one -/
theorem blank_ok {s : Src} (hs : SrcOk s) : MomOk (blankM s) := by
  cases s with
  | nil => exact ⟨Nat.zero_le _, by simp [blankM]⟩
  | cons p s =>
    have h := (hs.row p List.mem_cons_self).len
    refine ⟨by show (List.replicate _ _).length ≤ 2; rw [List.length_replicate]; exact h, fun n hn => ?_⟩
    have : n = 0 := List.eq_of_mem_replicate hn
    omega
theorem or_ok {a b : Mom} (ha : MomOk a) (hb : MomOk b) : MomOk (orM a b) := by
  unfold orM
  split
  · exact ha
  · exact hb
theorem pows_ok {full : Fac} {b : Mom} (hf : ∀ m ∈ full, MomOk m) (hb : MomOk b) : ∀ (ps : List (Nat × Nat)) (a : Fac), (∀ m ∈ a, MomOk m) → ∀ m ∈ ps.foldl (putM full b) a, MomOk m
  | [], a, h => h
  | p :: ps, a, h => by
    refine pows_ok hf hb ps _ fun m hm => ?_
    rcases List.mem_or_eq_of_mem_set hm with e | e
    · exact h m e
    · rw [e]
      refine or_ok ?_ hb
      by_cases hi : p.2 < full.length
      · exact hf _ (mem_getD hi)
      · rw [List.getD_eq_getElem?_getD, List.getElem?_eq_none (by omega)]
        exact ⟨Nat.zero_le _, by simp⟩
theorem partP_mom {w : Wish} (hw : W0 w) {s : Src} (hs : SrcOk s) (k : Nat) : ∀ p ∈ partP w s k, ∀ m ∈ p.1, MomOk m := by
  intro p hp
  obtain ⟨j, hj, hp⟩ := List.mem_flatMap.mp hp
  obtain ⟨lot, hl, hp⟩ := List.mem_flatMap.mp hp
  obtain ⟨q, hq, rfl⟩ := List.mem_map.mp hp
  obtain ⟨r, hr, hq⟩ := List.mem_flatMap.mp hq
  obtain ⟨im, hi, rfl⟩ := List.mem_map.mp hq
  refine pows_ok (fun m hm => ?_) (blank_ok hs) _ _ fun m hm => ?_
  · have := fill_small hw hr m hm
    exact ⟨this.1, fun n hn => by have := this.2 n hn; omega⟩
  · rw [List.eq_of_mem_replicate hm]
    exact blank_ok hs
theorem partF_ok {w : Wish} (hw : W0 w) {s : Src} (hs : SrcOk s) {k : Nat} (hk : k ≤ deg w) : FormOk (partF w s k) := by
  have hl : (partP w s k).length ≤ 60 := by
    have h2 : (partP w s k).length ≤ (List.range (k + 1)).length * 20 := partP_len hw s hk (pre := List.range (k + 1)) fun m hm => by have := List.mem_range.mp hm; omega
    rw [List.length_range] at h2
    have := hw.deg
    omega
  refine ⟨Nat.le_trans (gath_len _) (by omega), fun p hp => ?_, fun p hp => ?_⟩
  · obtain ⟨⟨q, h1, h2⟩, _⟩ := gath_mem hp
    rw [← h2]
    exact partP_mom hw hs k q h1
  · rw [(gath_mem hp).2]
    exact ((gval_fit (partP_fit hw hs hk) p.1).fit (Nat.le_trans hl (by decide))).mono (by decide)
/-! ### drawn rows -/
def rowsR (s : Src) (k : Nat) (u : Urn) : List Row × Urn := runL (fun _ u => (s.getD (takeN u s.length) ([], 0)).1) (fun _ u => takeS u s.length) (List.range k) u
theorem rowsR_len (s : Src) (k : Nat) (u : Urn) : (rowsR s k u).1.length = k := by
  unfold rowsR
  rw [runL_len, List.length_range]
theorem rowsR_ok {s : Src} {k N : Nat} {u : Urn} (h : UrnOk N u) : UrnOk (N + k) (rowsR s k u).2 := by
  have := runL_ok (f := fun (_ : Nat) u => (s.getD (takeN u s.length) ([], 0)).1) (d := 1) (g := fun (_ : Nat) u => takeS u s.length) (fun _ N u h => h.take _) (List.range k) N u h
  rw [List.length_range, Nat.one_mul] at this
  exact this
theorem rowsR_row {s : Src} (hs : SrcOk s) (hne : s ≠ []) (k : Nat) (u : Urn) : ∀ r ∈ (rowsR s k u).1, RowOk r := by
  refine runL_all (fun _ v => ?_) _ _
  have hi := takeN_lt v (n := s.length) (List.length_pos_iff.mpr hne)
  refine hs.row _ ?_
  rw [List.getD_eq_getElem?_getD, List.getElem?_eq_getElem hi]
  exact List.getElem_mem hi
def caseU (w : Wish) (s : Src) (u : Urn) : Urn := takeS (takeS (takeS (rowsR s (takeN u (deg w + 1)) (takeS u (deg w + 1))).2 2) 30) 3
theorem ls_rd (n : Nat) (q : Rat) : Ls (n + 1) (rd q) := ls_tup (by show 2 ≤ 1000; decide) fun d hd => by
  rcases List.mem_cons.mp hd with e | hd
  · rw [e]; exact ls_int _ _
  · rcases List.mem_cons.mp hd with e | hd
    · rw [e]; exact ls_int _ _
    · cases hd
theorem ls_rds (n : Nat) {xs : List Rat} (h : xs.length ≤ 1000) : Ls (n + 2) (.list (xs.map rd)) := ls_lst (by rw [List.length_map]; exact h) fun d hd => by
  obtain ⟨q, _, rfl⟩ := List.mem_map.mp hd
  exact ls_rd n q
section
variable {P : Program} {w : World} {K : PySem.W.Frag} {mg : Str → Option Value} {base : Heap}
def R_case (us ds : List PyData) (d : PyData) (us' : List PyData) : Prop := ∃ (u : Urn) (N c : Nat) (w : Wish) (s : Src), us = eU u ∧ UrnOk N u ∧ N ≤ 950 ∧ ds = [eW w, eS s] ∧ W1 c w ∧ Src1 c s ∧ d = .bool true ∧ us' = eU (caseU w s u)
theorem ok_law_case (D : Df K mg "_law_case_right" s__law_case_right) (G1 : Fn P w K mg base 1 "_law_take" (spU K R_take)) (G2 : Fn P w K mg base 2 "_law_of" (spU K R_of)) (Gd : Fn P w K mg base 1 "_law_degree" (spP K R_degree)) (Gw : Fn P w K mg base 3 "_law_drawings" (spP K R_draws)) (Gp : Fn P w K mg base 5 "_law_part" (spP K R_lpart)) (Gm : Fn P w K mg base 2 "_law_mul" (spP K (R_two (· * ·)))) (Gs : Fn P w K mg base 3 "_law_sum" (spP K R_sum))
    (Ge : ∀ n, Fn P w K mg base (n + 1) "_law_same" (spP K (R_same n))) (Gla : Fn P w K mg base 8 "layers_at" (spL K R_laysAt)) (Gv : Fn P w K mg base 5 "_law_worth" (spP K R_wishVal)) (Gly : Fn P w K mg base 8 "layer" (spP K (R_lay 1))) (Gh : Fn P w K mg base 6 "shared_mean" (spP K R_shMean)) (Gb : Fn P w K mg base 4 "_law_both" (spP K R_lboth)) (Gf : Fn P w K mg base 3 "_law_form" (spP K R_form)) (Gpf : Fn P w K mg base 8 "part_form" (spP K R_part))
    (Glo : Fn P w K mg base 1 "_law_low" (spP K R_fraction)) (Gch : Fn P w K mg base 1 "_law_choose" (spP K R_choose)) (Gsp : Fn P w K mg base 6 "_law_spread" (spP K R_lspread)) (Gls : Fn P w K mg base 3 "layer_shares" (spL K R_layShares)) (Gbs : Fn P w K mg base 8 "best_spread" (spP K R_best)) (Gen : Fn P w K mg base 10 "_law_enough_right" (spU K R_enr)) (m1 : mg "range" = none) (m2 : mg "tuple" = none) (m3 : mg "zip" = none) : Fn P w K mg base 11 "_law_case_right" (spU K R_case) := by
  refine fn_urn (k := 10) D sc__law_case_right ?_ (fun _ _ _ _ _ _ us hl => match us, hl with | [_, _, _], _ => by kernel_rfl) ?_
  · rintro us ds d us' ⟨a, b, c, e, g, _, _, _, rfl, _⟩
    rfl
  · rintro f cdv A outer s H E us ds d us' hr ⟨u, N, c, w, src, rfl, hu, hN, rfl, hW, hS, rfl, rfl⟩
    have hw := hW.ok
    have hs := hS.ok
    have hd := hw.deg
    have hV := vals_ok hW hS
    have hVl := hV.len
    have hk := takeN_lt u (n := deg w + 1) (by omega)
    have hu1 := hu.take (deg w + 1)
    have hlay : ∀ i, i < deg w → wishVal src (layW w (i + 1)) = sqV w src (i + 1) := fun i hi => law_layers hW hS.tot (by omega) (by omega)
    have hval : layVals w src = (List.range (deg w)).map fun i => wishVal src (layW w (i + 1)) := rfl
    have hshared := law_shared hW hS.tot (k := takeN u (deg w + 1)) (by omega)
    have hcase : caseU w src u = takeS (takeS (takeS (rowsR src (takeN u (deg w + 1)) (takeS u (deg w + 1))).2 2) 30) 3 := rfl
    generalize hke : takeN u (deg w + 1) = k at *
    have hrl := rowsR_len src k (takeS u (deg w + 1))
    have hru := rowsR_ok (s := src) (k := k) hu1
    have hrr := rowsR_row hs hS.ne k (takeS u (deg w + 1))
    have hparts := law_parts hW hS.tot (rows := (rowsR src k (takeS u (deg w + 1))).1) hrl (by omega)
    generalize hR : (rowsR src k (takeS u (deg w + 1))).1 = rows at *
    generalize hV2 : (rowsR src k (takeS u (deg w + 1))).2 = v at *
    have ht2 := takeN_lt v (n := 2) (by decide)
    have hsp := law_spread hW hS.tot (n := deg w + takeN v 2) (by omega) (by omega)
    have hbs := best_val src w (deg w + takeN v 2)
    have hcaseU : caseU w src u = takeS (takeS (takeS v 2) 30) 3 := hcase
    generalize ht : takeN v 2 = t at *
    have hsz := (hV.sz (n := deg w + t) (by omega) (by omega))
    let C : List SV := [.h 0, .d (eW w), .d (eS src), .d (.int (deg w))]
    let Dd : List MO := .dead :: List.replicate (deg w) .dead
    let V : List Rat := layVals w src
    have hlV : V.length ≤ 1000 := by show (layVals w src).length ≤ 1000; omega
    let C4 : List SV := C ++ ([.d (.list (V.map rd))] : List SV)
    have es : (List.range (deg w)).map (fun i => rd (shareN (deg w) (deg w + t) (i + 1))) = (sharesL (deg w) (deg w + t)).map rd := by
      unfold sharesL
      rw [List.map_map]
      rfl
    have hshl : (sharesL (deg w) (deg w + t)).length ≤ 1000 := by
      unfold sharesL
      rw [List.length_map, List.length_range]
      omega
    refine ⟨.l (eU (caseU w src u)) :: Dd, rfl, bj_cons (ρ1 := C ++ ([.h 1, .u, .u, .u, .u, .u, .u, .u, .u, .u, .u, .u, .u] : List SV)) (μ1 := [.l (eU u), .l []]) ?_
      (bj_cons (ρ1 := C ++ ([.h 1, .u, .u, .u, .u, .u, .u, .u, .u, .u, .u, .u, .u] : List SV)) (μ1 := .l (eU u) :: .l (V.map rd) :: List.replicate (deg w) .dead) ?_
      (bj_freeze 1 (by decide) (xs := V.map rd) rfl (bj_eq2 (ρ' := C4 ++ ([.u, .u, .u, .u, .u, .u, .u, .u, .u, .u, .u, .u] : List SV)) (μ' := .l (eU u) :: Dd) rfl rfl
      (bj_cons (ρ1 := C4 ++ ([.u, .u, .u, .u, .u, .u, .u, .u, .u, .u, .u, .u] : List SV)) (μ1 := .l (eU u) :: Dd) (sj_if (k := !true) (tv_not (tv_b ?_)) (fun z => by cases z) (fun _ => bj_nil))
      (bj_cons (ρ1 := C4 ++ ([.u, .u, .u, .u, .u, .u, .u, .u, .u, .u, .u, .u] : List SV)) (μ1 := .l (eU u) :: Dd) (sj_if (k := !true) (tv_not (tv_b ?_)) (fun z => by cases z) (fun _ => bj_nil))
      (bj_cons (ρ1 := C4 ++ ([.d (.int k), .u, .u, .u, .u, .u, .u, .u, .u, .u, .u, .u] : List SV)) (μ1 := .l (eU (takeS u (deg w + 1))) :: Dd) ?_
      (bj_cons (ρ1 := C4 ++ ([.d (.int k), .u, .u, .u, .u, .u, .u, .u, .u, .u, .u, .u] : List SV)) (μ1 := .l (eU (takeS u (deg w + 1))) :: Dd) (sj_if (k := !true) (tv_not (tv_b ?_)) (fun z => by cases z) (fun _ => bj_nil))
      (bj_cons (ρ1 := C4 ++ ([.d (.int k), .u, .d (eRs rows), .u, .u, .u, .u, .u, .u, .u, .u, .u] : List SV)) (μ1 := .l (eU v) :: Dd) ?_
      (bj_cons (ρ1 := C4 ++ ([.d (.int k), .u, .d (eRs rows), .u, .u, .u, .u, .u, .u, .u, .u, .u] : List SV)) (μ1 := .l (eU v) :: Dd) (sj_if (k := !true) (tv_not (tv_b ?_)) (fun z => by cases z) (fun _ => bj_nil))
      (bj_cons (ρ1 := C4 ++ ([.d (.int k), .u, .d (eRs rows), .u, .u, .d (.int (deg w + t : Nat)), .u, .u, .u, .u, .u, .u] : List SV)) (μ1 := .l (eU (takeS v 2)) :: Dd) ?_
      (bj_cons (ρ1 := C4 ++ ([.d (.int k), .u, .d (eRs rows), .u, .u, .d (.int (deg w + t : Nat)), .d (.list ((sharesL (deg w) (deg w + t)).map rd)), .u, .u, .u, .u, .u] : List SV)) (μ1 := .l (eU (takeS v 2)) :: Dd) ?_
      (bj_cons (ρ1 := C4 ++ ([.d (.int k), .u, .d (eRs rows), .u, .u, .d (.int (deg w + t : Nat)), .d (.list ((sharesL (deg w) (deg w + t)).map rd)), .d (rd (spV (deg w) (deg w + t) V)), .u, .u, .u, .u] : List SV)) (μ1 := .l (eU (takeS v 2)) :: Dd) ?_
      (bj_cons (ρ1 := C4 ++ ([.d (.int k), .u, .d (eRs rows), .u, .u, .d (.int (deg w + t : Nat)), .d (.list ((sharesL (deg w) (deg w + t)).map rd)), .d (rd (spV (deg w) (deg w + t) V)), .d (.list [.list ((sharesL (deg w) (deg w + t)).map rd), rd (spV (deg w) (deg w + t) V)]), .u, .u, .u] : List SV)) (μ1 := .l (eU (takeS v 2)) :: Dd) ?_
      (bj_cons (ρ1 := C4 ++ ([.d (.int k), .u, .d (eRs rows), .u, .u, .d (.int (deg w + t : Nat)), .d (.list ((sharesL (deg w) (deg w + t)).map rd)), .d (rd (spV (deg w) (deg w + t) V)), .d (.list [.list ((sharesL (deg w) (deg w + t)).map rd), rd (spV (deg w) (deg w + t) V)]), .u, .u, .u] : List SV)) (μ1 := .l (eU (takeS v 2)) :: Dd) (sj_if (k := !true) (tv_not (tv_b ?_)) (fun z => by cases z) (fun _ => bj_nil))
      (bj_cons (ρ1 := C4 ++ ([.d (.int k), .u, .d (eRs rows), .u, .u, .d (.int (deg w + t : Nat)), .d (.list ((sharesL (deg w) (deg w + t)).map rd)), .d (rd (spV (deg w) (deg w + t) V)), .d (.list [.list ((sharesL (deg w) (deg w + t)).map rd), rd (spV (deg w) (deg w + t) V)]), .u, .u, .u] : List SV)) (μ1 := .l (eU (takeS v 2)) :: Dd) (sj_if (k := false) ?_ (fun z => by cases z) (fun _ => bj_nil))
      (bj_one (sj_ret (d := .bool true) ?_)))))))))))))))))⟩
    · exact sj_asgL 3 4 sc__law_case_right.nd (ev_call Gd hr (av_cons (ev_name 1 rfl) av_nil) ⟨w, rfl, hw.l3, rfl⟩) (ef_lst av_nil)
    · -- the values of the layers
      have er : rangeD 1 (((deg w : Int) + 1) - 1).toNat = (List.range (deg w)).map fun i => eN (i + 1) := by
        rw [show ((deg w : Int) + 1 - 1).toNat = deg w by omega]
        exact rng1 _
      refine sj_eq (sj_for (iv_eq (iv_range2 m1 (av_cons ev_int (av_cons (ev_add (ev_name 3 rfl) ev_int) av_nil)) ⟨by omega, by omega, by omega, by omega⟩) er) (for_preS (fun i => eN (i + 1)) (fun _ => C ++ ([.h 1, .u, .u, .u, .u, .u, .u, .u, .u, .u, .u, .u, .u] : List SV)) (fun pre => .l (eU u) :: .l ((pre.map fun i => wishVal src (layW w (i + 1))).map rd) :: List.replicate pre.length .dead) (List.range (deg w)) rfl rfl fun pre j suf e => ?_)) ?_
      · obtain ⟨rfl, hj⟩ := range_split e
        have hB := sq_sum hw hs (k := j + 1) (by omega)
        have hSz := sum_sz hB.1 (by decide) hB.2
        have hmem := fun q (hq : q ∈ draws src (j + 1)) => draws_mem hs (j + 1) q hq
        have hlen := draws_81 hs (n := j + 1) (by omega)
        have hlj := hlay j hj
        rw [sqV_eq] at hlj
        rw [List.map_append, List.map_singleton, List.length_append, List.length_singleton, List.length_range, hlj]
        generalize hLd : (List.range j).map (fun i => wishVal src (layW w (i + 1))) = L
        have hLl : L.length = j := by rw [← hLd, List.length_map, List.length_range]
        let A : MO := .l (L.map rd)
        refine ⟨[5], C ++ ([.h 1, .d (eN (j + 1)), .u, .u, .u, .u, .u, .u, .u, .u, .u, .u, .u] : List SV), C ++ ([.h 1, .d (eN (j + 1)), .d (.list (((draws src (j + 1)).map (sqT w src)).map rd)), .u, .u, .u, .u, .u, .u, .u, .u, .u, .u] : List SV), gv_name 5 sc__law_case_right.nd,
          bj_cons (ρ1 := C ++ ([.h 1, .d (eN (j + 1)), .h (j + 2), .u, .u, .u, .u, .u, .u, .u, .u, .u, .u] : List SV)) (μ1 := M3 (.l (eU u)) A j []) (sj_eq (sj_own 6 sc__law_case_right.nd (ef_lst av_nil)) ?_)
          (bj_cons (ρ1 := C ++ ([.h 1, .d (eN (j + 1)), .h (j + 2), .u, .u, .u, .u, .u, .u, .u, .u, .u, .u] : List SV)) (μ1 := M3 (.l (eU u)) A j (((draws src (j + 1)).map (sqT w src)).map rd)) ?_
          (bj_freeze (j + 2) (by omega) (m3_get _ _ _ _) (bj_eq2 (ρ' := C ++ ([.h 1, .d (eN (j + 1)), .d (.list (((draws src (j + 1)).map (sqT w src)).map rd)), .u, .u, .u, .u, .u, .u, .u, .u, .u, .u] : List SV)) (μ' := .l (eU u) :: A :: List.replicate (j + 1) .dead) ?_ ?_
          (bj_one (sj_eq (sj_append 4 (xs := L.map rd) (ys := L.map rd) (μ1 := .l (eU u) :: A :: List.replicate (j + 1) .dead) rfl (d := rd (rsum ((draws src (j + 1)).map (sqT w src)))) ?_ rfl rfl ?_) ?_))))), ?_⟩
        · rw [m3_len]
          rfl
        · refine sj_for (iv_list (ev_call Gw hr (av_cons (ev_name 2 rfl) (av_cons (ev_name 5 rfl) av_nil)) ⟨src, j + 1, rfl, hs, by omega, rfl⟩)) (for_preS eD (fun _ => C ++ ([.h 1, .d (eN (j + 1)), .h (j + 2), .u, .u, .u, .u, .u, .u, .u, .u, .u, .u] : List SV)) (fun pre => M3 (.l (eU u)) A j ((pre.map (sqT w src)).map rd)) (draws src (j + 1)) rfl rfl fun pre q suf2 e2 => ?_)
          have hq : q ∈ draws src (j + 1) := by rw [e2]; simp
          obtain ⟨a1, a2, a3⟩ := hmem q hq
          have hpf := partV_fit hw hs a2 (by omega)
          have hpl : pre.length ≤ 81 := by
            have := congrArg List.length e2
            rw [List.length_append, List.length_cons] at this
            omega
          refine ⟨[7, 8], C ++ ([.h 1, .d (eN (j + 1)), .h (j + 2), .d (eRs q.1), .d (rd q.2), .u, .u, .u, .u, .u, .u, .u, .u] : List SV), C ++ ([.h 1, .d (eN (j + 1)), .h (j + 2), .d (eRs q.1), .d (rd q.2), .d (rd (partV w src q.1)), .u, .u, .u, .u, .u, .u, .u] : List SV), gv_pair 7 8 sc__law_case_right.nd,
            bj_cons (ρ1 := C ++ ([.h 1, .d (eN (j + 1)), .h (j + 2), .d (eRs q.1), .d (rd q.2), .d (rd (partV w src q.1)), .u, .u, .u, .u, .u, .u, .u] : List SV)) (μ1 := M3 (.l (eU u)) A j ((pre.map (sqT w src)).map rd)) (sj_set 9 sc__law_case_right.nd (ev_call Gp hr (av_cons (ev_name 1 rfl) (av_cons (ev_name 2 rfl) (av_cons (ev_name 7 rfl) av_nil))) ⟨w, src, q.1, rfl, hw, hs, a2, by omega, rfl⟩))
              (bj_one (sj_eq (sj_append 6 (xs := (pre.map (sqT w src)).map rd) (ys := (pre.map (sqT w src)).map rd) (μ1 := M3 (.l (eU u)) A j ((pre.map (sqT w src)).map rd)) rfl (d := rd (sqT w src q)) ?_ (m3_get _ _ _ _) (m3_get _ _ _ _) ?_) ?_)), ?_⟩
          · exact ev_call Gm hr (av_cons (ev_name 8 rfl) (av_cons (ev_call Gm hr (av_cons (ev_name 9 rfl) (av_cons (ev_name 9 rfl) av_nil)) ⟨partV w src q.1, partV w src q.1, rfl, sz_of hpf (by decide), sz_of hpf (by decide), rfl⟩) av_nil)) ⟨q.2, _, rfl, sz_of a3 (by omega), sz_of (hpf.mul hpf) (by decide), rfl⟩
          · rw [List.length_map, List.length_map]; omega
          · rw [m3_set, List.map_append, List.map_append]
            rfl
          · exact .keep (.keep (.keep (.keep (.keep (.keep (.keep (.drop (.drop (.drop (.keep (.keep (.keep (.keep (.keep (.keep (.keep .nil))))))))))))))))
        · have e5 : ∀ xs, frz (j + 2) xs (.h (j + 2)) = .d (.list xs) := fun xs => if_pos rfl
          have e6 : ∀ xs, frz (j + 2) xs (.h 0) = .h 0 := fun xs => by show (if 0 = j + 2 then SV.d (.list xs) else SV.h 0) = _; rw [if_neg (by omega)]
          have e7 : ∀ xs, frz (j + 2) xs (.h 1) = .h 1 := fun xs => by show (if 1 = j + 2 then SV.d (.list xs) else SV.h 1) = _; rw [if_neg (by omega)]
          show [frz (j + 2) _ (.h 0), _, _, _, frz (j + 2) _ (.h 1), _, frz (j + 2) _ (.h (j + 2)), _, _, _, _, _, _, _, _, _, _] = _
          rw [e5, e6, e7]
          rfl
        · rw [m3_set, mm_dead]
        · exact ev_call Gs hr (av_cons (ev_name 6 rfl) av_nil) ⟨(draws src (j + 1)).map (sqT w src), rfl, hSz.1, hSz.2, rfl⟩
        · rw [List.length_map]; omega
        · rw [List.map_append]
          rfl
        · exact .keep (.keep (.keep (.keep (.keep (.drop (.drop (.keep (.keep (.keep (.keep (.keep (.keep (.keep (.keep (.keep (.keep .nil))))))))))))))))
      · show Rs.nx _ (.l (eU u) :: .l (V.map rd) :: List.replicate (List.range (deg w)).length .dead) = _
        rw [List.length_range]
    · exact ev_call (Ge 2) hr (av_cons (ev_of_ef (ef_call Gla hr (av_cons (ev_name 1 rfl) (av_cons (ev_name 2 rfl) av_nil)) ⟨w, src, rfl, hw, hs, rfl⟩)) (av_cons (ev_name 4 rfl) av_nil)) ⟨_, rfl, ls_rds 0 hlV, rfl⟩
    · refine ev_call (Ge 2) hr (av_cons (ev_of_ef (ef_eq (d' := V.map rd) (ef_lc (own := [("_law_k", 5)]) sc__law_case_right.nd (iv_eq (iv_range m1 (ev_name 3 rfl) (by omega) (by omega)) (rng0 (deg w))) (blkOk_by (by kernel_rfl)) (lc_all (own := [5]) eN (fun i => rd (wishVal src (layW w (i + 1)))) (fun i => C4 ++ ([.d (eN i), .u, .u, .u, .u, .u, .u, .u, .u, .u, .u, .u] : List SV)) (is := [5]) (by simp) (List.range (deg w)) (fun z hz s H C cl fp => gv_name 5 sc__law_case_right.nd) (fun z hz s H C cl fp => ?_)) ?_) ?_)) (av_cons (ev_name 4 rfl) av_nil)) ⟨_, rfl, ls_rds 0 hlV, rfl⟩
      · have hz' := List.mem_range.mp hz
        exact ev_call Gv hr (av_cons (ev_call Gly hr (av_cons (ev_name 1 rfl) (av_cons (ev_eq (d' := .int (z + 1 : Nat)) (ev_add (ev_name 5 rfl) ev_int) rfl) av_nil)) ⟨w, z + 1, rfl, hw, by omega, by omega, rfl⟩) (av_cons (ev_name 2 rfl) av_nil)) ⟨layW w (z + 1), src, 13, rfl, (layW_ok hw (by omega)).ok (by decide), hs, by decide, rfl⟩
      · rw [List.length_map, List.length_range]; omega
      · show _ = (layVals w src).map rd
        rw [hval, List.map_map]
        rfl
    · exact sj_set 5 sc__law_case_right.nd (ev_callV 0 G1 hr rfl (av_cons (ev_eq (d' := .int (deg w + 1 : Nat)) (ev_add (ev_name 3 rfl) ev_int) rfl) av_nil) rfl ⟨u, N, deg w + 1, rfl, hu, by omega, rfl, by omega, by omega, by rw [hke], rfl⟩ rfl)
    · exact ev_call (Ge 1) hr (av_cons (ev_call Gv hr (av_cons (ev_call Gh hr (av_cons (ev_name 1 rfl) (av_cons (ev_name 5 rfl) av_nil)) ⟨w, k, rfl, hw, by omega, rfl⟩) (av_cons (ev_name 2 rfl) av_nil)) ⟨sharedW w k, src, 4, rfl, (sharedW_ok hw (by omega)).ok (by decide), hs, by decide, rfl⟩) (av_cons (ev_call Gb hr (av_cons (ev_name 1 rfl) (av_cons (ev_name 2 rfl) (av_cons (ev_name 5 rfl) av_nil))) ⟨w, src, k, rfl, hw, hs, by omega, rfl⟩) av_nil)) ⟨rd (bothV w src k), by rw [hshared], ls_rd 0 _, rfl⟩
    · refine sj_set 7 sc__law_case_right.nd (ev_eq (d' := eRs rows) (ev_tupleL m2 (lv_of_ef (ef_lc (own := [("_law_lap", 15)]) (μ2 := .l (eU v) :: Dd) sc__law_case_right.nd (iv_eq (iv_range m1 (ev_name 5 rfl) (by omega) (by omega)) (rng0 k)) (blkOk_by (by kernel_rfl)) (rs := (rowsR src k (takeS u (deg w + 1))).1.map eR) ?_ ?_))) ?_)
      · rw [← hV2]
        refine lc_run (own := [15]) eN (fun _ u => (src.getD (takeN u src.length) ([], 0)).1) eR (fun _ u => takeS u src.length) (fun u => .l (eU u) :: Dd) UrnOk 1 990 (fun i => C4 ++ ([.d (.int k), .u, .u, .u, .u, .u, .u, .u, .u, .u, .d (eN i), .u] : List SV)) (is := [15]) (by simp) (List.range k) (takeS u (deg w + 1)) (N + 1) hu1 (by rw [List.length_range]; omega) (fun z hz s H C cl fp => gv_name 15 sc__law_case_right.nd) (fun z hz L y hy hL => ⟨hy.take _, fun s H C cl fp => ?_⟩)
        have hi := takeN_lt y (n := src.length) (List.length_pos_iff.mpr hS.ne)
        have hsl := hs.len
        exact ev_ixT (ds := [eR (src.getD (takeN y src.length) ([], 0)).1, rd (src.getD (takeN y src.length) ([], 0)).2]) (ev_callV 0 G2 hr rfl (av_cons (ev_name 2 rfl) av_nil) rfl ⟨y, L, src.map eQ, _, rfl, hy, by omega, rfl, .inr rfl, by rw [List.length_map]; omega, by rw [List.length_map]; omega, by rw [List.length_map]; exact getD_at eQ src _ ([], 0) hi, by rw [List.length_map]⟩ rfl) ev_int rfl
      · rw [List.length_map, rowsR_len]; omega
      · rw [hR]
    · exact ev_call (Ge 1) hr (av_cons (ev_call Gf hr (av_cons (ev_call Gpf hr (av_cons (ev_name 1 rfl) (av_cons (ev_name 2 rfl) (av_cons (ev_name 5 rfl) av_nil))) ⟨w, src, k, rfl, hw, hs, hS.ne, by omega, rfl⟩) (av_cons (ev_name 7 rfl) av_nil)) ⟨partF w src k, rows, rfl, partF_ok hw hs (by omega), ⟨by omega, hrr⟩, rfl⟩) (av_cons (ev_call Gp hr (av_cons (ev_name 1 rfl) (av_cons (ev_name 2 rfl) (av_cons (ev_name 7 rfl) av_nil))) ⟨w, src, rows, rfl, hw, hs, hrr, by omega, rfl⟩) av_nil)) ⟨rd (partV w src rows), by rw [hparts], ls_rd 0 _, rfl⟩
    · have hvu : UrnOk (N + 1 + k) v := hru
      exact sj_set 10 sc__law_case_right.nd (ev_eq (d := .int ((deg w : Int) + (t : Int))) (ev_add (ev_name 3 rfl) (ev_callV 0 G1 hr rfl (av_cons ev_int av_nil) rfl ⟨v, N + 1 + k, 2, rfl, hvu, by omega, rfl, by decide, by decide, by rw [ht], rfl⟩ rfl)) (congrArg PyData.int (Int.natCast_add _ _).symm))
    · refine sj_eq (sj_setLc 11 (own := [("_law_j", 14)]) sc__law_case_right.nd (iv_eq (iv_range m1 (ev_name 3 rfl) (by omega) (by omega)) (rng0 (deg w))) (blkOk_by (by kernel_rfl)) (lc_all (own := [14]) eN (fun i => rd (shareN (deg w) (deg w + t) (i + 1))) (fun i => C4 ++ ([.d (.int k), .u, .d (eRs rows), .u, .u, .d (.int (deg w + t : Nat)), .u, .u, .u, .d (eN i), .u, .u] : List SV)) (is := [14]) (by simp) (List.range (deg w)) (fun z hz s H C cl fp => gv_name 14 sc__law_case_right.nd) (fun z hzz s H C cl fp => ?_)) ?_) ?_
      · have hz' := List.mem_range.mp hzz
        obtain ⟨c1, c2, _, _⟩ := cp_small (d := deg w) (k := z + 1) hd (by omega)
        obtain ⟨c3, c4⟩ := comb_le (n := deg w + t) (k := z + 1) (by omega) (by omega) (by omega)
        refine ev_call Glo hr (av_cons (ev_pow ?_ (ev_call Gch hr (av_cons (ev_name 3 rfl) (av_cons (ev_eq (d' := .int (z + 1 : Nat)) (ev_add (ev_name 14 rfl) ev_int) rfl) av_nil)) ⟨deg w, z + 1, rfl, by omega, by omega, by omega, rfl⟩) ev_int) (av_cons (ev_call Gch hr (av_cons (ev_name 10 rfl) (av_cons (ev_eq (d' := .int (z + 1 : Nat)) (ev_add (ev_name 14 rfl) ev_int) rfl) av_nil)) ⟨deg w + t, z + 1, rfl, by omega, by omega, by omega, rfl⟩) av_nil)) ⟨_, _, rfl, c3, ?_, rfl⟩
        · exact ⟨by decide, by decide, by omega⟩
        · have h2 : (2 : Nat) ^ 20 ≤ 2 ^ 8999 := Nat.pow_le_pow_right (by decide) (by decide)
          omega
      · rw [List.length_map, List.length_range]; omega
      · rw [es]
        rfl
    · exact sj_set 12 sc__law_case_right.nd (ev_eq (ev_call Gsp hr (av_cons (ev_name 1 rfl) (av_cons (ev_name 2 rfl) (av_cons (ev_name 10 rfl) av_nil))) ⟨w, src, deg w + t, rfl, hw, hs, by omega, by omega, rfl⟩) (by rw [hsp]))
    · refine sj_set 13 sc__law_case_right.nd (ev_of_ef (ef_lst (av_cons (ev_of_ef (ef_call Gls hr (av_cons (ev_name 1 rfl) (av_cons (ev_name 10 rfl) av_nil)) ⟨w, deg w + t, rfl, hw, by omega, by omega, rfl⟩)) (av_cons (ev_eq (d' := rd (spV (deg w) (deg w + t) V)) (ev_call Gv hr (av_cons (ev_call Gbs hr (av_cons (ev_name 1 rfl) (av_cons (ev_name 10 rfl) av_nil)) ⟨w, deg w + t, rfl, hw, by omega, by omega, rfl⟩) (av_cons (ev_name 2 rfl) av_nil)) ⟨bestS w (deg w + t), src, 22, rfl, (bestS_ok hw (by omega) (by omega)).ok (by decide), hs, by decide, rfl⟩) (by rw [hbs])) av_nil))))
    · refine ev_call (Ge 3) hr (av_cons (ev_name 13 rfl) (av_cons (ev_of_ef (ef_lst (av_cons (ev_name 11 rfl) (av_cons (ev_name 12 rfl) av_nil)))) av_nil)) ⟨_, rfl, ls_lst (by show 2 ≤ 1000; decide) fun d hd => ?_, rfl⟩
      rcases List.mem_cons.mp hd with e | hd
      · rw [e]; exact ls_rds 0 hshl
      · rcases List.mem_cons.mp hd with e | hd
        · rw [e]; exact ls_rd 1 _
        · cases hd
    · have ez : (((sharesL (deg w) (deg w + t)).map rd).zip (V.map rd)).map (fun p => pairD p.1 p.2) = ((sharesL (deg w) (deg w + t)).zip V).map fun p => pairD (rd p.1) (rd p.2) := by
        rw [List.zip_map, List.map_map]
        rfl
      have el : ((sharesL (deg w) (deg w + t)).zip V).map (fun p => rd (p.1 * p.2)) = (spList (deg w) (deg w + t) V).map rd := by
        unfold spList
        rw [List.map_map]
        rfl
      refine tv_eq (tv_cmp (op_neD (by have := room100 hr; exact Nat.lt_of_le_of_lt (Nat.add_le_add_left (by decide) _) this)) (ov_neD (d1 := rd (spV (deg w) (deg w + t) V)) (d2 := rd (spV (deg w) (deg w + t) V)) rfl rfl) (ev_name 12 rfl) (ev_call Gs hr (av_cons (ev_of_ef (ef_eq (ef_lc (own := [("_law_share", 16), ("_law_own", 9)]) sc__law_case_right.nd (iv_eq (iv_zipL m3 (av_cons (ev_name 11 rfl) (av_cons (ev_name 4 rfl) av_nil))) ez) (blkOk_by (by kernel_rfl)) (lc_all (own := [16, 9]) (fun p : Rat × Rat => pairD (rd p.1) (rd p.2)) (fun p => rd (p.1 * p.2)) (fun p => C4 ++ ([.d (.int k), .u, .d (eRs rows), .u, .d (rd p.2), .d (.int (deg w + t : Nat)), .d (.list ((sharesL (deg w) (deg w + t)).map rd)), .d (rd (spV (deg w) (deg w + t) V)), .d (.list [.list ((sharesL (deg w) (deg w + t)).map rd), rd (spV (deg w) (deg w + t) V)]), .u, .u, .d (rd p.1)] : List SV)) (is := [16, 9]) (by simp) ((sharesL (deg w) (deg w + t)).zip V) (fun z hz s H C cl fp => ?_) (fun z hz s H C cl fp => ?_)) ?_) el)) av_nil) ⟨spList (deg w) (deg w + t) V, rfl, hsz.1.all, hsz.1.pre, rfl⟩)) (by rw [eqv_rd]; simp)
      · exact gv_pair 16 9 sc__law_case_right.nd
      · exact ev_call Gm hr (av_cons (ev_name 16 rfl) (av_cons (ev_name 9 rfl) av_nil)) ⟨z.1, z.2, rfl, (hsz.1.two z hz).1, (hsz.1.two z hz).2, rfl⟩
      · rw [List.length_map, List.length_zip]
        omega
    · have hvu : UrnOk (N + 1 + k + 1) (takeS v 2) := UrnOk.take (N := N + 1 + k) hru 2
      exact ev_callV 0 Gen hr rfl (av_cons (ev_name 1 rfl) (av_cons (ev_name 2 rfl) (av_cons (ev_name 4 rfl) av_nil))) rfl ⟨takeS v 2, N + 1 + k + 1, c, w, src, rfl, hvu, by omega, rfl, hW, hS, rfl, rfl⟩ (by rw [hcaseU]; rfl)
end
end DW

/-! Pr27: the law by hand, the law. -/
namespace DW
open PySem PySem.Spec PyProof.Rows L2 DM
theorem ev_call0 {X : Cx} {x : Str} {p pos : Pos} {ρ : List SV} {μ : List MO} {d : PyData} {Rl : List PyData → PyData → Prop} {k j : Nat} (G : Fn X.prog X.w X.K X.mg X.base j x (spP X.K Rl)) (hr : Room k X.A) (hR : Rl [] d) (hj : j ≤ k := by decide) (hg : Gl X x := by unfold Gl; kernel_rfl) (hdb : (x == ("__debug__" : Str)) = false := by kernel_rfl) : EV X (.Call (.Name x p) [] [] pos) ρ μ d μ := .mk fun B F H σ as R Q q => by
  obtain ⟨f, fd, ps, h1, h2, h3, h4⟩ := G.ex
  refine wpE_of (pe_call0 h4 (hr.mono hj) hg h1 h2 h3 .nil pass0 hdb) ?_
  exact ⟨F, [], d, R.fh, .nil, hR, fun v F' H' g f' dv => q v F' H' (R.gr0 g f') (Gr.fn Gr.refl g) dv⟩
theorem srcU_ok {c m N : Nat} (hc : c ≤ 2) (hm : m ≤ 3) {u : Urn} (h : UrnOk N u) : UrnOk (N + 9) (srcU c m u) := by
  have h1 := spots_ok (c := c) (m := m) h
  have h2 := runL_ok (f := fun (_ : List Int) u => 1 + ((takeN u 3 : Nat) : Int)) (d := 1) (g := fun (_ : List Int) u => takeS u 3) (fun _ N u h => h.take 3) (spotS c m u) _ _ h1
  have h3 := spotS_len c m u
  have h4 := Nat.mul_le_mul hc hm
  exact h2.mono (by omega)
def mOf (w : Wish) (u : Urn) : Nat := 2 + takeN u 2 / (1 + deg w / 2)
def cOf (u : Urn) : Nat := 1 + takeN u 2
def wOf (u : Urn) : Wish := wishOf (cOf u) (takeS u 2)
def uOf (u : Urn) : Urn := (wishR (cOf u) (takeS u 2)).2
noncomputable def sOf (u : Urn) : Src := srcOf (cOf u) (mOf (wOf u) (uOf u)) (takeS (uOf u) 2)
noncomputable def vOf (u : Urn) : Urn := srcU (cOf u) (mOf (wOf u) (uOf u)) (takeS (uOf u) 2)
noncomputable def rightU (u : Urn) : Urn := caseU (wOf u) (sOf u) (vOf u)
/-! ### by hand -/
def sqW : Wish := [([[1], [1]], 1)]
def coinS : Src := [([0], halfQ), ([1], halfQ)]
theorem sq_ok : W1 1 sqW := by
  have hm : ∀ p ∈ sqW, ∀ m ∈ p.1, m = [1] := fun p hp m hm => by
    have e : p = ([[1], [1]], 1) := by simpa [sqW] using hp
    subst e
    simpa using hm
  refine ⟨⟨by decide, by decide, fun p hp m hmm => ?_, fun p hp => ?_⟩, fun p hp m hmm => ?_⟩
  · rw [hm p hp m hmm]
    exact ⟨by decide, by decide⟩
  · have e : p = ([[1], [1]], 1) := by simpa [sqW] using hp
    rw [e]
    exact fit_one
  · rw [hm p hp m hmm]
    rfl
theorem half_fit : Fit 1 halfQ := fit_dec (by decide +kernel)
theorem coin_ok : Src1 1 coinS := by
  have hc : ∀ q ∈ coinS, q.2 = halfQ ∧ (q.1 = [0] ∨ q.1 = [1]) := fun q hq => by
    have e : q = ([0], halfQ) ∨ q = ([1], halfQ) := by simpa [coinS] using hq
    rcases e with rfl | rfl
    · exact ⟨rfl, .inl rfl⟩
    · exact ⟨rfl, .inr rfl⟩
  refine ⟨⟨by decide, fun q hq => ?_, fun q hq => ?_⟩, ?_, fun q hq => ?_, by simp [coinS], fun q hq => ?_⟩
  · rcases (hc q hq).2 with e | e <;> rw [e]
    · exact ⟨by decide, fun x hx => by
        have : x = 0 := by simpa using hx
        rw [this]
        simp [Pool]⟩
    · exact ⟨by decide, fun x hx => by
        have : x = 1 := by simpa using hx
        rw [this]
        simp [Pool]⟩
  · rw [(hc q hq).1]
    exact half_fit
  · show rsum (coinS.map (·.2)) = 1
    decide +kernel
  · rw [(hc q hq).1]
    decide +kernel
  · rcases (hc q hq).2 with e | e <;> rw [e] <;> rfl
def dv (a : Int) (b : Nat) : Rat := Rat.divInt a b
theorem h1 : layVals sqW coinS = [dv 1 16, dv 1 16] := by decide +kernel
theorem h2 : sharesL 2 3 = [dv 4 3, dv 1 3] := by decide +kernel
theorem h3 : bestS sqW 2 = [([[1], [1], [1], [1]], -1), ([[2], [2]], 1)] := by decide +kernel
theorem h4 : sharedW sqW 1 = [([[1], [1], [2]], 1)] := by decide +kernel
theorem h5 : layW sqW 1 = [([[1], [1], [1], [1]], -1), ([[1], [1], [2]], 1)] := by decide +kernel
theorem h6 : partF sqW coinS 1 = [([[0]], dv (-1) 4), ([[1]], halfQ)] := by decide +kernel
theorem tt_ls : ∀ (n : Nat) (d : PyData), Tt n d → Ls n d
  | n, .int i, _ => ls_int n i
  | n + 1, .tuple ds, h => ls_tup h.1 fun d hd => tt_ls n d (h.2 d hd)
  | 0, .tuple _, h => False.elim h
  | 0, .none, h => False.elim h
  | 0, .bool _, h => False.elim h
  | 0, .str _, h => False.elim h
  | 0, .list _, h => False.elim h
  | 0, .dict _, h => False.elim h
  | _ + 1, .none, h => False.elim h
  | _ + 1, .bool _, h => False.elim h
  | _ + 1, .str _, h => False.elim h
  | _ + 1, .list _, h => False.elim h
  | _ + 1, .dict _, h => False.elim h
theorem ls_up : ∀ (n : Nat) (d : PyData), Ls n d → Ls (n + 1) d
  | n, .int i, _ => ls_int _ i
  | n + 1, .tuple ds, h => ls_tup h.1 fun d hd => ls_up n d (h.2 d hd)
  | n + 1, .list ds, h => ls_lst h.1 fun d hd => ls_up n d (h.2 d hd)
  | 0, .tuple _, h => False.elim h
  | 0, .none, h => False.elim h
  | 0, .bool _, h => False.elim h
  | 0, .str _, h => False.elim h
  | 0, .list _, h => False.elim h
  | 0, .dict _, h => False.elim h
  | _ + 1, .none, h => False.elim h
  | _ + 1, .bool _, h => False.elim h
  | _ + 1, .str _, h => False.elim h
  | _ + 1, .dict _, h => False.elim h
theorem ls_eW {w : Wish} (h : FewW w) : Ls 4 (eW w) := tt_ls 4 _ (tt_eW h)
def handL : List PyData := [.list ([dv 1 16, dv 1 16].map rd), .list ([dv 4 3, dv 1 3].map rd), .int 26, eW [([[1], [1], [1], [1]], -1), ([[2], [2]], 1)], eW [([[1], [1], [2]], 1)], eW [([[1], [1], [1], [1]], -1), ([[1], [1], [2]], 1)], eW [([[0]], dv (-1) 4), ([[1]], halfQ)]]
theorem few_of {w : Wish} (h : w.length ≤ 1000) (h2 : ∀ p ∈ w, p.1.length ≤ 1000 ∧ ∀ m ∈ p.1, m.length ≤ 1000) : FewW w := ⟨h, h2⟩
theorem hand_ls : Ls 5 (.list handL) := by
  refine ls_lst (by decide) fun d hd => ?_
  have hw : ∀ d ∈ [eW [([[1], [1], [1], [1]], -1), ([[2], [2]], 1)], eW [([[1], [1], [2]], 1)], eW [([[1], [1], [1], [1]], -1), ([[1], [1], [2]], 1)], eW [([[0]], dv (-1) 4), ([[1]], halfQ)]], Ls 4 d := fun d hd => by
    simp only [List.mem_cons, List.not_mem_nil, or_false] at hd
    rcases hd with rfl | rfl | rfl | rfl <;> exact ls_eW (few_of (by simp) (by simp))
  unfold handL at hd
  rcases List.mem_cons.mp hd with e | hd
  · rw [e]; exact ls_rds 2 (by simp)
  · rcases List.mem_cons.mp hd with e | hd
    · rw [e]; exact ls_rds 2 (by simp)
    · rcases List.mem_cons.mp hd with e | hd
      · rw [e]; exact ls_int _ _
      · exact hw d hd
theorem hand_due : (∀ n, 2 ≤ n → n < 26 → dv 1 100 < spV 2 n [dv 1 16, dv 1 16]) ∧ (∀ n, 26 ≤ n → n ≤ 1000 → ¬ dv 1 100 < spV 2 n [dv 1 16, dv 1 16]) := by
  have a : dv 1 100 < spV 2 25 [dv 1 16, dv 1 16] := by decide +kernel
  have b : ¬ dv 1 100 < spV 2 26 [dv 1 16, dv 1 16] := by decide +kernel
  have hp : ∀ v ∈ [dv 1 16, dv 1 16], 0 ≤ v := fun v hv => by
    have : v = dv 1 16 := by simpa using hv
    rw [this]
    exact Rat.divInt_nonneg (by decide) (by decide)
  refine ⟨fun n h1 h2 => ?_, fun n h1 h2 => ?_⟩
  · have := sp_anti (d := 2) (n := n) (m := 25) (V := [dv 1 16, dv 1 16]) rfl hp (by decide) h1 (by omega) (by decide)
    exact Rat.not_le.mp fun h => Rat.not_le.mpr a (Rat.le_trans this h)
  · have := sp_anti (d := 2) (n := 26) (m := n) (V := [dv 1 16, dv 1 16]) rfl hp (by decide) (by decide) h1 h2
    rw [Rat.not_lt] at b ⊢
    exact Rat.le_trans this b
section
variable {P : Program} {w : World} {K : PySem.W.Frag} {mg : Str → Option Value} {base : Heap}
def R_hand (ds : List PyData) (d : PyData) : Prop := ds = [] ∧ d = .bool true
theorem ok_law_hand (D : Df K mg "_law_by_hand_right" s__law_by_hand_right) (Ge : ∀ n, Fn P w K mg base (n + 1) "_law_same" (spP K (R_same n))) (Gla : Fn P w K mg base 8 "layers_at" (spL K R_laysAt)) (Gly : Fn P w K mg base 8 "layer" (spP K (R_lay 1))) (Gh : Fn P w K mg base 6 "shared_mean" (spP K R_shMean)) (Gpf : Fn P w K mg base 8 "part_form" (spP K R_part)) (Gls : Fn P w K mg base 3 "layer_shares" (spL K R_layShares)) (Gbs : Fn P w K mg base 8 "best_spread" (spP K R_best)) (Gen : Fn P w K mg base 9 "enough_samples" (spP K R_enough)) : Fn P w K mg base 10 "_law_by_hand_right" (spP K R_hand) := by
  refine fn_pure (k := 9) D sc__law_by_hand_right ?_ (fun _ _ _ _ _ _ us hl => match us, hl with | [], _ => by kernel_rfl) ?_
  · rintro ds d ⟨rfl, _⟩
    rfl
  · rintro f cdv A outer s H E ds d hr ⟨rfl, rfl⟩
    have hW := sq_ok.ok
    have hS := coin_ok.ok
    have hd : deg sqW = 2 := rfl
    have hV := vals_ok sq_ok coin_ok
    have hsz := fun n (a : 2 ≤ n) (b : n ≤ 1000) => (hV.sz (n := n) a b).1
    obtain ⟨u1, u2⟩ := hand_due
    have hs1 : Sz (dv 1 100) := (bt_div (a := 10) (x := 1) (y := 100) (by decide) (by decide) (by decide)).sz (by decide)
    let got : List PyData := handL.take 4
    let got2 : List PyData := (handL.drop 4).take 2
    let got3 : List PyData := handL.drop 6
    refine ⟨[], bj_cons (ρ1 := [.d (eW sqW), .d (eS coinS), .u, .u]) (μ1 := []) ?_ (bj_cons (ρ1 := [.d (eW sqW), .d (eS coinS), .d (.list (handL.take 4)), .u]) (μ1 := []) ?_ (bj_cons (ρ1 := [.d (eW sqW), .d (eS coinS), .d (.list (handL.take 4)), .d (.list (handL.take 4))]) (μ1 := []) ?_
      (bj_cons (ρ1 := [.d (eW sqW), .d (eS coinS), .d (.list handL), .d (.list (handL.take 4))]) (μ1 := []) ?_ (bj_cons (ρ1 := [.d (eW sqW), .d (eS coinS), .d (.list handL), .d (.list (handL.take 6))]) (μ1 := []) ?_ (bj_one (sj_ret (d := .bool true) ?_))))))⟩
    · exact sj_asg (d := pairD (eW sqW) (eS coinS)) (ev_eq (ev_tup (av_cons (ev_tup (av_cons (ev_tup (av_cons (ev_tup (av_cons (ev_tup (av_cons ev_int av_nil)) (av_cons (ev_tup (av_cons ev_int av_nil)) av_nil))) (av_cons (ev_tup (av_cons ev_int (av_cons ev_int av_nil))) av_nil))) av_nil)) (av_cons (ev_tup (av_cons (ev_tup (av_cons (ev_tup (av_cons (ev_tup (av_cons ev_int (av_cons ev_int av_nil))) av_nil)) (av_cons (ev_tup (av_cons ev_int (av_cons ev_int av_nil))) av_nil))) (av_cons (ev_tup (av_cons (ev_tup (av_cons (ev_tup (av_cons ev_int (av_cons ev_int av_nil))) av_nil)) (av_cons (ev_tup (av_cons ev_int (av_cons ev_int av_nil))) av_nil))) av_nil))) av_nil))) (by kernel_rfl)) (gv_pair 0 1 sc__law_by_hand_right.nd)
    · refine sj_set 2 sc__law_by_hand_right.nd (ev_eq (ev_of_ef (ef_lst (av_cons (ev_of_ef (ef_call Gla hr (av_cons (ev_name 0 rfl) (av_cons (ev_name 1 rfl) av_nil)) ⟨sqW, coinS, rfl, hW, hS, rfl⟩)) (av_cons (ev_of_ef (ef_call Gls hr (av_cons (ev_name 0 rfl) (av_cons ev_int av_nil)) ⟨sqW, 3, rfl, hW, by decide, by decide, rfl⟩)) (av_cons (ev_call Gen hr (av_cons (ev_name 0 rfl) (av_cons (ev_name 1 rfl) (av_cons (ev_eq (d' := rd (dv 1 100)) (ev_tup (av_cons ev_int (av_cons ev_int av_nil))) (rd_one (n := 100) (by decide))) av_nil))) ⟨sqW, coinS, dv 1 100, 26, rfl, hW, hS, hs1, by decide, by decide, ?_, ?_, ?_, rfl⟩) (av_cons (ev_call Gbs hr (av_cons (ev_name 0 rfl) (av_cons ev_int av_nil)) ⟨sqW, 2, rfl, hW, by decide, by decide, rfl⟩) av_nil)))))) ?_)
      · rw [hd, h1]
        exact u1
      · rw [hd, h1]
        exact u2
      · rw [hd] at hsz ⊢
        exact hsz
      · rw [h1, hd, h2, h3]
        rfl
    · exact sj_set 3 sc__law_by_hand_right.nd (ev_eq (ev_of_ef (ef_lst (av_cons (ev_of_ef (ef_lst (av_cons (ev_tup (av_cons ev_int (av_cons ev_int av_nil))) (av_cons (ev_tup (av_cons ev_int (av_cons ev_int av_nil))) av_nil)))) (av_cons (ev_of_ef (ef_lst (av_cons (ev_tup (av_cons ev_int (av_cons ev_int av_nil))) (av_cons (ev_tup (av_cons ev_int (av_cons ev_int av_nil))) av_nil)))) (av_cons ev_int (av_cons (ev_tup (av_cons (ev_tup (av_cons (ev_repT (ev_tup (av_cons (ev_tup (av_cons ev_int av_nil)) av_nil)) ev_int (by simp) (by decide) (by decide) (by decide)) (av_cons (ev_tup (av_cons (ev_neg ev_int) (av_cons ev_int av_nil))) av_nil))) (av_cons (ev_tup (av_cons (ev_tup (av_cons (ev_tup (av_cons ev_int av_nil)) (av_cons (ev_tup (av_cons ev_int av_nil)) av_nil))) (av_cons (ev_tup (av_cons ev_int (av_cons ev_int av_nil))) av_nil))) av_nil))) av_nil)))))) (by kernel_rfl))
    · refine sj_set 2 sc__law_by_hand_right.nd (ev_eq (ev_of_ef (ef_add (ev_name 2 rfl) (ev_of_ef (ef_lst (av_cons (ev_call Gh hr (av_cons (ev_name 0 rfl) (av_cons ev_int av_nil)) ⟨sqW, 1, rfl, hW, by decide, rfl⟩) (av_cons (ev_call Gly hr (av_cons (ev_name 0 rfl) (av_cons ev_int av_nil)) ⟨sqW, 1, rfl, hW, by decide, by decide, rfl⟩) (av_cons (ev_call Gpf hr (av_cons (ev_name 0 rfl) (av_cons (ev_name 1 rfl) (av_cons ev_int av_nil))) ⟨sqW, coinS, 1, rfl, hW, hS, coin_ok.ne, by decide, rfl⟩) av_nil))))) (by decide))) ?_)
      rw [h4, h5, h6]
      rfl
    · exact sj_set 3 sc__law_by_hand_right.nd (ev_eq (ev_of_ef (ef_add (ev_name 3 rfl) (ev_of_ef (ef_lst (av_cons (ev_tup (av_cons (ev_tup (av_cons (ev_tup (av_cons (ev_tup (av_cons ev_int av_nil)) (av_cons (ev_tup (av_cons ev_int av_nil)) (av_cons (ev_tup (av_cons ev_int av_nil)) av_nil)))) (av_cons (ev_tup (av_cons ev_int (av_cons ev_int av_nil))) av_nil))) av_nil)) (av_cons (ev_tup (av_cons (ev_tup (av_cons (ev_repT (ev_tup (av_cons (ev_tup (av_cons ev_int av_nil)) av_nil)) ev_int (by simp) (by decide) (by decide) (by decide)) (av_cons (ev_tup (av_cons (ev_neg ev_int) (av_cons ev_int av_nil))) av_nil))) (av_cons (ev_tup (av_cons (ev_tup (av_cons (ev_tup (av_cons ev_int av_nil)) (av_cons (ev_tup (av_cons ev_int av_nil)) (av_cons (ev_tup (av_cons ev_int av_nil)) av_nil)))) (av_cons (ev_tup (av_cons ev_int (av_cons ev_int av_nil))) av_nil))) av_nil))) av_nil)))) (by decide))) (by kernel_rfl))
    · exact ev_call (Ge 5) hr (av_cons (ev_name 2 rfl) (av_cons (ev_eq (d' := .list handL) (ev_of_ef (ef_add (ev_name 3 rfl) (ev_of_ef (ef_lst (av_cons (ev_tup (av_cons (ev_tup (av_cons (ev_tup (av_cons (ev_tup (av_cons ev_int av_nil)) av_nil)) (av_cons (ev_tup (av_cons (ev_neg ev_int) (av_cons ev_int av_nil))) av_nil))) (av_cons (ev_tup (av_cons (ev_tup (av_cons (ev_tup (av_cons ev_int av_nil)) av_nil)) (av_cons (ev_tup (av_cons ev_int (av_cons ev_int av_nil))) av_nil))) av_nil))) av_nil))) (by decide))) (by kernel_rfl)) av_nil)) ⟨.list handL, rfl, hand_ls, rfl⟩
end
end DW

/-! Pr28: the law. -/
namespace DW
open PySem PySem.Spec PyProof.Rows L2 DM
section
variable {P : Program} {w : World} {K : PySem.W.Frag} {mg : Str → Option Value} {base : Heap}
def R_right (us ds : List PyData) (d : PyData) (us' : List PyData) : Prop := ∃ (u : Urn) (N : Nat), us = eU u ∧ UrnOk N u ∧ N ≤ 100 ∧ ds = [] ∧ d = .bool true ∧ us' = eU (rightU u)
theorem ok_law_right (D : Df K mg "_law_right" s__law_right) (G1 : Fn P w K mg base 1 "_law_take" (spU K R_take)) (Gw : Fn P w K mg base 3 "_law_wish" (spU K R_wish)) (Gs : Fn P w K mg base 2 "_law_source" (spU K R_source)) (Gd : Fn P w K mg base 1 "_law_degree" (spP K R_degree)) (Gc : Fn P w K mg base 11 "_law_case_right" (spU K R_case)) : Fn P w K mg base 12 "_law_right" (spU K R_right) := by
  refine fn_urn (k := 11) D sc__law_right ?_ (fun _ _ _ _ _ _ us hl => match us, hl with | [_], _ => by kernel_rfl) ?_
  · rintro us ds d us' ⟨a, b, _, _, _, rfl, _⟩
    rfl
  · rintro f cdv A outer s H E us ds d us' hr ⟨u, N, rfl, hu, hN, rfl, rfl, rfl⟩
    have ht := takeN_lt u (n := 2) (by decide)
    have hu1 := hu.take 2
    have hc : cOf u ≤ 2 := by unfold cOf; omega
    have hc1 : 1 ≤ cOf u := by unfold cOf; omega
    have hW := wishOf_ok hc hu1
    have hu2 := (wishR_ok hc hu1).2
    have hu3 := hu2.take 2
    have ht2 := takeN_lt (uOf u) (n := 2) (by decide)
    have hdiv : takeN (uOf u) 2 / (1 + deg (wOf u) / 2) ≤ 1 := Nat.le_trans (Nat.div_le_self _ _) (by omega)
    have hm3 : mOf (wOf u) (uOf u) ≤ 3 := by unfold mOf; omega
    have hm0 : 0 < mOf (wOf u) (uOf u) := Nat.lt_of_lt_of_le (show 0 < 2 by decide) (Nat.le_add_right 2 _)
    have hS := (srcOf_ok (c := cOf u) hc hm0 hm3 (takeS (uOf u) 2)).1
    have hu4 := srcU_ok hc hm3 hu3
    have e1 : (1 : Int) + ((takeN u 2 : Nat) : Int) = ((cOf u : Nat) : Int) := by
      unfold cOf
      omega
    have e2 : (2 : Int) + ((takeN (uOf u) 2 : Nat) : Int) / ((1 : Int) + ((deg (wOf u) : Nat) : Int) / 2) = ((mOf (wOf u) (uOf u) : Nat) : Int) := by
      have h3 : (1 : Int) + ((deg (wOf u) : Nat) : Int) / 2 = ((1 + deg (wOf u) / 2 : Nat) : Int) := by omega
      rw [h3, ← Int.natCast_ediv]
      unfold mOf
      omega
    have hW' : W1 (cOf u) (wOf u) := hW
    have hdeg := hW'.ok.deg
    have hl3 := hW'.ok.l3
    refine ⟨[.l (eU (rightU u))], rfl, bj_cons (ρ1 := [.h 0, .d (.int (cOf u : Nat)), .u]) (μ1 := [.l (eU (takeS u 2))]) (sj_set 1 sc__law_right.nd (ev_eq (ev_add ev_int (ev_callV 0 G1 hr rfl (av_cons ev_int av_nil) rfl ⟨u, N, 2, rfl, hu, by omega, rfl, by decide, by decide, rfl, rfl⟩ rfl)) (congrArg PyData.int e1)))
      (bj_cons (ρ1 := [.h 0, .d (.int (cOf u : Nat)), .d (eW (wOf u))]) (μ1 := [.l (eU (uOf u))]) (sj_set 2 sc__law_right.nd (ev_callV 0 Gw hr rfl (av_cons (ev_name 1 rfl) (av_cons ev_int av_nil)) rfl ⟨takeS u 2, N + 1, cOf u, rfl, hu1, by omega, rfl, hc1, hc, rfl, rfl⟩ rfl))
      (bj_one (sj_ret (d := .bool true) ?_)))⟩
    refine ev_callV 0 Gc hr rfl (av_cons (ev_name 2 rfl) (av_cons (d := eS (sOf u)) (μ1 := [.l (eU (vOf u))]) ?_ av_nil)) rfl ⟨vOf u, N + 1 + 22 + 1 + 9, cOf u, wOf u, sOf u, rfl, hu4, by omega, rfl, hW', hS, rfl, rfl⟩ rfl
    refine ev_callV 0 Gs hr rfl (av_cons (ev_name 1 rfl) (av_cons (d := .int (mOf (wOf u) (uOf u) : Nat)) (μ1 := [.l (eU (takeS (uOf u) 2))]) ?_ av_nil)) rfl ⟨takeS (uOf u) 2, N + 1 + 22 + 1, cOf u, mOf (wOf u) (uOf u), rfl, hu3, by omega, rfl, hc1, hc, hm0, hm3, rfl, rfl⟩ rfl
    refine ev_eq (ev_add ev_int (ev_fdiv ⟨?_, ?_⟩ (ev_callV 0 G1 hr rfl (av_cons ev_int av_nil) rfl ⟨uOf u, N + 1 + 22, 2, rfl, hu2, by omega, rfl, by decide, by decide, rfl, rfl⟩ rfl) (ev_add ev_int (ev_fdiv ⟨by decide, by decide⟩ (ev_call Gd hr (av_cons (ev_name 2 rfl) av_nil) ⟨wOf u, rfl, hl3, rfl⟩) ev_int)))) (congrArg PyData.int e2)
    · omega
    · exact Nat.lt_of_lt_of_le (PySem.Flt.log2_lt_of (k := 8) (by decide) (by omega)) (by decide)
def R_law (ds : List PyData) (d : PyData) : Prop := ∃ ns : List Int, ds = [.list (ns.map .int)] ∧ ns.length ≤ 63 ∧ (∀ z ∈ ns, Builtin.Int.intBits z ≤ 1048576) ∧ d = .bool true
theorem ok_law {f : Addr} {fd : FuncData} (F : Fun K "law" "law" s_law f fd) (Gh : Fn P w K mg base 10 "_law_by_hand_right" (spP K R_hand)) (Gr : Fn P w K mg base 12 "_law_right" (spU K R_right)) (Gb : Fn P w K mg base 1 "_law_box" (spL K R_box)) (Gc : Fn P w K mg base 1 "_law_cells" (spP K R_cells)) : FnOk P w K mg base CX0 13 f fd ["_law_script"] (spP K R_law) := by
  refine fnok_pure (k := 12) F sc_law ?_ ?_
  · rintro ds d ⟨a, rfl, _⟩
    rfl
  · rintro f cdv A outer s H E ds d hr ⟨ns, rfl, hl, hb, rfl⟩
    refine ⟨[], bj_cons (sj_if (k := !true) (tv_not (tv_b (ev_call0 Gh hr ⟨rfl, rfl⟩))) (fun z => by cases z) (fun _ => bj_nil)) (bj_one (sj_ret (ev_callN Gr hr (ef_call Gb hr (av_cons (ev_call Gc hr (av_cons (ev_name 0 rfl) (av_cons ev_int av_nil)) ⟨ns, rfl, hl, hb, rfl⟩) (av_cons ev_int av_nil)) ⟨cellV ns, rfl, cell_bits hl hb, rfl⟩) ⟨boxU (cellV ns), 0, rfl, boxU_ok _, by decide, rfl, rfl, rfl⟩)))⟩
end
end DW

namespace DW
open PySem PySem.Spec PyProof.Rows L2 DM
theorem int_data {K : PySem.W.Frag} {F : Hp} : ∀ ns : List Int, DpAll K F (ns.map V.int) (ns.map PyData.int)
  | [] => .nil
  | n :: ns => .cons (.int n) (int_data ns)
section
variable {w : World} {K : PySem.W.Frag} {h : Heap} {mg : Str → Option Value}
theorem df_mk (X : K.In h) (G : h.Ns mainGlobals mg) {x : Str} {st : Stmt} {f : Addr} {oc : Value} {od an : Option Addr} {osl : Array (Option Value)} {kV doc pm cdv ct : Value} (a : PySem.W.nsIn K mainGlobals x = some (some (.ref f)))
    (l : K.lookup f = some ⟨oc, od, .func (PySem.W.fnOf x x (defArgs st) (defBody st) (defScope st) .none kV doc pm an cdv ct), osl⟩) (c : PySem.W.codeIn K cdv x = true) (k : PySem.W.keepIn K (.ref f) = true) : Df K mg x st :=
  ⟨⟨f, _, PySem.W.mg_of X G a, fun_mk l c k⟩⟩
theorem gl_two (X : K.In h) (G : h.Ns mainGlobals mg) {x : Str} {p : Addr} {i j : Int} {t u : Tok} {n : Nat} {dd : Option Addr} {sl : Array (Option Value)} (a : PySem.W.nsIn K mainGlobals x = some (some (.ref p)))
    (l : K.lookup p = some ⟨.type "tuple", dd, .seq #[.int i t, .int j u] n, sl⟩) : GlD K mg x (.tuple [.int i, .int j]) :=
  ⟨⟨.ref p, .ref p, PySem.W.mg_of X G a, rfl, fun F => .tup (.inr ⟨_, _, _, l, rfl, rfl, by show 2 ≤ sizeLine; decide, (show Vals [V.int i, V.int j] [Value.int i t, Value.int j u] from .cons ⟨_, rfl⟩ (.cons ⟨_, rfl⟩ .nil))⟩) (.cons (.int _) (.cons (.int _) .nil))⟩⟩
theorem gl_nil (X : K.In h) (G : h.Ns mainGlobals mg) {x : Str} {p : Addr} {n : Nat} {dd : Option Addr} {sl : Array (Option Value)} (a : PySem.W.nsIn K mainGlobals x = some (some (.ref p)))
    (l : K.lookup p = some ⟨.type "tuple", dd, .seq #[] n, sl⟩) : GlD K mg x (.tuple []) :=
  ⟨⟨.ref p, .ref p, PySem.W.mg_of X G a, rfl, fun F => .tup (.inr ⟨_, _, _, l, rfl, rfl, Nat.zero_le _, .nil⟩) .nil⟩⟩
theorem all_mk {P : Program} {fa : Addr} (X : K.In h) (G : h.Ns mainGlobals mg) (hfa : mg "law" = some (.ref fa))
    {f1 : Addr} {oc1 kV1 dc1 pm1 cd1 ct1 : Value} {od1 an1 : Option Addr} {sl1 : Array (Option Value)} (a1 : PySem.W.nsIn K mainGlobals "fraction" = some (some (.ref f1))) (l1 : K.lookup f1 = some ⟨oc1, od1, .func (PySem.W.fnOf "fraction" "fraction" (defArgs s_fraction) (defBody s_fraction) (defScope s_fraction) .none kV1 dc1 pm1 an1 cd1 ct1), sl1⟩) (c1 : PySem.W.codeIn K cd1 "fraction" = true) (k1 : PySem.W.keepIn K (.ref f1) = true)
    {f2 : Addr} {oc2 kV2 dc2 pm2 cd2 ct2 : Value} {od2 an2 : Option Addr} {sl2 : Array (Option Value)} (a2 : PySem.W.nsIn K mainGlobals "plus" = some (some (.ref f2))) (l2 : K.lookup f2 = some ⟨oc2, od2, .func (PySem.W.fnOf "plus" "plus" (defArgs s_plus) (defBody s_plus) (defScope s_plus) .none kV2 dc2 pm2 an2 cd2 ct2), sl2⟩) (c2 : PySem.W.codeIn K cd2 "plus" = true) (k2 : PySem.W.keepIn K (.ref f2) = true)
    {f3 : Addr} {oc3 kV3 dc3 pm3 cd3 ct3 : Value} {od3 an3 : Option Addr} {sl3 : Array (Option Value)} (a3 : PySem.W.nsIn K mainGlobals "times" = some (some (.ref f3))) (l3 : K.lookup f3 = some ⟨oc3, od3, .func (PySem.W.fnOf "times" "times" (defArgs s_times) (defBody s_times) (defScope s_times) .none kV3 dc3 pm3 an3 cd3 ct3), sl3⟩) (c3 : PySem.W.codeIn K cd3 "times" = true) (k3 : PySem.W.keepIn K (.ref f3) = true)
    {f4 : Addr} {oc4 kV4 dc4 pm4 cd4 ct4 : Value} {od4 an4 : Option Addr} {sl4 : Array (Option Value)} (a4 : PySem.W.nsIn K mainGlobals "_law_low" = some (some (.ref f4))) (l4 : K.lookup f4 = some ⟨oc4, od4, .func (PySem.W.fnOf "_law_low" "_law_low" (defArgs s__law_low) (defBody s__law_low) (defScope s__law_low) .none kV4 dc4 pm4 an4 cd4 ct4), sl4⟩) (c4 : PySem.W.codeIn K cd4 "_law_low" = true) (k4 : PySem.W.keepIn K (.ref f4) = true)
    {f5 : Addr} {oc5 kV5 dc5 pm5 cd5 ct5 : Value} {od5 an5 : Option Addr} {sl5 : Array (Option Value)} (a5 : PySem.W.nsIn K mainGlobals "_law_add" = some (some (.ref f5))) (l5 : K.lookup f5 = some ⟨oc5, od5, .func (PySem.W.fnOf "_law_add" "_law_add" (defArgs s__law_add) (defBody s__law_add) (defScope s__law_add) .none kV5 dc5 pm5 an5 cd5 ct5), sl5⟩) (c5 : PySem.W.codeIn K cd5 "_law_add" = true) (k5 : PySem.W.keepIn K (.ref f5) = true)
    {f6 : Addr} {oc6 kV6 dc6 pm6 cd6 ct6 : Value} {od6 an6 : Option Addr} {sl6 : Array (Option Value)} (a6 : PySem.W.nsIn K mainGlobals "_law_mul" = some (some (.ref f6))) (l6 : K.lookup f6 = some ⟨oc6, od6, .func (PySem.W.fnOf "_law_mul" "_law_mul" (defArgs s__law_mul) (defBody s__law_mul) (defScope s__law_mul) .none kV6 dc6 pm6 an6 cd6 ct6), sl6⟩) (c6 : PySem.W.codeIn K cd6 "_law_mul" = true) (k6 : PySem.W.keepIn K (.ref f6) = true)
    {f7 : Addr} {oc7 kV7 dc7 pm7 cd7 ct7 : Value} {od7 an7 : Option Addr} {sl7 : Array (Option Value)} (a7 : PySem.W.nsIn K mainGlobals "tuple_of" = some (some (.ref f7))) (l7 : K.lookup f7 = some ⟨oc7, od7, .func (PySem.W.fnOf "tuple_of" "tuple_of" (defArgs s_tuple_of) (defBody s_tuple_of) (defScope s_tuple_of) .none kV7 dc7 pm7 an7 cd7 ct7), sl7⟩) (c7 : PySem.W.codeIn K cd7 "tuple_of" = true) (k7 : PySem.W.keepIn K (.ref f7) = true)
    {f8 : Addr} {oc8 kV8 dc8 pm8 cd8 ct8 : Value} {od8 an8 : Option Addr} {sl8 : Array (Option Value)} (a8 : PySem.W.nsIn K mainGlobals "_power" = some (some (.ref f8))) (l8 : K.lookup f8 = some ⟨oc8, od8, .func (PySem.W.fnOf "_power" "_power" (defArgs s__power) (defBody s__power) (defScope s__power) .none kV8 dc8 pm8 an8 cd8 ct8), sl8⟩) (c8 : PySem.W.codeIn K cd8 "_power" = true) (k8 : PySem.W.keepIn K (.ref f8) = true)
    {f9 : Addr} {oc9 kV9 dc9 pm9 cd9 ct9 : Value} {od9 an9 : Option Addr} {sl9 : Array (Option Value)} (a9 : PySem.W.nsIn K mainGlobals "power_of" = some (some (.ref f9))) (l9 : K.lookup f9 = some ⟨oc9, od9, .func (PySem.W.fnOf "power_of" "power_of" (defArgs s_power_of) (defBody s_power_of) (defScope s_power_of) .none kV9 dc9 pm9 an9 cd9 ct9), sl9⟩) (c9 : PySem.W.codeIn K cd9 "power_of" = true) (k9 : PySem.W.keepIn K (.ref f9) = true)
    {f10 : Addr} {oc10 kV10 dc10 pm10 cd10 ct10 : Value} {od10 an10 : Option Addr} {sl10 : Array (Option Value)} (a10 : PySem.W.nsIn K mainGlobals "is_less" = some (some (.ref f10))) (l10 : K.lookup f10 = some ⟨oc10, od10, .func (PySem.W.fnOf "is_less" "is_less" (defArgs s_is_less) (defBody s_is_less) (defScope s_is_less) .none kV10 dc10 pm10 an10 cd10 ct10), sl10⟩) (c10 : PySem.W.codeIn K cd10 "is_less" = true) (k10 : PySem.W.keepIn K (.ref f10) = true)
    {f11 : Addr} {oc11 kV11 dc11 pm11 cd11 ct11 : Value} {od11 an11 : Option Addr} {sl11 : Array (Option Value)} (a11 : PySem.W.nsIn K mainGlobals "sum_of" = some (some (.ref f11))) (l11 : K.lookup f11 = some ⟨oc11, od11, .func (PySem.W.fnOf "sum_of" "sum_of" (defArgs s_sum_of) (defBody s_sum_of) (defScope s_sum_of) .none kV11 dc11 pm11 an11 cd11 ct11), sl11⟩) (c11 : PySem.W.codeIn K cd11 "sum_of" = true) (k11 : PySem.W.keepIn K (.ref f11) = true)
    {f12 : Addr} {oc12 kV12 dc12 pm12 cd12 ct12 : Value} {od12 an12 : Option Addr} {sl12 : Array (Option Value)} (a12 : PySem.W.nsIn K mainGlobals "row_moment" = some (some (.ref f12))) (l12 : K.lookup f12 = some ⟨oc12, od12, .func (PySem.W.fnOf "row_moment" "row_moment" (defArgs s_row_moment) (defBody s_row_moment) (defScope s_row_moment) .none kV12 dc12 pm12 an12 cd12 ct12), sl12⟩) (c12 : PySem.W.codeIn K cd12 "row_moment" = true) (k12 : PySem.W.keepIn K (.ref f12) = true)
    {f13 : Addr} {oc13 kV13 dc13 pm13 cd13 ct13 : Value} {od13 an13 : Option Addr} {sl13 : Array (Option Value)} (a13 : PySem.W.nsIn K mainGlobals "moment_at" = some (some (.ref f13))) (l13 : K.lookup f13 = some ⟨oc13, od13, .func (PySem.W.fnOf "moment_at" "moment_at" (defArgs s_moment_at) (defBody s_moment_at) (defScope s_moment_at) .none kV13 dc13 pm13 an13 cd13 ct13), sl13⟩) (c13 : PySem.W.codeIn K cd13 "moment_at" = true) (k13 : PySem.W.keepIn K (.ref f13) = true)
    {f14 : Addr} {oc14 kV14 dc14 pm14 cd14 ct14 : Value} {od14 an14 : Option Addr} {sl14 : Array (Option Value)} (a14 : PySem.W.nsIn K mainGlobals "gathered" = some (some (.ref f14))) (l14 : K.lookup f14 = some ⟨oc14, od14, .func (PySem.W.fnOf "gathered" "gathered" (defArgs s_gathered) (defBody s_gathered) (defScope s_gathered) .none kV14 dc14 pm14 an14 cd14 ct14), sl14⟩) (c14 : PySem.W.codeIn K cd14 "gathered" = true) (k14 : PySem.W.keepIn K (.ref f14) = true)
    {f15 : Addr} {oc15 kV15 dc15 pm15 cd15 ct15 : Value} {od15 an15 : Option Addr} {sl15 : Array (Option Value)} (a15 : PySem.W.nsIn K mainGlobals "gathered_wish" = some (some (.ref f15))) (l15 : K.lookup f15 = some ⟨oc15, od15, .func (PySem.W.fnOf "gathered_wish" "gathered_wish" (defArgs s_gathered_wish) (defBody s_gathered_wish) (defScope s_gathered_wish) .none kV15 dc15 pm15 an15 cd15 ct15), sl15⟩) (c15 : PySem.W.codeIn K cd15 "gathered_wish" = true) (k15 : PySem.W.keepIn K (.ref f15) = true)
    {f16 : Addr} {oc16 kV16 dc16 pm16 cd16 ct16 : Value} {od16 an16 : Option Addr} {sl16 : Array (Option Value)} (a16 : PySem.W.nsIn K mainGlobals "_summed" = some (some (.ref f16))) (l16 : K.lookup f16 = some ⟨oc16, od16, .func (PySem.W.fnOf "_summed" "_summed" (defArgs s__summed) (defBody s__summed) (defScope s__summed) .none kV16 dc16 pm16 an16 cd16 ct16), sl16⟩) (c16 : PySem.W.codeIn K cd16 "_summed" = true) (k16 : PySem.W.keepIn K (.ref f16) = true)
    {f17 : Addr} {oc17 kV17 dc17 pm17 cd17 ct17 : Value} {od17 an17 : Option Addr} {sl17 : Array (Option Value)} (a17 : PySem.W.nsIn K mainGlobals "wish_degree" = some (some (.ref f17))) (l17 : K.lookup f17 = some ⟨oc17, od17, .func (PySem.W.fnOf "wish_degree" "wish_degree" (defArgs s_wish_degree) (defBody s_wish_degree) (defScope s_wish_degree) .none kV17 dc17 pm17 an17 cd17 ct17), sl17⟩) (c17 : PySem.W.codeIn K cd17 "wish_degree" = true) (k17 : PySem.W.keepIn K (.ref f17) = true)
    {f18 : Addr} {oc18 kV18 dc18 pm18 cd18 ct18 : Value} {od18 an18 : Option Addr} {sl18 : Array (Option Value)} (a18 : PySem.W.nsIn K mainGlobals "wish_value" = some (some (.ref f18))) (l18 : K.lookup f18 = some ⟨oc18, od18, .func (PySem.W.fnOf "wish_value" "wish_value" (defArgs s_wish_value) (defBody s_wish_value) (defScope s_wish_value) .none kV18 dc18 pm18 an18 cd18 ct18), sl18⟩) (c18 : PySem.W.codeIn K cd18 "wish_value" = true) (k18 : PySem.W.keepIn K (.ref f18) = true)
    {f19 : Addr} {oc19 kV19 dc19 pm19 cd19 ct19 : Value} {od19 an19 : Option Addr} {sl19 : Array (Option Value)} (a19 : PySem.W.nsIn K mainGlobals "wish_plus" = some (some (.ref f19))) (l19 : K.lookup f19 = some ⟨oc19, od19, .func (PySem.W.fnOf "wish_plus" "wish_plus" (defArgs s_wish_plus) (defBody s_wish_plus) (defScope s_wish_plus) .none kV19 dc19 pm19 an19 cd19 ct19), sl19⟩) (c19 : PySem.W.codeIn K cd19 "wish_plus" = true) (k19 : PySem.W.keepIn K (.ref f19) = true)
    {f20 : Addr} {oc20 kV20 dc20 pm20 cd20 ct20 : Value} {od20 an20 : Option Addr} {sl20 : Array (Option Value)} (a20 : PySem.W.nsIn K mainGlobals "wish_scaled" = some (some (.ref f20))) (l20 : K.lookup f20 = some ⟨oc20, od20, .func (PySem.W.fnOf "wish_scaled" "wish_scaled" (defArgs s_wish_scaled) (defBody s_wish_scaled) (defScope s_wish_scaled) .none kV20 dc20 pm20 an20 cd20 ct20), sl20⟩) (c20 : PySem.W.codeIn K cd20 "wish_scaled" = true) (k20 : PySem.W.keepIn K (.ref f20) = true)
    {f21 : Addr} {oc21 kV21 dc21 pm21 cd21 ct21 : Value} {od21 an21 : Option Addr} {sl21 : Array (Option Value)} (a21 : PySem.W.nsIn K mainGlobals "joined_moment" = some (some (.ref f21))) (l21 : K.lookup f21 = some ⟨oc21, od21, .func (PySem.W.fnOf "joined_moment" "joined_moment" (defArgs s_joined_moment) (defBody s_joined_moment) (defScope s_joined_moment) .none kV21 dc21 pm21 an21 cd21 ct21), sl21⟩) (c21 : PySem.W.codeIn K cd21 "joined_moment" = true) (k21 : PySem.W.keepIn K (.ref f21) = true)
    {f22 : Addr} {oc22 kV22 dc22 pm22 cd22 ct22 : Value} {od22 an22 : Option Addr} {sl22 : Array (Option Value)} (a22 : PySem.W.nsIn K mainGlobals "_filled" = some (some (.ref f22))) (l22 : K.lookup f22 = some ⟨oc22, od22, .func (PySem.W.fnOf "_filled" "_filled" (defArgs s__filled) (defBody s__filled) (defScope s__filled) .none kV22 dc22 pm22 an22 cd22 ct22), sl22⟩) (c22 : PySem.W.codeIn K cd22 "_filled" = true) (k22 : PySem.W.keepIn K (.ref f22) = true)
    {f23 : Addr} {oc23 kV23 dc23 pm23 cd23 ct23 : Value} {od23 an23 : Option Addr} {sl23 : Array (Option Value)} (a23 : PySem.W.nsIn K mainGlobals "_met" = some (some (.ref f23))) (l23 : K.lookup f23 = some ⟨oc23, od23, .func (PySem.W.fnOf "_met" "_met" (defArgs s__met) (defBody s__met) (defScope s__met) .none kV23 dc23 pm23 an23 cd23 ct23), sl23⟩) (c23 : PySem.W.codeIn K cd23 "_met" = true) (k23 : PySem.W.keepIn K (.ref f23) = true)
    {f24 : Addr} {oc24 kV24 dc24 pm24 cd24 ct24 : Value} {od24 an24 : Option Addr} {sl24 : Array (Option Value)} (a24 : PySem.W.nsIn K mainGlobals "_shared" = some (some (.ref f24))) (l24 : K.lookup f24 = some ⟨oc24, od24, .func (PySem.W.fnOf "_shared" "_shared" (defArgs s__shared) (defBody s__shared) (defScope s__shared) .none kV24 dc24 pm24 an24 cd24 ct24), sl24⟩) (c24 : PySem.W.codeIn K cd24 "_shared" = true) (k24 : PySem.W.keepIn K (.ref f24) = true)
    {f25 : Addr} {oc25 kV25 dc25 pm25 cd25 ct25 : Value} {od25 an25 : Option Addr} {sl25 : Array (Option Value)} (a25 : PySem.W.nsIn K mainGlobals "shared_mean" = some (some (.ref f25))) (l25 : K.lookup f25 = some ⟨oc25, od25, .func (PySem.W.fnOf "shared_mean" "shared_mean" (defArgs s_shared_mean) (defBody s_shared_mean) (defScope s_shared_mean) .none kV25 dc25 pm25 an25 cd25 ct25), sl25⟩) (c25 : PySem.W.codeIn K cd25 "shared_mean" = true) (k25 : PySem.W.keepIn K (.ref f25) = true)
    {f26 : Addr} {oc26 kV26 dc26 pm26 cd26 ct26 : Value} {od26 an26 : Option Addr} {sl26 : Array (Option Value)} (a26 : PySem.W.nsIn K mainGlobals "_layer" = some (some (.ref f26))) (l26 : K.lookup f26 = some ⟨oc26, od26, .func (PySem.W.fnOf "_layer" "_layer" (defArgs s__layer) (defBody s__layer) (defScope s__layer) .none kV26 dc26 pm26 an26 cd26 ct26), sl26⟩) (c26 : PySem.W.codeIn K cd26 "_layer" = true) (k26 : PySem.W.keepIn K (.ref f26) = true)
    {f27 : Addr} {oc27 kV27 dc27 pm27 cd27 ct27 : Value} {od27 an27 : Option Addr} {sl27 : Array (Option Value)} (a27 : PySem.W.nsIn K mainGlobals "layer" = some (some (.ref f27))) (l27 : K.lookup f27 = some ⟨oc27, od27, .func (PySem.W.fnOf "layer" "layer" (defArgs s_layer) (defBody s_layer) (defScope s_layer) .none kV27 dc27 pm27 an27 cd27 ct27), sl27⟩) (c27 : PySem.W.codeIn K cd27 "layer" = true) (k27 : PySem.W.keepIn K (.ref f27) = true)
    {f28 : Addr} {oc28 kV28 dc28 pm28 cd28 ct28 : Value} {od28 an28 : Option Addr} {sl28 : Array (Option Value)} (a28 : PySem.W.nsIn K mainGlobals "layers_at" = some (some (.ref f28))) (l28 : K.lookup f28 = some ⟨oc28, od28, .func (PySem.W.fnOf "layers_at" "layers_at" (defArgs s_layers_at) (defBody s_layers_at) (defScope s_layers_at) .none kV28 dc28 pm28 an28 cd28 ct28), sl28⟩) (c28 : PySem.W.codeIn K cd28 "layers_at" = true) (k28 : PySem.W.keepIn K (.ref f28) = true)
    {f29 : Addr} {oc29 kV29 dc29 pm29 cd29 ct29 : Value} {od29 an29 : Option Addr} {sl29 : Array (Option Value)} (a29 : PySem.W.nsIn K mainGlobals "_shares" = some (some (.ref f29))) (l29 : K.lookup f29 = some ⟨oc29, od29, .func (PySem.W.fnOf "_shares" "_shares" (defArgs s__shares) (defBody s__shares) (defScope s__shares) .none kV29 dc29 pm29 an29 cd29 ct29), sl29⟩) (c29 : PySem.W.codeIn K cd29 "_shares" = true) (k29 : PySem.W.keepIn K (.ref f29) = true)
    {f30 : Addr} {oc30 kV30 dc30 pm30 cd30 ct30 : Value} {od30 an30 : Option Addr} {sl30 : Array (Option Value)} (a30 : PySem.W.nsIn K mainGlobals "layer_shares" = some (some (.ref f30))) (l30 : K.lookup f30 = some ⟨oc30, od30, .func (PySem.W.fnOf "layer_shares" "layer_shares" (defArgs s_layer_shares) (defBody s_layer_shares) (defScope s_layer_shares) .none kV30 dc30 pm30 an30 cd30 ct30), sl30⟩) (c30 : PySem.W.codeIn K cd30 "layer_shares" = true) (k30 : PySem.W.keepIn K (.ref f30) = true)
    {f31 : Addr} {oc31 kV31 dc31 pm31 cd31 ct31 : Value} {od31 an31 : Option Addr} {sl31 : Array (Option Value)} (a31 : PySem.W.nsIn K mainGlobals "best_spread" = some (some (.ref f31))) (l31 : K.lookup f31 = some ⟨oc31, od31, .func (PySem.W.fnOf "best_spread" "best_spread" (defArgs s_best_spread) (defBody s_best_spread) (defScope s_best_spread) .none kV31 dc31 pm31 an31 cd31 ct31), sl31⟩) (c31 : PySem.W.codeIn K cd31 "best_spread" = true) (k31 : PySem.W.keepIn K (.ref f31) = true)
    {f32 : Addr} {oc32 kV32 dc32 pm32 cd32 ct32 : Value} {od32 an32 : Option Addr} {sl32 : Array (Option Value)} (a32 : PySem.W.nsIn K mainGlobals "enough_samples" = some (some (.ref f32))) (l32 : K.lookup f32 = some ⟨oc32, od32, .func (PySem.W.fnOf "enough_samples" "enough_samples" (defArgs s_enough_samples) (defBody s_enough_samples) (defScope s_enough_samples) .none kV32 dc32 pm32 an32 cd32 ct32), sl32⟩) (c32 : PySem.W.codeIn K cd32 "enough_samples" = true) (k32 : PySem.W.keepIn K (.ref f32) = true)
    {f33 : Addr} {oc33 kV33 dc33 pm33 cd33 ct33 : Value} {od33 an33 : Option Addr} {sl33 : Array (Option Value)} (a33 : PySem.W.nsIn K mainGlobals "_told_mean" = some (some (.ref f33))) (l33 : K.lookup f33 = some ⟨oc33, od33, .func (PySem.W.fnOf "_told_mean" "_told_mean" (defArgs s__told_mean) (defBody s__told_mean) (defScope s__told_mean) .none kV33 dc33 pm33 an33 cd33 ct33), sl33⟩) (c33 : PySem.W.codeIn K cd33 "_told_mean" = true) (k33 : PySem.W.keepIn K (.ref f33) = true)
    {f34 : Addr} {oc34 kV34 dc34 pm34 cd34 ct34 : Value} {od34 an34 : Option Addr} {sl34 : Array (Option Value)} (a34 : PySem.W.nsIn K mainGlobals "part_form" = some (some (.ref f34))) (l34 : K.lookup f34 = some ⟨oc34, od34, .func (PySem.W.fnOf "part_form" "part_form" (defArgs s_part_form) (defBody s_part_form) (defScope s_part_form) .none kV34 dc34 pm34 an34 cd34 ct34), sl34⟩) (c34 : PySem.W.codeIn K cd34 "part_form" = true) (k34 : PySem.W.keepIn K (.ref f34) = true)
    {f35 : Addr} {oc35 kV35 dc35 pm35 cd35 ct35 : Value} {od35 an35 : Option Addr} {sl35 : Array (Option Value)} (a35 : PySem.W.nsIn K mainGlobals "_law_sum" = some (some (.ref f35))) (l35 : K.lookup f35 = some ⟨oc35, od35, .func (PySem.W.fnOf "_law_sum" "_law_sum" (defArgs s__law_sum) (defBody s__law_sum) (defScope s__law_sum) .none kV35 dc35 pm35 an35 cd35 ct35), sl35⟩) (c35 : PySem.W.codeIn K cd35 "_law_sum" = true) (k35 : PySem.W.keepIn K (.ref f35) = true)
    {f36 : Addr} {oc36 kV36 dc36 pm36 cd36 ct36 : Value} {od36 an36 : Option Addr} {sl36 : Array (Option Value)} (a36 : PySem.W.nsIn K mainGlobals "_law_number" = some (some (.ref f36))) (l36 : K.lookup f36 = some ⟨oc36, od36, .func (PySem.W.fnOf "_law_number" "_law_number" (defArgs s__law_number) (defBody s__law_number) (defScope s__law_number) .none kV36 dc36 pm36 an36 cd36 ct36), sl36⟩) (c36 : PySem.W.codeIn K cd36 "_law_number" = true) (k36 : PySem.W.keepIn K (.ref f36) = true)
    {f37 : Addr} {oc37 kV37 dc37 pm37 cd37 ct37 : Value} {od37 an37 : Option Addr} {sl37 : Array (Option Value)} (a37 : PySem.W.nsIn K mainGlobals "_law_mean" = some (some (.ref f37))) (l37 : K.lookup f37 = some ⟨oc37, od37, .func (PySem.W.fnOf "_law_mean" "_law_mean" (defArgs s__law_mean) (defBody s__law_mean) (defScope s__law_mean) .none kV37 dc37 pm37 an37 cd37 ct37), sl37⟩) (c37 : PySem.W.codeIn K cd37 "_law_mean" = true) (k37 : PySem.W.keepIn K (.ref f37) = true)
    {f38 : Addr} {oc38 kV38 dc38 pm38 cd38 ct38 : Value} {od38 an38 : Option Addr} {sl38 : Array (Option Value)} (a38 : PySem.W.nsIn K mainGlobals "_law_worth" = some (some (.ref f38))) (l38 : K.lookup f38 = some ⟨oc38, od38, .func (PySem.W.fnOf "_law_worth" "_law_worth" (defArgs s__law_worth) (defBody s__law_worth) (defScope s__law_worth) .none kV38 dc38 pm38 an38 cd38 ct38), sl38⟩) (c38 : PySem.W.codeIn K cd38 "_law_worth" = true) (k38 : PySem.W.keepIn K (.ref f38) = true)
    {f39 : Addr} {oc39 kV39 dc39 pm39 cd39 ct39 : Value} {od39 an39 : Option Addr} {sl39 : Array (Option Value)} (a39 : PySem.W.nsIn K mainGlobals "_law_degree" = some (some (.ref f39))) (l39 : K.lookup f39 = some ⟨oc39, od39, .func (PySem.W.fnOf "_law_degree" "_law_degree" (defArgs s__law_degree) (defBody s__law_degree) (defScope s__law_degree) .none kV39 dc39 pm39 an39 cd39 ct39), sl39⟩) (c39 : PySem.W.codeIn K cd39 "_law_degree" = true) (k39 : PySem.W.keepIn K (.ref f39) = true)
    {f40 : Addr} {oc40 kV40 dc40 pm40 cd40 ct40 : Value} {od40 an40 : Option Addr} {sl40 : Array (Option Value)} (a40 : PySem.W.nsIn K mainGlobals "_law_choose" = some (some (.ref f40))) (l40 : K.lookup f40 = some ⟨oc40, od40, .func (PySem.W.fnOf "_law_choose" "_law_choose" (defArgs s__law_choose) (defBody s__law_choose) (defScope s__law_choose) .none kV40 dc40 pm40 an40 cd40 ct40), sl40⟩) (c40 : PySem.W.codeIn K cd40 "_law_choose" = true) (k40 : PySem.W.keepIn K (.ref f40) = true)
    {f41 : Addr} {oc41 kV41 dc41 pm41 cd41 ct41 : Value} {od41 an41 : Option Addr} {sl41 : Array (Option Value)} (a41 : PySem.W.nsIn K mainGlobals "_law_images" = some (some (.ref f41))) (l41 : K.lookup f41 = some ⟨oc41, od41, .func (PySem.W.fnOf "_law_images" "_law_images" (defArgs s__law_images) (defBody s__law_images) (defScope s__law_images) .none kV41 dc41 pm41 an41 cd41 ct41), sl41⟩) (c41 : PySem.W.codeIn K cd41 "_law_images" = true) (k41 : PySem.W.keepIn K (.ref f41) = true)
    {f42 : Addr} {oc42 kV42 dc42 pm42 cd42 ct42 : Value} {od42 an42 : Option Addr} {sl42 : Array (Option Value)} (a42 : PySem.W.nsIn K mainGlobals "_law_best" = some (some (.ref f42))) (l42 : K.lookup f42 = some ⟨oc42, od42, .func (PySem.W.fnOf "_law_best" "_law_best" (defArgs s__law_best) (defBody s__law_best) (defScope s__law_best) .none kV42 dc42 pm42 an42 cd42 ct42), sl42⟩) (c42 : PySem.W.codeIn K cd42 "_law_best" = true) (k42 : PySem.W.keepIn K (.ref f42) = true)
    {f43 : Addr} {oc43 kV43 dc43 pm43 cd43 ct43 : Value} {od43 an43 : Option Addr} {sl43 : Array (Option Value)} (a43 : PySem.W.nsIn K mainGlobals "_law_form" = some (some (.ref f43))) (l43 : K.lookup f43 = some ⟨oc43, od43, .func (PySem.W.fnOf "_law_form" "_law_form" (defArgs s__law_form) (defBody s__law_form) (defScope s__law_form) .none kV43 dc43 pm43 an43 cd43 ct43), sl43⟩) (c43 : PySem.W.codeIn K cd43 "_law_form" = true) (k43 : PySem.W.keepIn K (.ref f43) = true)
    {f44 : Addr} {oc44 kV44 dc44 pm44 cd44 ct44 : Value} {od44 an44 : Option Addr} {sl44 : Array (Option Value)} (a44 : PySem.W.nsIn K mainGlobals "_law_drawings" = some (some (.ref f44))) (l44 : K.lookup f44 = some ⟨oc44, od44, .func (PySem.W.fnOf "_law_drawings" "_law_drawings" (defArgs s__law_drawings) (defBody s__law_drawings) (defScope s__law_drawings) .none kV44 dc44 pm44 an44 cd44 ct44), sl44⟩) (c44 : PySem.W.codeIn K cd44 "_law_drawings" = true) (k44 : PySem.W.keepIn K (.ref f44) = true)
    {f45 : Addr} {oc45 kV45 dc45 pm45 cd45 ct45 : Value} {od45 an45 : Option Addr} {sl45 : Array (Option Value)} (a45 : PySem.W.nsIn K mainGlobals "_law_told_mean" = some (some (.ref f45))) (l45 : K.lookup f45 = some ⟨oc45, od45, .func (PySem.W.fnOf "_law_told_mean" "_law_told_mean" (defArgs s__law_told_mean) (defBody s__law_told_mean) (defScope s__law_told_mean) .none kV45 dc45 pm45 an45 cd45 ct45), sl45⟩) (c45 : PySem.W.codeIn K cd45 "_law_told_mean" = true) (k45 : PySem.W.keepIn K (.ref f45) = true)
    {f46 : Addr} {oc46 kV46 dc46 pm46 cd46 ct46 : Value} {od46 an46 : Option Addr} {sl46 : Array (Option Value)} (a46 : PySem.W.nsIn K mainGlobals "_law_part" = some (some (.ref f46))) (l46 : K.lookup f46 = some ⟨oc46, od46, .func (PySem.W.fnOf "_law_part" "_law_part" (defArgs s__law_part) (defBody s__law_part) (defScope s__law_part) .none kV46 dc46 pm46 an46 cd46 ct46), sl46⟩) (c46 : PySem.W.codeIn K cd46 "_law_part" = true) (k46 : PySem.W.keepIn K (.ref f46) = true)
    {f47 : Addr} {oc47 kV47 dc47 pm47 cd47 ct47 : Value} {od47 an47 : Option Addr} {sl47 : Array (Option Value)} (a47 : PySem.W.nsIn K mainGlobals "_law_spread" = some (some (.ref f47))) (l47 : K.lookup f47 = some ⟨oc47, od47, .func (PySem.W.fnOf "_law_spread" "_law_spread" (defArgs s__law_spread) (defBody s__law_spread) (defScope s__law_spread) .none kV47 dc47 pm47 an47 cd47 ct47), sl47⟩) (c47 : PySem.W.codeIn K cd47 "_law_spread" = true) (k47 : PySem.W.keepIn K (.ref f47) = true)
    {f48 : Addr} {oc48 kV48 dc48 pm48 cd48 ct48 : Value} {od48 an48 : Option Addr} {sl48 : Array (Option Value)} (a48 : PySem.W.nsIn K mainGlobals "_law_both" = some (some (.ref f48))) (l48 : K.lookup f48 = some ⟨oc48, od48, .func (PySem.W.fnOf "_law_both" "_law_both" (defArgs s__law_both) (defBody s__law_both) (defScope s__law_both) .none kV48 dc48 pm48 an48 cd48 ct48), sl48⟩) (c48 : PySem.W.codeIn K cd48 "_law_both" = true) (k48 : PySem.W.keepIn K (.ref f48) = true)
    {f49 : Addr} {oc49 kV49 dc49 pm49 cd49 ct49 : Value} {od49 an49 : Option Addr} {sl49 : Array (Option Value)} (a49 : PySem.W.nsIn K mainGlobals "_law_spread_by" = some (some (.ref f49))) (l49 : K.lookup f49 = some ⟨oc49, od49, .func (PySem.W.fnOf "_law_spread_by" "_law_spread_by" (defArgs s__law_spread_by) (defBody s__law_spread_by) (defScope s__law_spread_by) .none kV49 dc49 pm49 an49 cd49 ct49), sl49⟩) (c49 : PySem.W.codeIn K cd49 "_law_spread_by" = true) (k49 : PySem.W.keepIn K (.ref f49) = true)
    {f50 : Addr} {oc50 kV50 dc50 pm50 cd50 ct50 : Value} {od50 an50 : Option Addr} {sl50 : Array (Option Value)} (a50 : PySem.W.nsIn K mainGlobals "_law_same" = some (some (.ref f50))) (l50 : K.lookup f50 = some ⟨oc50, od50, .func (PySem.W.fnOf "_law_same" "_law_same" (defArgs s__law_same) (defBody s__law_same) (defScope s__law_same) .none kV50 dc50 pm50 an50 cd50 ct50), sl50⟩) (c50 : PySem.W.codeIn K cd50 "_law_same" = true) (k50 : PySem.W.keepIn K (.ref f50) = true)
    {f51 : Addr} {oc51 kV51 dc51 pm51 cd51 ct51 : Value} {od51 an51 : Option Addr} {sl51 : Array (Option Value)} (a51 : PySem.W.nsIn K mainGlobals "_law_take" = some (some (.ref f51))) (l51 : K.lookup f51 = some ⟨oc51, od51, .func (PySem.W.fnOf "_law_take" "_law_take" (defArgs s__law_take) (defBody s__law_take) (defScope s__law_take) .none kV51 dc51 pm51 an51 cd51 ct51), sl51⟩) (c51 : PySem.W.codeIn K cd51 "_law_take" = true) (k51 : PySem.W.keepIn K (.ref f51) = true)
    {f52 : Addr} {oc52 kV52 dc52 pm52 cd52 ct52 : Value} {od52 an52 : Option Addr} {sl52 : Array (Option Value)} (a52 : PySem.W.nsIn K mainGlobals "_law_of" = some (some (.ref f52))) (l52 : K.lookup f52 = some ⟨oc52, od52, .func (PySem.W.fnOf "_law_of" "_law_of" (defArgs s__law_of) (defBody s__law_of) (defScope s__law_of) .none kV52 dc52 pm52 an52 cd52 ct52), sl52⟩) (c52 : PySem.W.codeIn K cd52 "_law_of" = true) (k52 : PySem.W.keepIn K (.ref f52) = true)
    {f53 : Addr} {oc53 kV53 dc53 pm53 cd53 ct53 : Value} {od53 an53 : Option Addr} {sl53 : Array (Option Value)} (a53 : PySem.W.nsIn K mainGlobals "_law_cells" = some (some (.ref f53))) (l53 : K.lookup f53 = some ⟨oc53, od53, .func (PySem.W.fnOf "_law_cells" "_law_cells" (defArgs s__law_cells) (defBody s__law_cells) (defScope s__law_cells) .none kV53 dc53 pm53 an53 cd53 ct53), sl53⟩) (c53 : PySem.W.codeIn K cd53 "_law_cells" = true) (k53 : PySem.W.keepIn K (.ref f53) = true)
    {f54 : Addr} {oc54 kV54 dc54 pm54 cd54 ct54 : Value} {od54 an54 : Option Addr} {sl54 : Array (Option Value)} (a54 : PySem.W.nsIn K mainGlobals "_law_box" = some (some (.ref f54))) (l54 : K.lookup f54 = some ⟨oc54, od54, .func (PySem.W.fnOf "_law_box" "_law_box" (defArgs s__law_box) (defBody s__law_box) (defScope s__law_box) .none kV54 dc54 pm54 an54 cd54 ct54), sl54⟩) (c54 : PySem.W.codeIn K cd54 "_law_box" = true) (k54 : PySem.W.keepIn K (.ref f54) = true)
    {f55 : Addr} {oc55 kV55 dc55 pm55 cd55 ct55 : Value} {od55 an55 : Option Addr} {sl55 : Array (Option Value)} (a55 : PySem.W.nsIn K mainGlobals "_law_source" = some (some (.ref f55))) (l55 : K.lookup f55 = some ⟨oc55, od55, .func (PySem.W.fnOf "_law_source" "_law_source" (defArgs s__law_source) (defBody s__law_source) (defScope s__law_source) .none kV55 dc55 pm55 an55 cd55 ct55), sl55⟩) (c55 : PySem.W.codeIn K cd55 "_law_source" = true) (k55 : PySem.W.keepIn K (.ref f55) = true)
    {f56 : Addr} {oc56 kV56 dc56 pm56 cd56 ct56 : Value} {od56 an56 : Option Addr} {sl56 : Array (Option Value)} (a56 : PySem.W.nsIn K mainGlobals "_law_wish" = some (some (.ref f56))) (l56 : K.lookup f56 = some ⟨oc56, od56, .func (PySem.W.fnOf "_law_wish" "_law_wish" (defArgs s__law_wish) (defBody s__law_wish) (defScope s__law_wish) .none kV56 dc56 pm56 an56 cd56 ct56), sl56⟩) (c56 : PySem.W.codeIn K cd56 "_law_wish" = true) (k56 : PySem.W.keepIn K (.ref f56) = true)
    {f57 : Addr} {oc57 kV57 dc57 pm57 cd57 ct57 : Value} {od57 an57 : Option Addr} {sl57 : Array (Option Value)} (a57 : PySem.W.nsIn K mainGlobals "_law_enough_right" = some (some (.ref f57))) (l57 : K.lookup f57 = some ⟨oc57, od57, .func (PySem.W.fnOf "_law_enough_right" "_law_enough_right" (defArgs s__law_enough_right) (defBody s__law_enough_right) (defScope s__law_enough_right) .none kV57 dc57 pm57 an57 cd57 ct57), sl57⟩) (c57 : PySem.W.codeIn K cd57 "_law_enough_right" = true) (k57 : PySem.W.keepIn K (.ref f57) = true)
    {f58 : Addr} {oc58 kV58 dc58 pm58 cd58 ct58 : Value} {od58 an58 : Option Addr} {sl58 : Array (Option Value)} (a58 : PySem.W.nsIn K mainGlobals "_law_case_right" = some (some (.ref f58))) (l58 : K.lookup f58 = some ⟨oc58, od58, .func (PySem.W.fnOf "_law_case_right" "_law_case_right" (defArgs s__law_case_right) (defBody s__law_case_right) (defScope s__law_case_right) .none kV58 dc58 pm58 an58 cd58 ct58), sl58⟩) (c58 : PySem.W.codeIn K cd58 "_law_case_right" = true) (k58 : PySem.W.keepIn K (.ref f58) = true)
    {f59 : Addr} {oc59 kV59 dc59 pm59 cd59 ct59 : Value} {od59 an59 : Option Addr} {sl59 : Array (Option Value)} (a59 : PySem.W.nsIn K mainGlobals "_law_by_hand_right" = some (some (.ref f59))) (l59 : K.lookup f59 = some ⟨oc59, od59, .func (PySem.W.fnOf "_law_by_hand_right" "_law_by_hand_right" (defArgs s__law_by_hand_right) (defBody s__law_by_hand_right) (defScope s__law_by_hand_right) .none kV59 dc59 pm59 an59 cd59 ct59), sl59⟩) (c59 : PySem.W.codeIn K cd59 "_law_by_hand_right" = true) (k59 : PySem.W.keepIn K (.ref f59) = true)
    {f60 : Addr} {oc60 kV60 dc60 pm60 cd60 ct60 : Value} {od60 an60 : Option Addr} {sl60 : Array (Option Value)} (a60 : PySem.W.nsIn K mainGlobals "_law_right" = some (some (.ref f60))) (l60 : K.lookup f60 = some ⟨oc60, od60, .func (PySem.W.fnOf "_law_right" "_law_right" (defArgs s__law_right) (defBody s__law_right) (defScope s__law_right) .none kV60 dc60 pm60 an60 cd60 ct60), sl60⟩) (c60 : PySem.W.codeIn K cd60 "_law_right" = true) (k60 : PySem.W.keepIn K (.ref f60) = true)
    {f61 : Addr} {oc61 kV61 dc61 pm61 cd61 ct61 : Value} {od61 an61 : Option Addr} {sl61 : Array (Option Value)} (a61 : PySem.W.nsIn K mainGlobals "law" = some (some (.ref f61))) (l61 : K.lookup f61 = some ⟨oc61, od61, .func (PySem.W.fnOf "law" "law" (defArgs s_law) (defBody s_law) (defScope s_law) .none kV61 dc61 pm61 an61 cd61 ct61), sl61⟩) (c61 : PySem.W.codeIn K cd61 "law" = true) (k61 : PySem.W.keepIn K (.ref f61) = true)
    {q1 : Addr} {t1 u1 : Tok} {m1 : Nat} {qd1 : Option Addr} {qs1 : Array (Option Value)} (b1 : PySem.W.nsIn K mainGlobals "ZERO_sources" = some (some (.ref q1))) (e1 : K.lookup q1 = some ⟨.type "tuple", qd1, .seq #[.int 0 t1, .int 1 u1] m1, qs1⟩)
    {q2 : Addr} {t2 u2 : Tok} {m2 : Nat} {qd2 : Option Addr} {qs2 : Array (Option Value)} (b2 : PySem.W.nsIn K mainGlobals "ONE_sources" = some (some (.ref q2))) (e2 : K.lookup q2 = some ⟨.type "tuple", qd2, .seq #[.int 1 t2, .int 1 u2] m2, qs2⟩)
    {q3 : Addr} {t3 u3 : Tok} {m3 : Nat} {qd3 : Option Addr} {qs3 : Array (Option Value)} (b3 : PySem.W.nsIn K mainGlobals "ZERO_forms" = some (some (.ref q3))) (e3 : K.lookup q3 = some ⟨.type "tuple", qd3, .seq #[.int 0 t3, .int 1 u3] m3, qs3⟩)
    {q4 : Addr} {t4 u4 : Tok} {m4 : Nat} {qd4 : Option Addr} {qs4 : Array (Option Value)} (b4 : PySem.W.nsIn K mainGlobals "ZERO_wishes" = some (some (.ref q4))) (e4 : K.lookup q4 = some ⟨.type "tuple", qd4, .seq #[.int 0 t4, .int 1 u4] m4, qs4⟩)
    {q5 : Addr} {t5 u5 : Tok} {m5 : Nat} {qd5 : Option Addr} {qs5 : Array (Option Value)} (b5 : PySem.W.nsIn K mainGlobals "ZERO_layers" = some (some (.ref q5))) (e5 : K.lookup q5 = some ⟨.type "tuple", qd5, .seq #[.int 0 t5, .int 1 u5] m5, qs5⟩)
    {q6 : Addr} {m6 : Nat} {qd6 : Option Addr} {qs6 : Array (Option Value)} (b6 : PySem.W.nsIn K mainGlobals "BLANK" = some (some (.ref q6))) (e6 : K.lookup q6 = some ⟨.type "tuple", qd6, .seq #[] m6, qs6⟩)
    {q7 : Addr} {t7 u7 : Tok} {m7 : Nat} {qd7 : Option Addr} {qs7 : Array (Option Value)} (b7 : PySem.W.nsIn K mainGlobals "ONE_layers" = some (some (.ref q7))) (e7 : K.lookup q7 = some ⟨.type "tuple", qd7, .seq #[.int 1 t7, .int 1 u7] m7, qs7⟩)
    {q8 : Addr} {t8 u8 : Tok} {m8 : Nat} {qd8 : Option Addr} {qs8 : Array (Option Value)} (b8 : PySem.W.nsIn K mainGlobals "LESS" = some (some (.ref q8))) (e8 : K.lookup q8 = some ⟨.type "tuple", qd8, .seq #[.int (-1) t8, .int 1 u8] m8, qs8⟩)
    (s1 : PySem.W.nsIn K mainGlobals "gcd" = some (some (.builtin "math.gcd")))
    (s2 : PySem.W.nsIn K mainGlobals "comb" = some (some (.builtin "math.comb")))
    (s3 : PySem.W.nsIn K mainGlobals "perm" = some (some (.builtin "math.perm")))
    (s4 : PySem.W.nsIn K mainGlobals "combinations" = some (some (.type "itertools.combinations")))
    (s5 : PySem.W.nsIn K mainGlobals "permutations" = some (some (.type "itertools.permutations")))
    (z1 : PySem.W.nsIn K mainGlobals "abs" = some none)
    (z2 : PySem.W.nsIn K mainGlobals "int" = some none)
    (z3 : PySem.W.nsIn K mainGlobals "isinstance" = some none)
    (z4 : PySem.W.nsIn K mainGlobals "list" = some none)
    (z5 : PySem.W.nsIn K mainGlobals "tuple" = some none)
    (z6 : PySem.W.nsIn K mainGlobals "zip" = some none)
    (z7 : PySem.W.nsIn K mainGlobals "sorted" = some none)
    (z8 : PySem.W.nsIn K mainGlobals "max" = some none)
    (z9 : PySem.W.nsIn K mainGlobals "len" = some none)
    (z10 : PySem.W.nsIn K mainGlobals "enumerate" = some none)
    (z11 : PySem.W.nsIn K mainGlobals "range" = some none)
    (z12 : PySem.W.nsIn K mainGlobals "bool" = some none)
    (z13 : PySem.W.nsIn K mainGlobals "str" = some none)
    (z14 : PySem.W.nsIn K mainGlobals "all" = some none)
    (z15 : PySem.W.nsIn K mainGlobals "set" = some none)
    (z16 : PySem.W.nsIn K mainGlobals "sum" = some none) :
    ∃ fd : FuncData, (∀ (s : Shared) (v : Value), BindsTo s fd ⟨[v], []⟩ [("_law_script", v)]) ∧ ∀ base : Heap, K.In base → base.Ns mainGlobals mg → FnOk P w K mg base CX0 13 fa fd ["_law_script"] (spP K R_law) := by
  have e := hfa.symm.trans (PySem.W.mg_of X G a61)
  cases e
  have FL := fun_mk (st := s_law) l61 c61 k61
  have D_fraction : Df K mg "fraction" s_fraction := df_mk X G a1 l1 c1 k1
  have D_plus : Df K mg "plus" s_plus := df_mk X G a2 l2 c2 k2
  have D_times : Df K mg "times" s_times := df_mk X G a3 l3 c3 k3
  have D__law_low : Df K mg "_law_low" s__law_low := df_mk X G a4 l4 c4 k4
  have D__law_add : Df K mg "_law_add" s__law_add := df_mk X G a5 l5 c5 k5
  have D__law_mul : Df K mg "_law_mul" s__law_mul := df_mk X G a6 l6 c6 k6
  have D_tuple_of : Df K mg "tuple_of" s_tuple_of := df_mk X G a7 l7 c7 k7
  have D__power : Df K mg "_power" s__power := df_mk X G a8 l8 c8 k8
  have D_power_of : Df K mg "power_of" s_power_of := df_mk X G a9 l9 c9 k9
  have D_is_less : Df K mg "is_less" s_is_less := df_mk X G a10 l10 c10 k10
  have D_sum_of : Df K mg "sum_of" s_sum_of := df_mk X G a11 l11 c11 k11
  have D_row_moment : Df K mg "row_moment" s_row_moment := df_mk X G a12 l12 c12 k12
  have D_moment_at : Df K mg "moment_at" s_moment_at := df_mk X G a13 l13 c13 k13
  have D_gathered : Df K mg "gathered" s_gathered := df_mk X G a14 l14 c14 k14
  have D_gathered_wish : Df K mg "gathered_wish" s_gathered_wish := df_mk X G a15 l15 c15 k15
  have D__summed : Df K mg "_summed" s__summed := df_mk X G a16 l16 c16 k16
  have D_wish_degree : Df K mg "wish_degree" s_wish_degree := df_mk X G a17 l17 c17 k17
  have D_wish_value : Df K mg "wish_value" s_wish_value := df_mk X G a18 l18 c18 k18
  have D_wish_plus : Df K mg "wish_plus" s_wish_plus := df_mk X G a19 l19 c19 k19
  have D_wish_scaled : Df K mg "wish_scaled" s_wish_scaled := df_mk X G a20 l20 c20 k20
  have D_joined_moment : Df K mg "joined_moment" s_joined_moment := df_mk X G a21 l21 c21 k21
  have D__filled : Df K mg "_filled" s__filled := df_mk X G a22 l22 c22 k22
  have D__met : Df K mg "_met" s__met := df_mk X G a23 l23 c23 k23
  have D__shared : Df K mg "_shared" s__shared := df_mk X G a24 l24 c24 k24
  have D_shared_mean : Df K mg "shared_mean" s_shared_mean := df_mk X G a25 l25 c25 k25
  have D__layer : Df K mg "_layer" s__layer := df_mk X G a26 l26 c26 k26
  have D_layer : Df K mg "layer" s_layer := df_mk X G a27 l27 c27 k27
  have D_layers_at : Df K mg "layers_at" s_layers_at := df_mk X G a28 l28 c28 k28
  have D__shares : Df K mg "_shares" s__shares := df_mk X G a29 l29 c29 k29
  have D_layer_shares : Df K mg "layer_shares" s_layer_shares := df_mk X G a30 l30 c30 k30
  have D_best_spread : Df K mg "best_spread" s_best_spread := df_mk X G a31 l31 c31 k31
  have D_enough_samples : Df K mg "enough_samples" s_enough_samples := df_mk X G a32 l32 c32 k32
  have D__told_mean : Df K mg "_told_mean" s__told_mean := df_mk X G a33 l33 c33 k33
  have D_part_form : Df K mg "part_form" s_part_form := df_mk X G a34 l34 c34 k34
  have D__law_sum : Df K mg "_law_sum" s__law_sum := df_mk X G a35 l35 c35 k35
  have D__law_number : Df K mg "_law_number" s__law_number := df_mk X G a36 l36 c36 k36
  have D__law_mean : Df K mg "_law_mean" s__law_mean := df_mk X G a37 l37 c37 k37
  have D__law_worth : Df K mg "_law_worth" s__law_worth := df_mk X G a38 l38 c38 k38
  have D__law_degree : Df K mg "_law_degree" s__law_degree := df_mk X G a39 l39 c39 k39
  have D__law_choose : Df K mg "_law_choose" s__law_choose := df_mk X G a40 l40 c40 k40
  have D__law_images : Df K mg "_law_images" s__law_images := df_mk X G a41 l41 c41 k41
  have D__law_best : Df K mg "_law_best" s__law_best := df_mk X G a42 l42 c42 k42
  have D__law_form : Df K mg "_law_form" s__law_form := df_mk X G a43 l43 c43 k43
  have D__law_drawings : Df K mg "_law_drawings" s__law_drawings := df_mk X G a44 l44 c44 k44
  have D__law_told_mean : Df K mg "_law_told_mean" s__law_told_mean := df_mk X G a45 l45 c45 k45
  have D__law_part : Df K mg "_law_part" s__law_part := df_mk X G a46 l46 c46 k46
  have D__law_spread : Df K mg "_law_spread" s__law_spread := df_mk X G a47 l47 c47 k47
  have D__law_both : Df K mg "_law_both" s__law_both := df_mk X G a48 l48 c48 k48
  have D__law_spread_by : Df K mg "_law_spread_by" s__law_spread_by := df_mk X G a49 l49 c49 k49
  have D__law_same : Df K mg "_law_same" s__law_same := df_mk X G a50 l50 c50 k50
  have D__law_take : Df K mg "_law_take" s__law_take := df_mk X G a51 l51 c51 k51
  have D__law_of : Df K mg "_law_of" s__law_of := df_mk X G a52 l52 c52 k52
  have D__law_cells : Df K mg "_law_cells" s__law_cells := df_mk X G a53 l53 c53 k53
  have D__law_box : Df K mg "_law_box" s__law_box := df_mk X G a54 l54 c54 k54
  have D__law_source : Df K mg "_law_source" s__law_source := df_mk X G a55 l55 c55 k55
  have D__law_wish : Df K mg "_law_wish" s__law_wish := df_mk X G a56 l56 c56 k56
  have D__law_enough_right : Df K mg "_law_enough_right" s__law_enough_right := df_mk X G a57 l57 c57 k57
  have D__law_case_right : Df K mg "_law_case_right" s__law_case_right := df_mk X G a58 l58 c58 k58
  have D__law_by_hand_right : Df K mg "_law_by_hand_right" s__law_by_hand_right := df_mk X G a59 l59 c59 k59
  have D__law_right : Df K mg "_law_right" s__law_right := df_mk X G a60 l60 c60 k60
  have g_ZERO_sources : GlD K mg "ZERO_sources" (rd 0) := gl_two X G b1 e1
  have g_ONE_sources : GlD K mg "ONE_sources" (rd 1) := gl_two X G b2 e2
  have g_ZERO_forms : GlD K mg "ZERO_forms" (rd 0) := gl_two X G b3 e3
  have g_ZERO_wishes : GlD K mg "ZERO_wishes" (rd 0) := gl_two X G b4 e4
  have g_ZERO_layers : GlD K mg "ZERO_layers" (rd 0) := gl_two X G b5 e5
  have g_BLANK : GlD K mg "BLANK" (eM []) := gl_nil X G b6 e6
  have g_ONE_layers : GlD K mg "ONE_layers" (rd 1) := gl_two X G b7 e7
  have g_LESS : GlD K mg "LESS" (rd (-1)) := gl_two X G b8 e8
  have y_gcd := PySem.W.mg_of X G s1
  have y_comb := PySem.W.mg_of X G s2
  have y_perm := PySem.W.mg_of X G s3
  have y_combinations := PySem.W.mg_of X G s4
  have y_permutations := PySem.W.mg_of X G s5
  have z_abs := PySem.W.mg_none_of X G z1
  have z_int := PySem.W.mg_none_of X G z2
  have z_isinstance := PySem.W.mg_none_of X G z3
  have z_list := PySem.W.mg_none_of X G z4
  have z_tuple := PySem.W.mg_none_of X G z5
  have z_zip := PySem.W.mg_none_of X G z6
  have z_sorted := PySem.W.mg_none_of X G z7
  have z_max := PySem.W.mg_none_of X G z8
  have z_len := PySem.W.mg_none_of X G z9
  have z_enumerate := PySem.W.mg_none_of X G z10
  have z_range := PySem.W.mg_none_of X G z11
  have z_bool := PySem.W.mg_none_of X G z12
  have z_str := PySem.W.mg_none_of X G z13
  have z_all := PySem.W.mg_none_of X G z14
  have z_set := PySem.W.mg_none_of X G z15
  have z_sum := PySem.W.mg_none_of X G z16
  refine ⟨PySem.W.fnOf "law" "law" (defArgs s_law) (defBody s_law) (defScope s_law) .none kV61 dc61 pm61 an61 cd61 ct61, fun s v => .of_eq rfl, fun base _ _ => ?_⟩
  have F_fraction := ok_fraction (P := P) (w := w) (base := base) D_fraction y_gcd
  have F_plus := ok_plus (P := P) (w := w) (base := base) D_plus F_fraction
  have F_times := ok_times (P := P) (w := w) (base := base) D_times F_fraction
  have F__law_low := ok_law_low (P := P) (w := w) (base := base) D__law_low z_abs z_int
  have F__law_add := ok_law_add (P := P) (w := w) (base := base) D__law_add F__law_low
  have F__law_mul := ok_law_mul (P := P) (w := w) (base := base) D__law_mul F__law_low
  have F_tuple_of := fun n => ok_tuple_of (P := P) (w := w) (base := base) D_tuple_of z_isinstance z_list z_tuple n
  have F__power := ok_power (P := P) (w := w) (base := base) D__power
  have F_power_of := ok_power_of (P := P) (w := w) (base := base) D_power_of F__power
  have F_is_less := ok_is_less (P := P) (w := w) (base := base) D_is_less
  have F_sum_of := ok_sum_of (P := P) (w := w) (base := base) D_sum_of F_plus g_ZERO_sources
  have F_row_moment := ok_row_moment (P := P) (w := w) (base := base) D_row_moment F_times F_power_of g_ONE_sources z_zip
  have F_moment_at := ok_moment_at (P := P) (w := w) (base := base) D_moment_at F_times F_row_moment F_sum_of (F_tuple_of 4)
  have F_gathered := ok_gathered (P := P) (w := w) (base := base) D_gathered F_plus g_ZERO_forms z_sorted z_tuple
  have F_gathered_wish := ok_gathered_wish (P := P) (w := w) (base := base) D_gathered_wish F_plus g_ZERO_wishes z_sorted z_tuple
  have F__summed := ok__summed (P := P) (w := w) (base := base) D__summed F_plus g_ZERO_layers z_sorted z_tuple
  have F_wish_degree := ok_wish_degree (P := P) (w := w) (base := base) D_wish_degree z_max z_len
  have F_wish_value := ok_wish_value (P := P) (w := w) (base := base) D_wish_value F_times F_plus F_moment_at (F_tuple_of 4) g_ZERO_wishes
  have F_wish_plus := ok_wish_plus (P := P) (w := w) (base := base) D_wish_plus F_gathered_wish (F_tuple_of 4)
  have F_wish_scaled := ok_wish_scaled (P := P) (w := w) (base := base) D_wish_scaled F_gathered_wish F_tuple_of F_times
  have F_joined_moment := ok_joined_moment (P := P) (w := w) (base := base) D_joined_moment z_zip z_tuple
  have F__filled := ok_filled (P := P) (w := w) (base := base) D__filled g_BLANK z_len
  have F__met := ok_met (P := P) (w := w) (base := base) D__met F_joined_moment g_BLANK z_zip z_enumerate z_sorted z_tuple
  have F__shared := ok_shared (P := P) (w := w) (base := base) D__shared F_wish_degree F_fraction F__filled F_times F__met F__summed y_comb y_perm z_list z_range y_combinations y_permutations z_int
  have F_shared_mean := ok_shared_mean (P := P) (w := w) (base := base) D_shared_mean F_wish_degree F_tuple_of F__shared
  have F__layer := ok__layer (P := P) (w := w) (base := base) D__layer F__shared F_wish_plus F_wish_scaled z_range y_comb
  have F_layer := ok_layer (P := P) (w := w) (base := base) D_layer F_wish_degree F_tuple_of F__layer
  have F_layers_at := ok_layers_at (P := P) (w := w) (base := base) D_layers_at F_wish_degree F_tuple_of F__layer F_wish_value z_range
  have F__shares := ok__shares (P := P) (w := w) (base := base) D__shares F_fraction z_range y_comb
  have F_layer_shares := ok_layer_shares (P := P) (w := w) (base := base) D_layer_shares F_wish_degree F__shares
  have F_best_spread := ok_best_spread (P := P) (w := w) (base := base) D_best_spread F_tuple_of F_layer_shares F__layer F_wish_plus F_wish_scaled z_enumerate
  have F_enough_samples := ok_enough (P := P) (w := w) (base := base) D_enough_samples F_wish_degree F_layers_at F_is_less F_sum_of F_times F__shares z_max z_zip
  have F__told_mean := ok_told_mean (P := P) (w := w) (base := base) D__told_mean F__filled F_fraction F_times F_moment_at g_BLANK z_len z_list z_range y_permutations z_enumerate z_zip z_tuple
  have F_part_form := ok_part_form (P := P) (w := w) (base := base) D_part_form F_tuple_of F_wish_degree F__told_mean F_times F_gathered g_ONE_layers g_LESS z_range y_combinations
  have F__law_sum := ok_law_sum (P := P) (w := w) (base := base) D__law_sum F__law_add
  have F__law_number := ok_law_number (P := P) (w := w) (base := base) D__law_number F__law_low z_zip z_range
  have F__law_mean := ok_law_mean (P := P) (w := w) (base := base) D__law_mean F__law_mul F__law_number F__law_sum
  have F__law_worth := ok_law_worth (P := P) (w := w) (base := base) D__law_worth F__law_mul F__law_add F__law_mean
  have F__law_degree := ok_law_degree (P := P) (w := w) (base := base) D__law_degree z_max z_len
  have F__law_choose := ok_law_choose (P := P) (w := w) (base := base) D__law_choose z_range
  have F__law_images := ok_law_images (P := P) (w := w) (base := base) D__law_images z_range
  have F__law_best := ok_law_best (P := P) (w := w) (base := base) D__law_best F__law_mul F__law_add F__law_number F__law_images z_len z_zip
  have F__law_form := ok_law_form (P := P) (w := w) (base := base) D__law_form F__law_mul F__law_add F__law_number z_zip
  have F__law_drawings := ok_law_drawings (P := P) (w := w) (base := base) D__law_drawings F__law_mul z_range
  have F__law_told_mean := ok_law_told (P := P) (w := w) (base := base) D__law_told_mean F__law_mul F__law_add F__law_best F__law_drawings F__law_degree z_len
  have F__law_part := ok_law_part (P := P) (w := w) (base := base) D__law_part F__law_mul F__law_add F__law_told_mean z_len
  have F__law_spread := ok_law_spread (P := P) (w := w) (base := base) D__law_spread F__law_mul F__law_add F__law_best F__law_drawings F__law_worth
  have F__law_both := ok_law_both (P := P) (w := w) (base := base) D__law_both F__law_mul F__law_add F__law_best F__law_drawings F__law_degree
  have F__law_spread_by := ok_law_spread_by (P := P) (w := w) (base := base) D__law_spread_by F__law_mul F__law_sum F__law_low F__law_choose z_len z_range z_zip
  have F__law_same := fun n => ok_law_same (P := P) (w := w) (base := base) D__law_same z_isinstance z_list z_tuple z_bool z_str z_int z_len z_all z_zip n
  have F__law_take := ok_law_take (P := P) (w := w) (base := base) D__law_take z_int
  have F__law_of := ok_law_of (P := P) (w := w) (base := base) D__law_of F__law_take z_len
  have F__law_cells := ok_law_cells (P := P) (w := w) (base := base) D__law_cells z_int z_list z_enumerate
  have F__law_box := ok_law_box (P := P) (w := w) (base := base) D__law_box z_int z_len z_abs
  have F__law_source := ok_law_source (P := P) (w := w) (base := base) D__law_source F__law_take F__law_low z_range z_tuple z_set z_sorted z_sum z_zip
  have F__law_wish := ok_law_wish (P := P) (w := w) (base := base) D__law_wish F__law_take F__law_of z_range z_tuple z_sorted
  have F__law_enough_right := ok_law_enr (P := P) (w := w) (base := base) D__law_enough_right F__law_take F__law_of F__law_spread_by F_enough_samples (F__law_same 0) F__law_mul z_len z_range
  have F__law_case_right := ok_law_case (P := P) (w := w) (base := base) D__law_case_right F__law_take F__law_of F__law_degree F__law_drawings F__law_part F__law_mul F__law_sum F__law_same F_layers_at F__law_worth F_layer F_shared_mean F__law_both F__law_form F_part_form F__law_low F__law_choose F__law_spread F_layer_shares F_best_spread F__law_enough_right z_range z_tuple z_zip
  have F__law_by_hand_right := ok_law_hand (P := P) (w := w) (base := base) D__law_by_hand_right F__law_same F_layers_at F_layer F_shared_mean F_part_form F_layer_shares F_best_spread F_enough_samples
  have F__law_right := ok_law_right (P := P) (w := w) (base := base) D__law_right F__law_take F__law_wish F__law_source F__law_degree F__law_case_right
  exact ok_law FL F__law_by_hand_right F__law_right F__law_box F__law_cells
end
end DW
open PySem PySem.W PyProof.Rows
set_option maxHeartbeats 0 in
theorem PySem.Challenge.cw_everysource_k67_whole_layers_by_all_draw_holds : PySem.Challenge.rw_everysource_k67_whole_layers_by_all_draw.Holds := by
  w_on; o_law; k_head; (case hw => w_witness2)
  k_fill
  refine L2.walk_ofB (l := PySem.Challenge.rw_everysource_k67_whole_layers_by_all_draw) (n := 63) (k := 13) (x := "_law_script") (CX := fun _ => L2.CX0) (sp := fun w => DW.spP _ DW.R_law) rfl (by decide) rfl ⟨rfl, by decide, by decide⟩ (fun w h Y => PySem.W.kIn_of Y) ?F (fun _ H a ns hl hb _ hS => ⟨H, [.list (ns.map .int)], .bool true, DW.same_refl, .cons (.lst hS (DW.int_data ns)) .nil, ⟨ns, rfl, hl, hb, rfl⟩, fun v F' H' _ _ dv => dv.bool_inv⟩) (fun _ _ _ _ _ h => h)
  case F =>
    intro w mg fa h KX G hmg
    refine' DW.all_mk KX G hmg ?a1 ?l1 ?c1 ?k1 ?a2 ?l2 ?c2 ?k2 ?a3 ?l3 ?c3 ?k3 ?a4 ?l4 ?c4 ?k4 ?a5 ?l5 ?c5 ?k5 ?a6 ?l6 ?c6 ?k6 ?a7 ?l7 ?c7 ?k7 ?a8 ?l8 ?c8 ?k8 ?a9 ?l9 ?c9 ?k9 ?a10 ?l10 ?c10 ?k10 ?a11 ?l11 ?c11 ?k11 ?a12 ?l12 ?c12 ?k12 ?a13 ?l13 ?c13 ?k13 ?a14 ?l14 ?c14 ?k14 ?a15 ?l15 ?c15 ?k15 ?a16 ?l16 ?c16 ?k16 ?a17 ?l17 ?c17 ?k17 ?a18 ?l18 ?c18 ?k18 ?a19 ?l19 ?c19 ?k19 ?a20 ?l20 ?c20 ?k20 ?a21 ?l21 ?c21 ?k21 ?a22 ?l22 ?c22 ?k22 ?a23 ?l23 ?c23 ?k23 ?a24 ?l24 ?c24 ?k24 ?a25 ?l25 ?c25 ?k25 ?a26 ?l26 ?c26 ?k26 ?a27 ?l27 ?c27 ?k27 ?a28 ?l28 ?c28 ?k28 ?a29 ?l29 ?c29 ?k29 ?a30 ?l30 ?c30 ?k30 ?a31 ?l31 ?c31 ?k31 ?a32 ?l32 ?c32 ?k32 ?a33 ?l33 ?c33 ?k33 ?a34 ?l34 ?c34 ?k34 ?a35 ?l35 ?c35 ?k35 ?a36 ?l36 ?c36 ?k36 ?a37 ?l37 ?c37 ?k37 ?a38 ?l38 ?c38 ?k38 ?a39 ?l39 ?c39 ?k39 ?a40 ?l40 ?c40 ?k40 ?a41 ?l41 ?c41 ?k41 ?a42 ?l42 ?c42 ?k42 ?a43 ?l43 ?c43 ?k43 ?a44 ?l44 ?c44 ?k44 ?a45 ?l45 ?c45 ?k45 ?a46 ?l46 ?c46 ?k46 ?a47 ?l47 ?c47 ?k47 ?a48 ?l48 ?c48 ?k48 ?a49 ?l49 ?c49 ?k49 ?a50 ?l50 ?c50 ?k50 ?a51 ?l51 ?c51 ?k51 ?a52 ?l52 ?c52 ?k52 ?a53 ?l53 ?c53 ?k53 ?a54 ?l54 ?c54 ?k54 ?a55 ?l55 ?c55 ?k55 ?a56 ?l56 ?c56 ?k56 ?a57 ?l57 ?c57 ?k57 ?a58 ?l58 ?c58 ?k58 ?a59 ?l59 ?c59 ?k59 ?a60 ?l60 ?c60 ?k60 ?a61 ?l61 ?c61 ?k61 ?b1 ?e1 ?b2 ?e2 ?b3 ?e3 ?b4 ?e4 ?b5 ?e5 ?b6 ?e6 ?b7 ?e7 ?b8 ?e8 ?s1 ?s2 ?s3 ?s4 ?s5 ?z1 ?z2 ?z3 ?z4 ?z5 ?z6 ?z7 ?z8 ?z9 ?z10 ?z11 ?z12 ?z13 ?z14 ?z15 ?z16
    (case a1 => k_is)
    (case l1 => k_is)
    (case c1 => k_is)
    (case k1 => k_is)
    (case a2 => k_is)
    (case l2 => k_is)
    (case c2 => k_is)
    (case k2 => k_is)
    (case a3 => k_is)
    (case l3 => k_is)
    (case c3 => k_is)
    (case k3 => k_is)
    (case a4 => k_is)
    (case l4 => k_is)
    (case c4 => k_is)
    (case k4 => k_is)
    (case a5 => k_is)
    (case l5 => k_is)
    (case c5 => k_is)
    (case k5 => k_is)
    (case a6 => k_is)
    (case l6 => k_is)
    (case c6 => k_is)
    (case k6 => k_is)
    (case a7 => k_is)
    (case l7 => k_is)
    (case c7 => k_is)
    (case k7 => k_is)
    (case a8 => k_is)
    (case l8 => k_is)
    (case c8 => k_is)
    (case k8 => k_is)
    (case a9 => k_is)
    (case l9 => k_is)
    (case c9 => k_is)
    (case k9 => k_is)
    (case a10 => k_is)
    (case l10 => k_is)
    (case c10 => k_is)
    (case k10 => k_is)
    (case a11 => k_is)
    (case l11 => k_is)
    (case c11 => k_is)
    (case k11 => k_is)
    (case a12 => k_is)
    (case l12 => k_is)
    (case c12 => k_is)
    (case k12 => k_is)
    (case a13 => k_is)
    (case l13 => k_is)
    (case c13 => k_is)
    (case k13 => k_is)
    (case a14 => k_is)
    (case l14 => k_is)
    (case c14 => k_is)
    (case k14 => k_is)
    (case a15 => k_is)
    (case l15 => k_is)
    (case c15 => k_is)
    (case k15 => k_is)
    (case a16 => k_is)
    (case l16 => k_is)
    (case c16 => k_is)
    (case k16 => k_is)
    (case a17 => k_is)
    (case l17 => k_is)
    (case c17 => k_is)
    (case k17 => k_is)
    (case a18 => k_is)
    (case l18 => k_is)
    (case c18 => k_is)
    (case k18 => k_is)
    (case a19 => k_is)
    (case l19 => k_is)
    (case c19 => k_is)
    (case k19 => k_is)
    (case a20 => k_is)
    (case l20 => k_is)
    (case c20 => k_is)
    (case k20 => k_is)
    (case a21 => k_is)
    (case l21 => k_is)
    (case c21 => k_is)
    (case k21 => k_is)
    (case a22 => k_is)
    (case l22 => k_is)
    (case c22 => k_is)
    (case k22 => k_is)
    (case a23 => k_is)
    (case l23 => k_is)
    (case c23 => k_is)
    (case k23 => k_is)
    (case a24 => k_is)
    (case l24 => k_is)
    (case c24 => k_is)
    (case k24 => k_is)
    (case a25 => k_is)
    (case l25 => k_is)
    (case c25 => k_is)
    (case k25 => k_is)
    (case a26 => k_is)
    (case l26 => k_is)
    (case c26 => k_is)
    (case k26 => k_is)
    (case a27 => k_is)
    (case l27 => k_is)
    (case c27 => k_is)
    (case k27 => k_is)
    (case a28 => k_is)
    (case l28 => k_is)
    (case c28 => k_is)
    (case k28 => k_is)
    (case a29 => k_is)
    (case l29 => k_is)
    (case c29 => k_is)
    (case k29 => k_is)
    (case a30 => k_is)
    (case l30 => k_is)
    (case c30 => k_is)
    (case k30 => k_is)
    (case a31 => k_is)
    (case l31 => k_is)
    (case c31 => k_is)
    (case k31 => k_is)
    (case a32 => k_is)
    (case l32 => k_is)
    (case c32 => k_is)
    (case k32 => k_is)
    (case a33 => k_is)
    (case l33 => k_is)
    (case c33 => k_is)
    (case k33 => k_is)
    (case a34 => k_is)
    (case l34 => k_is)
    (case c34 => k_is)
    (case k34 => k_is)
    (case a35 => k_is)
    (case l35 => k_is)
    (case c35 => k_is)
    (case k35 => k_is)
    (case a36 => k_is)
    (case l36 => k_is)
    (case c36 => k_is)
    (case k36 => k_is)
    (case a37 => k_is)
    (case l37 => k_is)
    (case c37 => k_is)
    (case k37 => k_is)
    (case a38 => k_is)
    (case l38 => k_is)
    (case c38 => k_is)
    (case k38 => k_is)
    (case a39 => k_is)
    (case l39 => k_is)
    (case c39 => k_is)
    (case k39 => k_is)
    (case a40 => k_is)
    (case l40 => k_is)
    (case c40 => k_is)
    (case k40 => k_is)
    (case a41 => k_is)
    (case l41 => k_is)
    (case c41 => k_is)
    (case k41 => k_is)
    (case a42 => k_is)
    (case l42 => k_is)
    (case c42 => k_is)
    (case k42 => k_is)
    (case a43 => k_is)
    (case l43 => k_is)
    (case c43 => k_is)
    (case k43 => k_is)
    (case a44 => k_is)
    (case l44 => k_is)
    (case c44 => k_is)
    (case k44 => k_is)
    (case a45 => k_is)
    (case l45 => k_is)
    (case c45 => k_is)
    (case k45 => k_is)
    (case a46 => k_is)
    (case l46 => k_is)
    (case c46 => k_is)
    (case k46 => k_is)
    (case a47 => k_is)
    (case l47 => k_is)
    (case c47 => k_is)
    (case k47 => k_is)
    (case a48 => k_is)
    (case l48 => k_is)
    (case c48 => k_is)
    (case k48 => k_is)
    (case a49 => k_is)
    (case l49 => k_is)
    (case c49 => k_is)
    (case k49 => k_is)
    (case a50 => k_is)
    (case l50 => k_is)
    (case c50 => k_is)
    (case k50 => k_is)
    (case a51 => k_is)
    (case l51 => k_is)
    (case c51 => k_is)
    (case k51 => k_is)
    (case a52 => k_is)
    (case l52 => k_is)
    (case c52 => k_is)
    (case k52 => k_is)
    (case a53 => k_is)
    (case l53 => k_is)
    (case c53 => k_is)
    (case k53 => k_is)
    (case a54 => k_is)
    (case l54 => k_is)
    (case c54 => k_is)
    (case k54 => k_is)
    (case a55 => k_is)
    (case l55 => k_is)
    (case c55 => k_is)
    (case k55 => k_is)
    (case a56 => k_is)
    (case l56 => k_is)
    (case c56 => k_is)
    (case k56 => k_is)
    (case a57 => k_is)
    (case l57 => k_is)
    (case c57 => k_is)
    (case k57 => k_is)
    (case a58 => k_is)
    (case l58 => k_is)
    (case c58 => k_is)
    (case k58 => k_is)
    (case a59 => k_is)
    (case l59 => k_is)
    (case c59 => k_is)
    (case k59 => k_is)
    (case a60 => k_is)
    (case l60 => k_is)
    (case c60 => k_is)
    (case k60 => k_is)
    (case a61 => k_is)
    (case l61 => k_is)
    (case c61 => k_is)
    (case k61 => k_is)
    (case b1 => k_is)
    (case e1 => k_is)
    (case b2 => k_is)
    (case e2 => k_is)
    (case b3 => k_is)
    (case e3 => k_is)
    (case b4 => k_is)
    (case e4 => k_is)
    (case b5 => k_is)
    (case e5 => k_is)
    (case b6 => k_is)
    (case e6 => k_is)
    (case b7 => k_is)
    (case e7 => k_is)
    (case b8 => k_is)
    (case e8 => k_is)
    (case s1 => k_is)
    (case s2 => k_is)
    (case s3 => k_is)
    (case s4 => k_is)
    (case s5 => k_is)
    (case z1 => k_is)
    (case z2 => k_is)
    (case z3 => k_is)
    (case z4 => k_is)
    (case z5 => k_is)
    (case z6 => k_is)
    (case z7 => k_is)
    (case z8 => k_is)
    (case z9 => k_is)
    (case z10 => k_is)
    (case z11 => k_is)
    (case z12 => k_is)
    (case z13 => k_is)
    (case z14 => k_is)
    (case z15 => k_is)
    (case z16 => k_is)
