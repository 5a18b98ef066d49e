import PyProof.Rows.All
import Wide.All
import OpenK.AllK
import Wide.FinOn
import HandS.ForMost
import HandS.Exc
import HandS.TupAny
import HandS.TupMul
import HandS.IsInst
import HandS.Walk
import HandS.Zip
import HandS.Deep
import HandS.Conv
import HandS.Wide
import HandS.Style
import KE.KDictKeyed
import KE.SortData
import PyProof.ReprRoads
import HandS.RaiseMore
import KE.KDictDisplayH
import KE.KDictCopyH
import HandS.DictComp
import HandS.ExcOwn
import HandS.WordsExc
import KE.KExcSuper
import HandS.ExcInit
import HandS.ExcSuper
import HandS.TryMany
import HandS.ExcField
import KE.GoesEnum
import PySem.Challenge.RW_pumphouse_k12_whole_failing_judged
set_option Elab.async false
set_option linter.all false
set_option maxRecDepth 100000
set_option maxHeartbeats 4000000
/-! text K1 -/
/-! My layer, part 1: data through the abstract heap; what stands in a def's slots; expressions that evaluate to data. -/
namespace Kw
open PySem PySem.Spec PyProof.Rows L2

/-! ### data stay while the heap grows -/
theorem sqT_mono {K : PySem.W.Frag} {G H : Hp} (s : Same G H) {a : Addr} {xs : List V} (h : SqT K G a xs) : SqT K H a xs := by
  rcases h with (h | ⟨o, h⟩) | h
  · exact .inl (.inl (s _ _ h))
  · exact .inl (.inr ⟨o, s _ _ h⟩)
  · exact .inr h
mutual
theorem dp_mono {K : PySem.W.Frag} {G H : Hp} (s : Same G H) : ∀ (d : PyData) (v : V), Dp K G v d → Dp K H v d
  | .none, _, h => by cases h; exact .non
  | .bool b, _, h => by cases h; exact .bl b
  | .int i, _, h => by cases h; exact .int i
  | .str x, _, h => by cases h; exact .str x
  | .list ds, _, h => by
    cases h with
    | lst a b => exact .lst (s.seq a) (dpAll_mono s ds _ b)
  | .tuple ds, _, h => by
    cases h with
    | tup a b => exact .tup (sqT_mono s a) (dpAll_mono s ds _ b)
  | .dict _, _, h => by cases h
theorem dpAll_mono {K : PySem.W.Frag} {G H : Hp} (s : Same G H) : ∀ (ds : List PyData) (vs : List V), DpAll K G vs ds → DpAll K H vs ds
  | [], _, h => by cases h; exact .nil
  | d :: ds, _, h => by
    cases h with
    | cons a b => exact .cons (dp_mono s d _ a) (dpAll_mono s ds _ b)
end
theorem dpAll_len {K : PySem.W.Frag} {G : Hp} : ∀ {ds : List PyData} {vs : List V}, DpAll K G vs ds → vs.length = ds.length
  | [], _, h => by cases h; rfl
  | _ :: ds, _, h => by
    cases h with
    | cons _ b => simp [dpAll_len b]
theorem dpAll_get {K : PySem.W.Frag} {G : Hp} : ∀ {ds : List PyData} {vs : List V} {i : Nat} {d : PyData}, DpAll K G vs ds → ds[i]? = some d → ∃ v, vs[i]? = some v ∧ Dp K G v d
  | [], _, _, _, _, e => by simp at e
  | _ :: ds, _, 0, d, h, e => by
    cases h with
    | cons a b =>
      simp at e
      subst e
      exact ⟨_, rfl, a⟩
  | _ :: ds, _, i + 1, d, h, e => by
    cases h with
    | cons a b =>
      obtain ⟨v, e1, e2⟩ := dpAll_get (i := i) b (by simpa using e)
      exact ⟨v, by simpa using e1, e2⟩
theorem dpAll_getV {K : PySem.W.Frag} {G : Hp} : ∀ {ds : List PyData} {vs : List V} {i : Nat} {v : V}, DpAll K G vs ds → vs[i]? = some v → ∃ d, ds[i]? = some d ∧ Dp K G v d
  | [], _, _, _, h, e => by cases h; simp at e
  | d :: ds, _, 0, v, h, e => by
    cases h with
    | cons a b =>
      simp at e
      subst e
      exact ⟨_, rfl, a⟩
  | _ :: ds, _, i + 1, v, h, e => by
    cases h with
    | cons a b =>
      obtain ⟨d, e1, e2⟩ := dpAll_getV (i := i) b (by simpa using e)
      exact ⟨d, by simpa using e1, e2⟩
theorem dpAll_app {K : PySem.W.Frag} {G : Hp} : ∀ {ds es : List PyData} {vs us : List V}, DpAll K G vs ds → DpAll K G us es → DpAll K G (vs ++ us) (ds ++ es)
  | [], _, _, _, h, g => by cases h; exact g
  | _ :: _, _, _, _, h, g => by
    cases h with
    | cons a b => exact .cons a (dpAll_app b g)
theorem dpAll_drop {K : PySem.W.Frag} {G : Hp} : ∀ (n : Nat) {ds : List PyData} {vs : List V}, DpAll K G vs ds → DpAll K G (vs.drop n) (ds.drop n)
  | 0, _, _, h => by simpa using h
  | n + 1, [], _, h => by cases h; simpa using DpAll.nil
  | n + 1, _ :: _, _, h => by
    cases h with
    | cons a b => simpa using dpAll_drop n b
theorem dpAll_take {K : PySem.W.Frag} {G : Hp} : ∀ (n : Nat) {ds : List PyData} {vs : List V}, DpAll K G vs ds → DpAll K G (vs.take n) (ds.take n)
  | 0, _, _, h => by simpa using DpAll.nil
  | n + 1, [], _, h => by cases h; simpa using DpAll.nil
  | n + 1, _ :: _, _, h => by
    cases h with
    | cons a b => simpa using DpAll.cons a (dpAll_take n b)
theorem dpAll_rev {K : PySem.W.Frag} {G : Hp} : ∀ {ds : List PyData} {vs : List V}, DpAll K G vs ds → DpAll K G vs.reverse ds.reverse
  | [], _, h => by cases h; simpa using DpAll.nil
  | _ :: _, _, h => by
    cases h with
    | cons a b =>
      rw [List.reverse_cons, List.reverse_cons]
      exact dpAll_app (dpAll_rev b) (.cons a .nil)
theorem dpAll_rep {K : PySem.W.Frag} {G : Hp} {ds : List PyData} {vs : List V} (h : DpAll K G vs ds) : ∀ n : Nat, DpAll K G (List.replicate n vs).flatten (List.replicate n ds).flatten
  | 0 => by simpa using DpAll.nil
  | n + 1 => by
    rw [List.replicate_succ, List.replicate_succ, List.flatten_cons, List.flatten_cons]
    exact dpAll_app h (dpAll_rep h n)
theorem dpAll_ints {K : PySem.W.Frag} {G : Hp} : ∀ {ns : List Int} {vs : List V}, DpAll K G vs (ns.map .int) → vs = ns.map V.int
  | [], _, h => by cases h; rfl
  | n :: ns, _, h => by
    cases h with
    | cons a b =>
      cases a
      rw [dpAll_ints (ns := ns) b]
      rfl
theorem dpAll_of_ints {K : PySem.W.Frag} {G : Hp} : ∀ (ns : List Int), DpAll K G (ns.map V.int) (ns.map .int)
  | [] => .nil
  | n :: ns => .cons (.int n) (dpAll_of_ints ns)

/-! ### places -/
structure Ct where
  K : PySem.W.Frag
  P : Program
  w : World
  G0 : Hp
inductive SV where
  | any
  | dat (d : PyData)
  | loc (p : Addr)
/-- a local list, a local dict; a datum that is held for a while (what a loop walks) -/
inductive MO where
  | ml (ds : List PyData)
  | md (kvs : List (NestedKey × PyData))
  | dk (kvs : List (Key × V))
  | hd (d : PyData)
def isLoc : MO → Bool
  | .hd _ => false
  | _ => true
abbrev Dl := List (Addr × MO)

/-- a dict whose keys are nested tuples: its entries -/
def DN (P : Program) (w : World) (p : Addr) (xs : List (NestedKey × Addr × Value)) : HO := .ext fun h =>
  ∃ o es ep, h.get? p = some o ∧ o.ExactDict ∧ o.data = .dict es ep ∧ es.toList = xs.map (entryOfKey (nestedKind P w)) ∧ (xs.map (·.1)).Nodup
def NRow (K : PySem.W.Frag) (G : Hp) (r : NestedKey × PyData) (x : NestedKey × Addr × Value) : Prop :=
  r.1 = x.1 ∧ r.1.depth ≤ 8 ∧ Dp K G (.ref x.2.1) r.1.data ∧ ∃ v, RelV v x.2.2 ∧ Dp K G v r.2
def SVOk (K : PySem.W.Frag) (G : Hp) : SV → Option V → Prop
  | .any, _ => True
  | .dat d, o => ∃ v, o = some v ∧ Dp K G v d
  | .loc p, o => o = some (.ref p)
def MOk (C : Ct) (G H : Hp) (p : Addr) : MO → Prop
  | .ml ds => ∃ vs, H p = some (.lst vs) ∧ DpAll C.K G vs ds
  | .md kvs => ∃ xs, H p = some (DN C.P C.w p xs) ∧ (p == sysModules) = false ∧ Paired (NRow C.K G) kvs xs
  | .dk kvs => H p = some (.dK kvs)
  | .hd d => Dp C.K G (.ref p) d
structure ST (C : Ct) (G H : Hp) (σ : L2.St) (Γ : List SV) (Δ : Dl) : Prop where
  g0 : Same C.G0 G
  g : Same G H
  len : σ.length = Γ.length
  sl : ∀ (i : Nat) sv, Γ[i]? = some sv → ∃ o, σ[i]? = some o ∧ SVOk C.K G sv o
  mo : ∀ p m, (p, m) ∈ Δ → (isLoc m = true → G p = none) ∧ MOk C G H p m
  nd : Δ.Pairwise fun x y => isLoc x.2 = true → isLoc y.2 = true → x.1 ≠ y.1

theorem svOk_mono {K : PySem.W.Frag} {G G' : Hp} (s : Same G G') {sv : SV} {o : Option V} (h : SVOk K G sv o) : SVOk K G' sv o := by
  cases sv with
  | any => trivial
  | dat d => obtain ⟨v, e, q⟩ := h; exact ⟨v, e, dp_mono s d v q⟩
  | loc p => exact h
theorem paired_mono {α β : Type} {F G : α → β → Prop} (f : ∀ a b, F a b → G a b) : ∀ {l : List α} {m : List β}, Paired F l m → Paired G l m
  | _, _, .nil => .nil
  | _, _, .cons r t => .cons (f _ _ r) (paired_mono f t)
theorem nrow_mono {K : PySem.W.Frag} {G G' : Hp} (s : Same G G') {r : NestedKey × PyData} {x : NestedKey × Addr × Value} (h : NRow K G r x) : NRow K G' r x := by
  obtain ⟨a, b, c, v, e, q⟩ := h
  exact ⟨a, b, dp_mono s _ _ c, v, e, dp_mono s _ _ q⟩
theorem mOk_mono {C : Ct} {G G' H H' : Hp} (s : Same G G') {p : Addr} {m : MO} (e : isLoc m = true → H' p = H p) (h : MOk C G H p m) : MOk C G' H' p m := by
  cases m with
  | ml ds => obtain ⟨vs, a, b⟩ := h; exact ⟨vs, (e rfl).trans a, dpAll_mono s ds vs b⟩
  | md kvs => obtain ⟨xs, a, b, c⟩ := h; exact ⟨xs, (e rfl).trans a, b, paired_mono (fun _ _ => nrow_mono s) c⟩
  | dk kvs => exact (e rfl).trans h
  | hd d => exact dp_mono s d _ h
theorem mOk_there {C : Ct} {G H : Hp} {p : Addr} {m : MO} (l : isLoc m = true) (h : MOk C G H p m) : ∃ o, H p = some o ∧ (∀ xs, o ≠ .tup xs) ∧ ∀ q u, o ≠ .frz q u := by
  cases m with
  | ml ds => obtain ⟨vs, a, b⟩ := h; exact ⟨_, a, (fun _ z => by cases z), (fun _ _ z => by cases z)⟩
  | md kvs =>
    obtain ⟨xs, a, _⟩ := h
    refine ⟨_, a, fun ys z => ?_, fun q u z => ?_⟩
    · have z' : HO.ext _ = HO.tup ys := z
      cases z'
    · have z' : HO.ext _ = HO.frz q u := z
      cases z'
  | dk kvs => exact ⟨_, h, (fun _ z => by cases z), (fun _ _ z => by cases z)⟩
  | hd d => cases l

section
variable {C : Ct} {G G' H H' : Hp} {σ : L2.St} {Γ : List SV} {Δ : Dl}
/-- the heap has grown by things that G' knows -/
theorem ST.grow (S : ST C G H σ Γ Δ) (a : Same G G') (b : Same G' H') (c : Same H H') (n : ∀ p m, (p, m) ∈ Δ → isLoc m = true → G' p = none) : ST C G' H' σ Γ Δ where
  g0 := S.g0.trans a
  g := b
  len := S.len
  sl := fun i sv e => let ⟨o, e1, q⟩ := S.sl i sv e; ⟨o, e1, svOk_mono a q⟩
  mo := fun p m e => by
    obtain ⟨_, q⟩ := S.mo p m e
    refine ⟨n p m e, mOk_mono a (fun l => ?_) q⟩
    obtain ⟨o, ho, _⟩ := mOk_there l q
    exact (c p o ho).trans ho.symm
  nd := S.nd
theorem same_new {H : Hp} {p : Addr} {o : HO} (h : H p = none) : Same H (upd H p o) := fun b u e => by rw [upd_ne (ne_of_none e h)]; exact e
theorem ST.apart (S : ST C G H σ Γ Δ) {p : Addr} (h : H p = none) : ∀ q m, (q, m) ∈ Δ → isLoc m = true → q ≠ p := fun q m e l z => by
  obtain ⟨o, ho, _⟩ := mOk_there l (S.mo q m e).2
  rw [z, h] at ho
  cases ho
/-- a new object that G' knows -/
theorem ST.new (S : ST C G H σ Γ Δ) {p : Addr} {o : HO} (h : H p = none) : ST C (upd G p o) (upd H p o) σ Γ Δ := by
  have hg : G p = none := S.g.free h
  refine S.grow (same_new hg) (fun b u e => ?_) (same_new h) (fun q m e l => ?_)
  · by_cases hb : b = p
    · subst hb; rw [upd_same] at e ⊢; exact e
    · rw [upd_ne hb] at e ⊢; exact S.g b u e
  · rw [upd_ne (S.apart h q m e l)]; exact (S.mo q m e).1 l
/-- a new object that G does not know -/
theorem ST.new0 (S : ST C G H σ Γ Δ) {p : Addr} {o : HO} (h : H p = none) : ST C G (upd H p o) σ Γ Δ := by
  refine S.grow (Same.refl _) (fun b u e => ?_) (same_new h) (fun q m e => (S.mo q m e).1)
  rw [upd_ne (ne_of_none (S.g b u e) h)]; exact S.g b u e

/-! ### evaluating to data -/
def EV (C : Ct) (Γ : List SV) (Δ : Dl) (te : TE) (d : PyData) : Prop :=
  ∀ G H σ, ST C G H σ Γ Δ → ∀ Q : VK, (∀ v G' H', Same G G' → ST C G' H' σ Γ Δ → Dp C.K G' v d → Q v H') → te σ H Q
/-- a new list (nobody knows it yet) -/
def EVL (C : Ct) (Γ : List SV) (Δ : Dl) (te : TE) (ds : List PyData) : Prop :=
  ∀ G H σ, ST C G H σ Γ Δ → ∀ Q : VK, (∀ p vs G' H', Same G G' → G' p = none → (∀ q m, (q, m) ∈ Δ → isLoc m = true → q ≠ p) → ST C G' H' σ Γ Δ → H' p = some (.lst vs) → DpAll C.K G' vs ds → Q (.ref p) H') → te σ H Q
def EVT (C : Ct) (Γ : List SV) (Δ : Dl) (tt : TT) (b : Bool) : Prop :=
  ∀ G H σ, ST C G H σ Γ Δ → ∀ Q : Bool → Hp → Prop, (∀ G' H', Same G G' → ST C G' H' σ Γ Δ → Q b H') → tt σ H Q
def EVA (C : Ct) (Γ : List SV) (Δ : Dl) (ta : TA) (ds : List PyData) : Prop :=
  ∀ G H σ, ST C G H σ Γ Δ → ∀ Q : List V → Hp → Prop, (∀ vs G' H', Same G G' → ST C G' H' σ Γ Δ → DpAll C.K G' vs ds → Q vs H') → ta σ H Q
/-- a local thing -/
def EVM (C : Ct) (Γ : List SV) (Δ : Dl) (te : TE) (p : Addr) : Prop :=
  ∀ G H σ, ST C G H σ Γ Δ → ∀ Q : VK, (∀ G' H', Same G G' → ST C G' H' σ Γ Δ → Q (.ref p) H') → te σ H Q
/-- a statement's way from Γ, Δ on -/
def Nx (C : Ct) (Γ : List SV) (Δ : Dl) (P : L2.St → Hp → Prop) : Prop := ∀ G H σ, ST C G H σ Γ Δ → P σ H

variable {ta tb tc te : TE} {da db d : PyData} {ds es : List PyData} {t u : TT} {b c : Bool} {K : PySem.W.Frag}
theorem EV.to {d' : PyData} (h : EV C Γ Δ te d) (e : d = d') : EV C Γ Δ te d' := e ▸ h
theorem EVT.to {b' : Bool} (h : EVT C Γ Δ t b) (e : b = b') : EVT C Γ Δ t b' := e ▸ h
theorem EVL.to {es : List PyData} (h : EVL C Γ Δ te ds) (e : ds = es) : EVL C Γ Δ te es := e ▸ h
theorem ev_var {i : Nat} (h : Γ[i]? = some (.dat d)) : EV C Γ Δ (tVar i) d := fun G H σ S Q q => by
  obtain ⟨o, e, v, rfl, hv⟩ := S.sl i _ h
  exact ⟨v, e, q v G H (Same.refl _) S hv⟩
theorem evm_var {i : Nat} {p : Addr} (h : Γ[i]? = some (.loc p)) : EVM C Γ Δ (tVar i) p := fun G H σ S Q q => by
  obtain ⟨o, e, rfl⟩ := S.sl i _ h
  exact ⟨_, e, q G H (Same.refl _) S⟩
theorem ev_int {i : Int} : EV C Γ Δ (tC (.int i)) (.int i) := fun G H σ S Q q => q _ G H (Same.refl _) S (.int i)
theorem ev_bl {i : Bool} : EV C Γ Δ (tC (.bl i)) (.bool i) := fun G H σ S Q q => q _ G H (Same.refl _) S (.bl i)
theorem ev_str {x : Str} : EV C Γ Δ (tC (.str x)) (.str x) := fun G H σ S Q q => q _ G H (Same.refl _) S (.str x)
theorem ev_non : EV C Γ Δ (tC .non) .none := fun G H σ S Q q => q _ G H (Same.refl _) S .non
/-- a list that is laid becomes a datum -/
theorem evl_ev (h : EVL C Γ Δ te ds) : EV C Γ Δ te (.list ds) := fun G H σ S Q q => by
  refine h G H σ S Q fun p vs G' H' s1 n a S' e r => ?_
  have sg : Same G' (upd G' p (.lst vs)) := same_new n
  refine q _ (upd G' p (.lst vs)) H' (s1.trans sg) (S'.grow sg (fun b u z => ?_) (Same.refl _) fun q m z l => ?_) (.lst (SqL.of upd_same) (dpAll_mono sg _ _ r))
  · by_cases hb : b = p
    · subst hb; rw [upd_same] at z; cases z; exact e
    · rw [upd_ne hb] at z; exact S'.g b u z
  · rw [upd_ne (a q m z l)]; exact (S'.mo q m z).1 l
theorem eva_nil : EVA C Γ Δ tNil [] := fun G H σ S Q q => q [] G H (Same.refl _) S .nil
theorem eva_cons {tr : TA} (h : EV C Γ Δ te d) (hr : EVA C Γ Δ tr ds) : EVA C Γ Δ (tCons te tr) (d :: ds) := fun G H σ S Q q =>
  h G H σ S _ fun v G1 H1 s1 S1 r1 => hr G1 H1 σ S1 _ fun vs G2 H2 s2 S2 r2 => q _ G2 H2 (s1.trans s2) S2 (.cons (dp_mono s2 d v r1) r2)
/-- an operation on data -/
def OpD (C : Ct) (Γ : List SV) (Δ : Dl) (r : R2) (da db d : PyData) : Prop :=
  ∀ G H σ, ST C G H σ Γ Δ → ∀ x y, Dp C.K G x da → Dp C.K G y db → ∀ Q : VK, (∀ v G' H', Same G G' → ST C G' H' σ Γ Δ → Dp C.K G' v d → Q v H') → r x y H Q
theorem ev_op {r : R2} (ha : EV C Γ Δ ta da) (hb : EV C Γ Δ tb db) (ho : OpD C Γ Δ r da db d) : EV C Γ Δ (tOp r ta tb) d := fun G H σ S Q q =>
  ha G H σ S _ fun x G1 H1 s1 S1 r1 => hb G1 H1 σ S1 _ fun y G2 H2 s2 S2 r2 => ho G2 H2 σ S2 x y (dp_mono s2 da x r1) r2 Q fun v G3 H3 s3 S3 r3 => q v G3 H3 ((s1.trans s2).trans s3) S3 r3
/-- an operation that leaves the heap as it is -/
theorem OpD.pure {r : R2} (h : ∀ G H x y, Same G H → Dp C.K G x da → Dp C.K G y db → ∀ Q : VK, (∀ v, Dp C.K G v d → Q v H) → r x y H Q) : OpD C Γ Δ r da db d :=
  fun G H σ S x y rx ry Q q => h G H x y S.g rx ry Q fun v r => q v G H (Same.refl _) S r
theorem op_ints {g : Int → Int → V} {i j : Int} (hg : ∀ G, Dp C.K G (g i j) d) : OpD C Γ Δ (rI0 g) (.int i) (.int j) d := .pure fun G H x y s rx ry Q q => by
  cases rx; cases ry
  exact ⟨i, j, rfl, rfl, q _ (hg G)⟩
theorem op_intsC {A : Int → Int → Prop} {g : Int → Int → V} {i j : Int} (hc : A i j) (hg : ∀ G, Dp C.K G (g i j) d) : OpD C Γ Δ (rI A g) (.int i) (.int j) d := .pure fun G H x y s rx ry Q q => by
  cases rx; cases ry
  exact ⟨i, j, rfl, rfl, hc, q _ (hg G)⟩
theorem ev_add {i j : Int} (ha : EV C Γ Δ ta (.int i)) (hb : EV C Γ Δ tb (.int j)) : EV C Γ Δ (tOp (rI0 fun i j => .int (i + j)) ta tb) (.int (i + j)) := ev_op ha hb (op_ints fun _ => .int _)
theorem ev_sub {i j : Int} (ha : EV C Γ Δ ta (.int i)) (hb : EV C Γ Δ tb (.int j)) : EV C Γ Δ (tOp (rI0 fun i j => .int (i - j)) ta tb) (.int (i - j)) := ev_op ha hb (op_ints fun _ => .int _)
theorem ev_mul {i j : Int} (ha : EV C Γ Δ ta (.int i)) (hb : EV C Γ Δ tb (.int j)) (hc : CMul i j) : EV C Γ Δ (tOp (rI CMul fun i j => .int (i * j)) ta tb) (.int (i * j)) := ev_op ha hb (op_intsC hc fun _ => .int _)
theorem ev_mod {i j : Int} (ha : EV C Γ Δ ta (.int i)) (hb : EV C Γ Δ tb (.int j)) (hc : 0 < j) : EV C Γ Δ (tOp (rI (fun _ j => 0 < j) fun i j => .int (i % j)) ta tb) (.int (i % j)) := ev_op ha hb (op_intsC hc fun _ => .int _)
theorem ev_lt {i j : Int} (ha : EV C Γ Δ ta (.int i)) (hb : EV C Γ Δ tb (.int j)) : EV C Γ Δ (tOp (rI0 fun i j => .bl (decide (i < j))) ta tb) (.bool (decide (i < j))) := ev_op ha hb (op_ints fun _ => .bl _)
theorem ev_le {i j : Int} (ha : EV C Γ Δ ta (.int i)) (hb : EV C Γ Δ tb (.int j)) : EV C Γ Δ (tOp (rI0 fun i j => .bl (decide (i ≤ j))) ta tb) (.bool (decide (i ≤ j))) := ev_op ha hb (op_ints fun _ => .bl _)
theorem ev_gt {i j : Int} (ha : EV C Γ Δ ta (.int i)) (hb : EV C Γ Δ tb (.int j)) : EV C Γ Δ (tOp (rI0 fun i j => .bl (decide (j < i))) ta tb) (.bool (decide (j < i))) := ev_op ha hb (op_ints fun _ => .bl _)
theorem ev_ge {i j : Int} (ha : EV C Γ Δ ta (.int i)) (hb : EV C Γ Δ tb (.int j)) : EV C Γ Δ (tOp (rI0 fun i j => .bl (decide (j ≤ i))) ta tb) (.bool (decide (j ≤ i))) := ev_op ha hb (op_ints fun _ => .bl _)
theorem ev_neg {i : Int} (ha : EV C Γ Δ ta (.int i)) : EV C Γ Δ (tUn (rU fun i => .int (-i)) ta) (.int (-i)) := fun G H σ S Q q =>
  ha G H σ S _ fun x G1 H1 s1 S1 r1 => by
    cases r1
    exact ⟨i, rfl, q _ G1 H1 s1 S1 (.int _)⟩
/-- is None -/
def isNone : PyData → Bool
  | .none => true
  | _ => false
theorem dp_none {K : PySem.W.Frag} {G : Hp} {x : V} {d : PyData} (h : Dp K G x d) : decide (x = .non) = isNone d := by cases h <;> rfl
theorem ev_isN (ha : EV C Γ Δ ta d) : EV C Γ Δ (tOp (fun x y H Q => y = .non ∧ Q (.bl (decide (x = .non))) H) ta (tC .non)) (.bool (isNone d)) := ev_op ha ev_non (.pure fun G H x y s rx ry Q q => by
  cases ry
  exact ⟨rfl, by rw [dp_none rx]; exact q _ (.bl _)⟩)
theorem ev_notN (ha : EV C Γ Δ ta d) : EV C Γ Δ (tOp (fun x y H Q => y = .non ∧ Q (.bl (!decide (x = .non))) H) ta (tC .non)) (.bool (!isNone d)) := ev_op ha ev_non (.pure fun G H x y s rx ry Q q => by
  cases ry
  exact ⟨rfl, by rw [dp_none rx]; exact q _ (.bl _)⟩)
/-- == and != of data -/
theorem ev_eqD (ha : EV C Γ Δ ta da) (hb : EV C Γ Δ tb db) (sa : SeqAt.shaped da = true) (sb : SeqAt.shaped db = true) : EV C Γ Δ (tOp (rEqD C.K) ta tb) (.bool (PyData.eqv da db)) := ev_op ha hb (.pure fun G H x y s rx ry Q q =>
  ⟨da, db, dp_mono s _ _ rx, dp_mono s _ _ ry, sa, sb, q _ (.bl _)⟩)
theorem ev_neD (ha : EV C Γ Δ ta da) (hb : EV C Γ Δ tb db) (sa : SeqAt.shaped da = true) (sb : SeqAt.shaped db = true) : EV C Γ Δ (tOp (rNeD C.K) ta tb) (.bool (!PyData.eqv da db)) := ev_op ha hb (.pure fun G H x y s rx ry Q q =>
  ⟨da, db, dp_mono s _ _ rx, dp_mono s _ _ ry, sa, sb, q _ (.bl _)⟩)
/-- t[i] -/
theorem atI_dp {K : PySem.W.Frag} {G : Hp} {ds : List PyData} {vs : List V} {i : Int} {d : PyData} (h : DpAll K G vs ds) (e : atI ds i = some d) : ∃ v, atI vs i = some v ∧ Dp K G v d := by
  unfold atI at e ⊢
  rw [dpAll_len h]
  cases q : ixN ds.length i with
  | none => rw [q] at e; cases e
  | some j =>
    rw [q] at e
    exact dpAll_get h e
theorem ev_ixT {i : Int} (ha : EV C Γ Δ ta (.tuple ds)) (hb : EV C Γ Δ tb (.int i)) (e : atI ds i = some d) : EV C Γ Δ (tOp (rIxT C.K) ta tb) d := ev_op ha hb (.pure fun G H x y s rx ry Q q => by
  cases ry
  cases rx with
  | tup a b =>
    obtain ⟨v, e1, r⟩ := atI_dp b e
    exact ⟨_, _, i, v, rfl, rfl, sqT_mono s a, e1, q v r⟩)
theorem ev_ixL {i : Int} (ha : EV C Γ Δ ta (.list ds)) (hb : EV C Γ Δ tb (.int i)) (e : atI ds i = some d) : EV C Γ Δ (tOp (rIxL C.K) ta tb) d := ev_op ha hb (.pure fun G H x y s rx ry Q q => by
  cases ry
  cases rx with
  | lst a b =>
    obtain ⟨v, e1, r⟩ := atI_dp b e
    exact ⟨_, _, i, v, rfl, rfl, s.seq a, e1, q v r⟩)
/-- (a, b, ..), [a, b, ..] -/
theorem ev_tup {ta : TA} (h : EVA C Γ Δ ta ds) (hl : ds.length ≤ 1000) : EV C Γ Δ (tTup ta) (.tuple ds) := fun G H σ S Q q =>
  h G H σ S _ fun vs G1 H1 s1 S1 r1 => ⟨by rw [dpAll_len r1, sizeLine_eq]; omega, fun p hp => by
    have n : G1 p = none := S1.g.free hp
    exact q _ _ _ (s1.trans (same_new n)) (S1.new hp) (.tup (SqT.of upd_same) (dpAll_mono (same_new n) _ _ r1))⟩
theorem evl_lst {ta : TA} (h : EVA C Γ Δ ta ds) (hl : ds.length ≤ 1000) : EVL C Γ Δ (tLst ta) ds := fun G H σ S Q q =>
  h G H σ S _ fun vs G1 H1 s1 S1 r1 => ⟨by rw [dpAll_len r1, sizeLine_eq]; omega, fun p hp =>
    q p vs _ _ s1 (S1.g.free hp) (S1.apart hp) (S1.new0 hp) upd_same r1⟩
/-- slices -/
def cutL {α : Type} (xs : List α) (lo hi : Option Int) : List α := (xs.drop (HT.sIx xs.length 0 lo)).take (HT.sIx xs.length xs.length hi - HT.sIx xs.length 0 lo)
theorem cutL_all {α : Type} {xs : List α} {lo hi : Option Int} (h : HT.sIx xs.length 0 lo = 0 ∧ HT.sIx xs.length xs.length hi = xs.length) : cutL xs lo hi = xs := by
  unfold cutL
  rw [h.1, h.2]
  simp
theorem cut_dp {K : PySem.W.Frag} {G : Hp} {ds : List PyData} {vs : List V} (h : DpAll K G vs ds) (lo hi : Option Int) : DpAll K G (cutV vs lo hi) (cutL ds lo hi) := by
  unfold cutV cutL
  rw [dpAll_len h]
  exact dpAll_take _ (dpAll_drop _ h)
def EVO (C : Ct) (Γ : List SV) (Δ : Dl) (to : TO) (o : Option Int) : Prop :=
  ∀ G H σ, ST C G H σ Γ Δ → ∀ Q : Option Int → Hp → Prop, (∀ G' H', Same G G' → ST C G' H' σ Γ Δ → Q o H') → to σ H Q
theorem evo_none : EVO C Γ Δ tNoPart none := fun G H σ S Q q => q G H (Same.refl _) S
theorem evo_some {i : Int} (h : EV C Γ Δ te (.int i)) : EVO C Γ Δ (tPart te) (some i) := fun G H σ S Q q => h G H σ S _ fun v G1 H1 s1 S1 r1 => by
  cases r1
  exact ⟨i, rfl, q G1 H1 s1 S1⟩
theorem ev_sl {to th : TO} {lo hi : Option Int} (h : EV C Γ Δ te (.tuple ds)) (hl : EVO C Γ Δ to lo) (hh : EVO C Γ Δ th hi) : EV C Γ Δ (tSl (rSlA C.K) te to th) (.tuple (cutL ds lo hi)) := fun G H σ S Q q =>
  h G H σ S _ fun v G1 H1 s1 S1 r1 => hl G1 H1 σ S1 _ fun G2 H2 s2 S2 => hh G2 H2 σ S2 _ fun G3 H3 s3 S3 => by
    cases r1 with
    | tup a b =>
      have a' := sqT_mono (s2.trans s3) a
      have b' := dpAll_mono (s2.trans s3) _ _ b
      refine ⟨_, _, rfl, sqT_mono S3.g a', fun hw => ?_, fun hw p hp => ?_⟩
      · rw [dpAll_len b] at hw
        exact q _ G3 H3 ((s1.trans s2).trans s3) S3 (by rw [cutL_all hw]; exact .tup a' b')
      · have n : G3 p = none := S3.g.free hp
        exact q _ _ _ (((s1.trans s2).trans s3).trans (same_new n)) (S3.new hp) (.tup (SqT.of upd_same) (dpAll_mono (same_new n) _ _ (cut_dp b' lo hi)))
theorem evl_sl {to th : TO} {lo hi : Option Int} (h : EV C Γ Δ te (.list ds)) (hl : EVO C Γ Δ to lo) (hh : EVO C Γ Δ th hi) : EVL C Γ Δ (tSl (rSlL C.K) te to th) (cutL ds lo hi) := fun G H σ S Q q =>
  h G H σ S _ fun v G1 H1 s1 S1 r1 => hl G1 H1 σ S1 _ fun G2 H2 s2 S2 => hh G2 H2 σ S2 _ fun G3 H3 s3 S3 => by
    cases r1 with
    | lst a b =>
      have a' := (s2.trans s3).seq a
      have b' := dpAll_mono (s2.trans s3) _ _ b
      exact ⟨_, _, rfl, S3.g.seq a', fun p hp => q p _ G3 _ ((s1.trans s2).trans s3) (S3.g.free hp) (S3.apart hp) (S3.new0 hp) upd_same (cut_dp b' lo hi)⟩
/-- t + u -/
theorem ev_cat (ha : EV C Γ Δ ta (.tuple ds)) (hb : EV C Γ Δ tb (.tuple es)) (hl : ds.length + es.length ≤ 1000000) : EV C Γ Δ (tOp (rCatA C.K) ta tb) (.tuple (ds ++ es)) := ev_op ha hb fun G H σ S x y rx ry Q q => by
  cases rx with
  | tup a1 b1 =>
    cases ry with
    | tup a2 b2 =>
      refine ⟨_, _, _, _, rfl, rfl, sqT_mono S.g a1, sqT_mono S.g a2, by rw [dpAll_len b1, dpAll_len b2, sizeLine_eq]; omega, fun z => ?_, fun _ z => ?_, fun _ _ p hp => ?_⟩
      · subst z
        cases b1
        exact q _ G H (Same.refl _) S (.tup a2 b2)
      · subst z
        cases b2
        exact q _ G H (Same.refl _) S (by rw [List.append_nil]; exact .tup a1 b1)
      · have n : G p = none := S.g.free hp
        exact q _ _ _ (same_new n) (S.new hp) (.tup (SqT.of upd_same) (dpAll_mono (same_new n) _ _ (dpAll_app b1 b2)))

/-! ### tests -/
theorem evt_test (h : EV C Γ Δ te (.bool b)) : EVT C Γ Δ (tTest te) b := fun G H σ S Q q => h G H σ S _ fun v G1 H1 s1 S1 r => by
  cases r
  exact ⟨b, rfl, q G1 H1 s1 S1⟩
theorem evt_B (h : EV C Γ Δ te (.bool b)) : EVT C Γ Δ (tB te) b := evt_test h
theorem evt_not (h : EVT C Γ Δ t b) : EVT C Γ Δ (tNot t) (!b) := fun G H σ S Q q => h G H σ S _ fun G1 H1 s1 S1 => q G1 H1 s1 S1
theorem evt_and (h1 : EVT C Γ Δ t b) (h2 : b = true → EVT C Γ Δ u c) : EVT C Γ Δ (tAnd t u) (b && c) := fun G H σ S Q q => h1 G H σ S _ fun G1 H1 s1 S1 => by
  cases b with
  | true =>
    show u σ H1 Q
    exact h2 rfl G1 H1 σ S1 Q fun G2 H2 s2 S2 => q G2 H2 (s1.trans s2) S2
  | false => exact q G1 H1 s1 S1
theorem evt_or (h1 : EVT C Γ Δ t b) (h2 : b = false → EVT C Γ Δ u c) : EVT C Γ Δ (tOr t u) (b || c) := fun G H σ S Q q => h1 G H σ S _ fun G1 H1 s1 S1 => by
  cases b with
  | false =>
    show u σ H1 Q
    exact h2 rfl G1 H1 σ S1 Q fun G2 H2 s2 S2 => q G2 H2 (s1.trans s2) S2
  | true => exact q G1 H1 s1 S1
theorem ev_andV (h1 : EV C Γ Δ ta (.bool b)) (h2 : b = true → EV C Γ Δ tb (.bool c)) : EV C Γ Δ (tAndV ta tb) (.bool (b && c)) := fun G H σ S Q q => h1 G H σ S _ fun v G1 H1 s1 S1 r1 => by
  cases r1
  refine ⟨b, rfl, ?_⟩
  cases b with
  | true =>
    show tb σ H1 Q
    exact h2 rfl G1 H1 σ S1 Q fun v G2 H2 s2 S2 r => q v G2 H2 (s1.trans s2) S2 r
  | false => exact q _ G1 H1 s1 S1 (.bl _)
theorem ev_orV (h1 : EV C Γ Δ ta (.bool b)) (h2 : b = false → EV C Γ Δ tb (.bool c)) : EV C Γ Δ (tOrV ta tb) (.bool (b || c)) := fun G H σ S Q q => h1 G H σ S _ fun v G1 H1 s1 S1 r1 => by
  cases r1
  refine ⟨b, rfl, ?_⟩
  cases b with
  | false =>
    show tb σ H1 Q
    exact h2 rfl G1 H1 σ S1 Q fun v G2 H2 s2 S2 r => q v G2 H2 (s1.trans s2) S2 r
  | true => exact q _ G1 H1 s1 S1 (.bl _)
theorem ev_notV (h : EV C Γ Δ ta (.bool b)) : EV C Γ Δ (tNotV ta) (.bool (!b)) := fun G H σ S Q q => h G H σ S _ fun v G1 H1 s1 S1 r1 => by
  cases r1
  exact ⟨b, rfl, q _ G1 H1 s1 S1 (.bl _)⟩
theorem ev_if (h : EVT C Γ Δ t b) (h1 : b = true → EV C Γ Δ ta d) (h2 : b = false → EV C Γ Δ tb d) : EV C Γ Δ (tIf t ta tb) d := fun G H σ S Q q => h G H σ S _ fun G1 H1 s1 S1 => by
  cases b with
  | true =>
    show ta σ H1 Q
    exact h1 rfl G1 H1 σ S1 Q fun v G2 H2 s2 S2 r => q v G2 H2 (s1.trans s2) S2 r
  | false =>
    show tb σ H1 Q
    exact h2 rfl G1 H1 σ S1 Q fun v G2 H2 s2 S2 r => q v G2 H2 (s1.trans s2) S2 r
/-- .. told by one value -/
theorem ev_ite (h : EVT C Γ Δ t b) (h1 : b = true → EV C Γ Δ ta da) (h2 : b = false → EV C Γ Δ tb db) : EV C Γ Δ (tIf t ta tb) (if b = true then da else db) := by
  refine ev_if h (fun e => ?_) (fun e => ?_)
  · rw [if_pos e]; exact h1 e
  · rw [if_neg (by rw [e]; exact Bool.false_ne_true)]; exact h2 e
/-- a op b op c -/
theorem ev_chain {r r' : R2} {b c : Bool} (ha : EV C Γ Δ ta da) (hb : EV C Γ Δ tb db) (hc : EV C Γ Δ tc d) (h1 : OpD C Γ Δ r da db (.bool b)) (h2 : OpD C Γ Δ r' db d (.bool c)) : EV C Γ Δ (tChain r r' ta tb tc) (.bool (b && c)) := fun G H σ S Q q =>
  ha G H σ S _ fun x G1 H1 s1 S1 r1 => hb G1 H1 σ S1 _ fun y G2 H2 s2 S2 r2 => h1 G2 H2 σ S2 x y (dp_mono s2 _ _ r1) r2 _ fun z G3 H3 s3 S3 r3 => by
    cases r3
    refine ⟨b, rfl, ?_⟩
    cases b with
    | true =>
      show tc σ H3 _
      exact hc G3 H3 σ S3 _ fun w G4 H4 s4 S4 r4 => h2 G4 H4 σ S4 y w (dp_mono (s3.trans s4) _ _ r2) r4 Q fun v G5 H5 s5 S5 r5 => q v G5 H5 ((((s1.trans s2).trans s3).trans s4).trans s5) S5 r5
    | false => exact q _ G3 H3 ((s1.trans s2).trans s3) S3 (.bl _)

/-! ### statements -/
variable {D : Ends} {ts tu tw : TS}
theorem ST.set (S : ST C G H σ Γ Δ) {i : Nat} {v : V} (r : Dp C.K G v d) : ST C G H (σ.set i (some v)) (Γ.set i (.dat d)) Δ where
  g0 := S.g0
  g := S.g
  len := by rw [List.length_set, List.length_set]; exact S.len
  sl := fun j sv e => by
    by_cases hj : i = j
    · subst hj
      have hi : i < Γ.length := by
        have := (List.getElem?_eq_some_iff.mp e).1
        simpa using this
      rw [List.getElem?_set_self hi] at e
      cases e
      exact ⟨some v, List.getElem?_set_self (by rw [S.len]; exact hi), v, rfl, r⟩
    · rw [List.getElem?_set_ne hj] at e ⊢
      exact S.sl j sv e
  mo := S.mo
  nd := S.nd
theorem ST.setAny (S : ST C G H σ Γ Δ) {i : Nat} {v : Option V} : ST C G H (σ.set i v) (Γ.set i .any) Δ where
  g0 := S.g0
  g := S.g
  len := by rw [List.length_set, List.length_set]; exact S.len
  sl := fun j sv e => by
    by_cases hj : i = j
    · subst hj
      have hi : i < Γ.length := by
        have := (List.getElem?_eq_some_iff.mp e).1
        simpa using this
      rw [List.getElem?_set_self hi] at e
      cases e
      exact ⟨v, List.getElem?_set_self (by rw [S.len]; exact hi), trivial⟩
    · rw [List.getElem?_set_ne hj] at e ⊢
      exact S.sl j sv e
  mo := S.mo
  nd := S.nd
theorem ST.setLoc (S : ST C G H σ Γ Δ) {i : Nat} {p : Addr} : ST C G H (σ.set i (some (.ref p))) (Γ.set i (.loc p)) Δ where
  g0 := S.g0
  g := S.g
  len := by rw [List.length_set, List.length_set]; exact S.len
  sl := fun j sv e => by
    by_cases hj : i = j
    · subst hj
      have hi : i < Γ.length := by
        have := (List.getElem?_eq_some_iff.mp e).1
        simpa using this
      rw [List.getElem?_set_self hi] at e
      cases e
      exact ⟨_, List.getElem?_set_self (by rw [S.len]; exact hi), rfl⟩
    · rw [List.getElem?_set_ne hj] at e ⊢
      exact S.sl j sv e
  mo := S.mo
  nd := S.nd
/-- a new local list -/
theorem ST.loc (S : ST C G H σ Γ Δ) {p : Addr} {m : MO} (n : G p = none) (a : ∀ q o, (q, o) ∈ Δ → isLoc o = true → q ≠ p) (h : MOk C G H p m) : ST C G H σ Γ ((p, m) :: Δ) where
  g0 := S.g0
  g := S.g
  len := S.len
  sl := S.sl
  mo := fun q o e => by
    rcases List.mem_cons.mp e with z | z
    · cases z; exact ⟨fun _ => n, h⟩
    · exact S.mo q o z
  nd := List.pairwise_cons.mpr ⟨fun y hy _ l e => a y.1 y.2 hy l e.symm, S.nd⟩
/-- a datum is held -/
theorem ST.hold (S : ST C G H σ Γ Δ) {p : Addr} {d : PyData} (h : Dp C.K G (.ref p) d) : ST C G H σ Γ ((p, .hd d) :: Δ) where
  g0 := S.g0
  g := S.g
  len := S.len
  sl := S.sl
  mo := fun q o e => by
    rcases List.mem_cons.mp e with z | z
    · cases z; exact ⟨(fun l => nomatch l), h⟩
    · exact S.mo q o z
  nd := List.pairwise_cons.mpr ⟨fun y hy l => (nomatch l), S.nd⟩
theorem nx_seq (h : Nx C Γ Δ (fun σ H => ts { D with nx := fun σ' H' => tu D σ' H' } σ H)) : Nx C Γ Δ (tSeq ts tu D) := h
theorem nx_asg {i : Nat} (h : EV C Γ Δ te d) (k : Nx C (Γ.set i (.dat d)) Δ D.nx) : Nx C Γ Δ (tAsg te (gName i) D) := fun G H σ S =>
  h G H σ S _ fun v G1 H1 s1 S1 r => k G1 H1 _ (S1.set r)
theorem nx_asgL {i : Nat} (h : EVL C Γ Δ te ds) (k : ∀ p, Nx C (Γ.set i (.loc p)) ((p, .ml ds) :: Δ) D.nx) : Nx C Γ Δ (tAsg te (gName i) D) := fun G H σ S =>
  h G H σ S _ fun p vs G1 H1 s1 n a S1 e r => k p G1 H1 _ ((S1.setLoc).loc n a ⟨vs, e, r⟩)
theorem nx_drop (h : EV C Γ Δ te d) (k : Nx C Γ Δ D.nx) : Nx C Γ Δ (tDrop te D) := fun G H σ S => h G H σ S _ fun v G1 H1 s1 S1 r => k G1 H1 σ S1
/-- what a return is to show -/
def Rt (C : Ct) (D : Ends) (d : PyData) : Prop := ∀ v G H, Same C.G0 G → Same G H → Dp C.K G v d → D.rt v H
theorem nx_ret (h : EV C Γ Δ te d) (k : Rt C D d) : Nx C Γ Δ (tRet te D) := fun G H σ S => h G H σ S _ fun v G1 H1 s1 S1 r => k v G1 H1 S1.g0 S1.g r
theorem nx_if (h : EVT C Γ Δ t b) (h1 : b = true → Nx C Γ Δ (ts D)) (h2 : b = false → Nx C Γ Δ (tu D)) : Nx C Γ Δ (tIfS t ts tu D) := fun G H σ S => h G H σ S _ fun G1 H1 s1 S1 => by
  cases b with
  | true => exact h1 rfl G1 H1 σ S1
  | false => exact h2 rfl G1 H1 σ S1
theorem nx_next (k : Nx C Γ Δ D.nx) : Nx C Γ Δ (tNext D) := k
theorem Nx.absurd {P : L2.St → Hp → Prop} (h : False) : Nx C Γ Δ P := h.elim
/-- a, b, .. = a tuple -/
def tgs (js : List Nat) : TGs := match js with
  | [] => gNil
  | j :: r => gCons (gName j) (tgs r)
def setAll (Γ : List SV) : List Nat → List PyData → List SV
  | j :: js, d :: ds => setAll (Γ.set j (.dat d)) js ds
  | _, _ => Γ
theorem tgs_run : ∀ (js : List Nat) (ds : List PyData) (vs : List V) (σ : L2.St) (Γ : List SV), js.length = ds.length → ST C G H σ Γ Δ → DpAll C.K G vs ds → ∀ P : L2.St → Hp → Prop, Nx C (setAll Γ js ds) Δ P → tgs js vs σ H P
  | [], [], vs, σ, Γ, _, S, r, P, k => by
    cases r
    exact ⟨rfl, k G H σ S⟩
  | j :: js, d :: ds, vs, σ, Γ, e, S, r, P, k => by
    cases r with
    | cons a b => exact ⟨_, _, rfl, tgs_run js ds _ _ (Γ.set j (.dat d)) (by simpa using e) (S.set a) b P k⟩
  | [], _ :: _, _, _, _, e, _, _, _, _ => by simp at e
  | _ :: _, [], _, _, _, e, _, _, _, _ => by simp at e
theorem nx_unpack {js : List Nat} {n : Nat} (h : EV C Γ Δ te (.tuple ds)) (hn : ds.length = n) (hj : js.length = n) (k : Nx C (setAll Γ js ds) Δ D.nx) : Nx C Γ Δ (tAsg te (gTup C.K n (tgs js)) D) := fun G H σ S =>
  h G H σ S _ fun v G1 H1 s1 S1 r => by
    cases r with
    | tup a b => exact ⟨_, _, rfl, sqT_mono S1.g a, by rw [dpAll_len b]; exact hn, tgs_run js ds _ σ Γ (by rw [hj, hn]) S1 b _ k⟩
end
end Kw

/-! text K2 -/
/-! My layer, part 2: built-ins over data. -/
namespace Kw
open PySem PySem.Spec PyProof.Rows L2

/-! ### the type of a datum -/
def typ : PyData → String
  | .none => "NoneType"
  | .bool _ => "bool"
  | .int _ => "int"
  | .str _ => "str"
  | .list _ => "list"
  | .tuple _ => "tuple"
  | .dict _ => "dict"
theorem dp_ty {K : PySem.W.Frag} {H : Hp} {x : V} {d : PyData} (h : Dp K H x d) : TyX K H x (.type (typ d)) := by
  cases h with
  | non => exact .base .non
  | bl b => exact .base (.bl b)
  | int i => exact .base (.int i)
  | str z => exact .base (.str z)
  | lst a b =>
    rcases a with (a | ⟨o, a⟩) | ⟨o, its, n, a1, a2, _⟩
    · exact .base (.lst a)
    · exact .base (.frz a)
    · exact .kList a1 a2
  | tup a b =>
    rcases a with (a | ⟨o, a⟩) | ⟨o, its, n, a1, a2, _⟩
    · exact .base (.tup a)
    · exact .fTuple a
    · exact .kTuple a1 a2
def isInt : PyData → Bool
  | .int _ => true
  | .bool _ => true
  | _ => false
def isBool : PyData → Bool
  | .bool _ => true
  | _ => false
def isTup : PyData → Bool
  | .tuple _ => true
  | _ => false
def isStr : PyData → Bool
  | .str _ => true
  | _ => false
def noDict : PyData → Bool
  | .dict _ => false
  | _ => true
theorem dp_noDict {K : PySem.W.Frag} {H : Hp} {x : V} {d : PyData} (h : Dp K H x d) : noDict d = true := by cases h <;> rfl
theorem kit_int : ∀ {d : PyData}, noDict d = true → kitB (typ d) "int" = some (isInt d)
  | .none, _ => (by decide +kernel : kitB "NoneType" "int" = some false)
  | .bool _, _ => (by decide +kernel : kitB "bool" "int" = some true)
  | .int _, _ => (by decide +kernel : kitB "int" "int" = some true)
  | .str _, _ => (by decide +kernel : kitB "str" "int" = some false)
  | .list _, _ => (by decide +kernel : kitB "list" "int" = some false)
  | .tuple _, _ => (by decide +kernel : kitB "tuple" "int" = some false)
  | .dict _, h => nomatch (show false = true from h)
theorem kit_bool : ∀ {d : PyData}, noDict d = true → kitB (typ d) "bool" = some (isBool d)
  | .none, _ => (by decide +kernel : kitB "NoneType" "bool" = some false)
  | .bool _, _ => (by decide +kernel : kitB "bool" "bool" = some true)
  | .int _, _ => (by decide +kernel : kitB "int" "bool" = some false)
  | .str _, _ => (by decide +kernel : kitB "str" "bool" = some false)
  | .list _, _ => (by decide +kernel : kitB "list" "bool" = some false)
  | .tuple _, _ => (by decide +kernel : kitB "tuple" "bool" = some false)
  | .dict _, h => nomatch (show false = true from h)
theorem kit_tup : ∀ {d : PyData}, noDict d = true → kitB (typ d) "tuple" = some (isTup d)
  | .none, _ => (by decide +kernel : kitB "NoneType" "tuple" = some false)
  | .bool _, _ => (by decide +kernel : kitB "bool" "tuple" = some false)
  | .int _, _ => (by decide +kernel : kitB "int" "tuple" = some false)
  | .str _, _ => (by decide +kernel : kitB "str" "tuple" = some false)
  | .list _, _ => (by decide +kernel : kitB "list" "tuple" = some false)
  | .tuple _, _ => (by decide +kernel : kitB "tuple" "tuple" = some true)
  | .dict _, h => nomatch (show false = true from h)
theorem kit_str : ∀ {d : PyData}, noDict d = true → kitB (typ d) "str" = some (isStr d)
  | .none, _ => (by decide +kernel : kitB "NoneType" "str" = some false)
  | .bool _, _ => (by decide +kernel : kitB "bool" "str" = some false)
  | .int _, _ => (by decide +kernel : kitB "int" "str" = some false)
  | .str _, _ => (by decide +kernel : kitB "str" "str" = some true)
  | .list _, _ => (by decide +kernel : kitB "list" "str" = some false)
  | .tuple _, _ => (by decide +kernel : kitB "tuple" "str" = some false)
  | .dict _, h => nomatch (show false = true from h)

section
variable {C : Ct} {G G' H H' : Hp} {σ : L2.St} {Γ : List SV} {Δ : Dl}
variable {ta tb tc te : TE} {da db d : PyData} {ds es : List PyData} {t u : TT} {b c : Bool}

/-! ### calls by values -/
/-- a built-in's answer to data -/
theorem ev_cb {r : List V → Hp → VK → Prop} {ta : TA} (ha : EVA C Γ Δ ta ds) (hr : ∀ G H vs, ST C G H vs Γ Δ → ∀ xs, DpAll C.K G xs ds → ∀ Q : VK, (∀ v G' H', Same G G' → ST C G' H' vs Γ Δ → Dp C.K G' v d → Q v H') → r xs H Q) :
    EV C Γ Δ (tCB r ta) d := fun G H σ S Q q => ha G H σ S _ fun xs G1 H1 s1 S1 r1 => hr G1 H1 σ S1 xs r1 Q fun v G2 H2 s2 S2 r2 => q v G2 H2 (s1.trans s2) S2 r2
theorem ev_isi {T : String} (h : EV C Γ Δ ta d) (k : noDict d = true → kitB (typ d) T = some b) : EV C Γ Δ (tCB (rIsi C.K) (tCons ta (tCons (tC (.ty T)) tNil))) (.bool b) := fun G H σ S Q q =>
  h G H σ S _ fun x G1 H1 s1 S1 r1 => ⟨x, _, _, _, b, rfl, .ty T, dp_ty (dp_mono S1.g _ _ r1), kit_ty (k (dp_noDict r1)), q _ G1 H1 s1 S1 (.bl b)⟩
theorem ev_isInt (h : EV C Γ Δ ta d) : EV C Γ Δ (tCB (rIsi C.K) (tCons ta (tCons (tC (.ty "int")) tNil))) (.bool (isInt d)) := ev_isi h kit_int
theorem ev_isBool (h : EV C Γ Δ ta d) : EV C Γ Δ (tCB (rIsi C.K) (tCons ta (tCons (tC (.ty "bool")) tNil))) (.bool (isBool d)) := ev_isi h kit_bool
theorem ev_isTup (h : EV C Γ Δ ta d) : EV C Γ Δ (tCB (rIsi C.K) (tCons ta (tCons (tC (.ty "tuple")) tNil))) (.bool (isTup d)) := ev_isi h kit_tup
theorem ev_isStr (h : EV C Γ Δ ta d) : EV C Γ Δ (tCB (rIsi C.K) (tCons ta (tCons (tC (.ty "str")) tNil))) (.bool (isStr d)) := ev_isi h kit_str
theorem pe_isinst {X : Cx} {e c : Expr} {p pos : Pos} {te tc : TE} (hg : Gl X "isinstance") (hm : X.mg "isinstance" = none) (he : PE X e te) (hc : PE X c tc) (hs : starEach [e, c] X.env = (false, eval e X.env) :: starEach [c] X.env := by rfl) (hs2 : starEach [c] X.env = (false, eval c X.env) :: starEach [] X.env := by rfl)
    (hpl : (backTo pos (starEach [c] X.env)).any (·.1) = false := by rfl) : PE X (.Call (.Name "isinstance" p) [e, c] [] pos) (tCB (rIsi X.K) (tCons te (tCons tc tNil))) :=
  pe_callB call_isi hg hm (by decide +kernel) (pa_cons he (pa_cons hc pa_nil hs2) hs) (he := hs) (hpl := hpl)
/-- len of a list, a tuple -/
abbrev rLen (K : PySem.W.Frag) : List V → Hp → VK → Prop := fun xs H Q => ∃ p ys, xs = [.ref p] ∧ (SqL K H p ys ∨ SqT K H p ys) ∧ Q (.int ys.length) H
theorem ev_lenT (h : EV C Γ Δ ta (.tuple ds)) : EV C Γ Δ (tCB (rLen C.K) (tCons ta tNil)) (.int (ds.length : Int)) := fun G H σ S Q q =>
  h G H σ S _ fun x G1 H1 s1 S1 r1 => by
    cases r1 with
    | tup a b => exact ⟨_, _, rfl, .inr (sqT_mono S1.g a), by rw [dpAll_len b]; exact q _ G1 H1 s1 S1 (.int _)⟩
theorem ev_lenL (h : EV C Γ Δ ta (.list ds)) : EV C Γ Δ (tCB (rLen C.K) (tCons ta tNil)) (.int (ds.length : Int)) := fun G H σ S Q q =>
  h G H σ S _ fun x G1 H1 s1 S1 r1 => by
    cases r1 with
    | lst a b => exact ⟨_, _, rfl, .inl (S1.g.seq a), by rw [dpAll_len b]; exact q _ G1 H1 s1 S1 (.int _)⟩
/-- all([..]) -/
theorem dpAll_bls {K : PySem.W.Frag} {G : Hp} : ∀ {bs : List Bool} {vs : List V}, DpAll K G vs (bs.map .bool) → vs = bs.map V.bl
  | [], _, h => by cases h; rfl
  | _ :: bs, _, h => by
    cases h with
    | cons a b =>
      cases a
      rw [dpAll_bls (bs := bs) b]
      rfl
theorem ev_all {bs : List Bool} (h : EV C Γ Δ ta (.list (bs.map .bool))) : EV C Γ Δ (tCB (rAll C.K) (tCons ta tNil)) (.bool (bs.all id)) := fun G H σ S Q q =>
  h G H σ S _ fun x G1 H1 s1 S1 r1 => by
    cases r1 with
    | lst a b =>
      have e := dpAll_bls b
      subst e
      exact ⟨_, bs, rfl, S1.g.seq a, q _ G1 H1 s1 S1 (.bl _)⟩
/-- sum of a tuple, of a list, of ints -/
abbrev rSumT (K : PySem.W.Frag) : List V → Hp → VK → Prop := fun vs H Q => ∃ (a : Addr) (ns : List Int), vs = [V.ref a] ∧ (SqL K H a (ns.map V.int) ∨ SqT K H a (ns.map V.int)) ∧ Q (.int ns.sum) H
theorem cr_sumT {X : Cx} (hc : X.calm = true) : CallR X (.builtin "sum") (rSumT X.K) := by
  intro pins s σ H xs us Q I r h
  obtain ⟨a, ns, rfl, hq, q⟩ := h
  rcases hq with hq | hq
  · exact cr_sum hc pins s σ H _ us Q I r ⟨a, ns, rfl, hq, q⟩
  · obtain ⟨u, rfl, ru⟩ := vals1 r
    cases ru
    obtain ⟨its, rv, ht, hz⟩ := I.tuple hq
    have hi : IntsAre its ns := Vals.ints rv
    obtain ⟨ys, hx⟩ := hi.allInts.items
    have hn : numsOf its.toArray.toList = ns := by
      rw [show its.toArray.toList = its from rfl]
      exact hi.numsOf
    rw [hx] at ht hn
    rw [nums_intItems] at hn
    refine PySem.W.ktm_sumG (I.ok.hd hc) ht fun h' tk t' hk => ?_
    have e : preSum (numAt ys) ys.size = ns.sum := by rw [preSum_eq, List.take_of_length_le (by simp), hn]
    rw [e]
    exact ⟨.int ns.sum, H, I.kept (t' := tk) hk, ⟨_, rfl⟩, q⟩
theorem ev_sumT {ns : List Int} (h : EV C Γ Δ ta (.tuple (ns.map .int))) : EV C Γ Δ (tCB (rSumT C.K) (tCons ta tNil)) (.int ns.sum) := fun G H σ S Q q =>
  h G H σ S _ fun x G1 H1 s1 S1 r1 => by
    cases r1 with
    | tup a b =>
      have e := dpAll_ints b
      subst e
      exact ⟨_, ns, rfl, .inr (sqT_mono S1.g a), q _ G1 H1 s1 S1 (.int _)⟩
theorem ev_sumL {ns : List Int} (h : EV C Γ Δ ta (.list (ns.map .int))) : EV C Γ Δ (tCB (rSumT C.K) (tCons ta tNil)) (.int ns.sum) := fun G H σ S Q q =>
  h G H σ S _ fun x G1 H1 s1 S1 r1 => by
    cases r1 with
    | lst a b =>
      have e := dpAll_ints b
      subst e
      exact ⟨_, ns, rfl, .inl (S1.g.seq a), q _ G1 H1 s1 S1 (.int _)⟩
/-- min(a, b), int(a) -/
theorem ev_min {i j : Int} (ha : EV C Γ Δ ta (.int i)) (hb : EV C Γ Δ tb (.int j)) : EV C Γ Δ (tCB (fun xs H Q => ∃ i j, xs = [.int i, .int j] ∧ Q (.int (if j < i then j else i)) H) (tCons ta (tCons tb tNil))) (.int (min i j)) := fun G H σ S Q q =>
  ha G H σ S _ fun x G1 H1 s1 S1 r1 => hb G1 H1 σ S1 _ fun y G2 H2 s2 S2 r2 => by
    cases r1
    cases r2
    refine ⟨i, j, rfl, ?_⟩
    have e : (if j < i then j else i) = min i j := by
      by_cases h : j < i
      · rw [if_pos h]; omega
      · rw [if_neg h]; omega
    rw [e]
    exact q _ G2 H2 (s1.trans s2) S2 (.int _)
theorem ev_intc {i : Int} (ha : EV C Γ Δ ta (.int i)) : EV C Γ Δ (tCB (fun xs H Q => (∃ i, xs = [.int i] ∧ Q (.int i) H) ∨ ∃ k, xs = [.bl k] ∧ Q (.int (if k then 1 else 0)) H) (tCons ta tNil)) (.int i) := fun G H σ S Q q =>
  ha G H σ S _ fun x G1 H1 s1 S1 r1 => by
    cases r1
    exact .inl ⟨i, rfl, q _ G1 H1 s1 S1 (.int _)⟩
/-- list(..), tuple(..) -/
abbrev rListOf (K : PySem.W.Frag) : List V → Hp → VK → Prop := fun xs H Q => ∃ p ys, xs = [.ref p] ∧ (SqL K H p ys ∨ SqT K H p ys) ∧ ∀ l, H l = none → Q (.ref l) (upd H l (.lst ys))
abbrev rTupOf (K : PySem.W.Frag) : List V → Hp → VK → Prop := fun xs H Q => ∃ p ys, xs = [.ref p] ∧ ((SqL K H p ys ∧ ∀ l, H l = none → Q (.ref l) (upd H l (.tup ys))) ∨ (SqT K H p ys ∧ Q (.ref p) H))
theorem evl_listT (h : EV C Γ Δ ta (.tuple ds)) : EVL C Γ Δ (tCB (rListOf C.K) (tCons ta tNil)) ds := fun G H σ S Q q =>
  h G H σ S _ fun x G1 H1 s1 S1 r1 => by
    cases r1 with
    | tup a b => exact ⟨_, _, rfl, .inr (sqT_mono S1.g a), fun l hl => q l _ G1 _ s1 (S1.g.free hl) (S1.apart hl) (S1.new0 hl) upd_same b⟩
theorem evl_listL (h : EV C Γ Δ ta (.list ds)) : EVL C Γ Δ (tCB (rListOf C.K) (tCons ta tNil)) ds := fun G H σ S Q q =>
  h G H σ S _ fun x G1 H1 s1 S1 r1 => by
    cases r1 with
    | lst a b => exact ⟨_, _, rfl, .inl (S1.g.seq a), fun l hl => q l _ G1 _ s1 (S1.g.free hl) (S1.apart hl) (S1.new0 hl) upd_same b⟩
theorem ev_tupL (h : EV C Γ Δ ta (.list ds)) : EV C Γ Δ (tCB (rTupOf C.K) (tCons ta tNil)) (.tuple ds) := fun G H σ S Q q =>
  h G H σ S _ fun x G1 H1 s1 S1 r1 => by
    cases r1 with
    | lst a b =>
      refine ⟨_, _, rfl, .inl ⟨S1.g.seq a, fun l hl => ?_⟩⟩
      have n : G1 l = none := S1.g.free hl
      exact q _ _ _ (s1.trans (same_new n)) (S1.new hl) (.tup (SqT.of upd_same) (dpAll_mono (same_new n) _ _ b))
/-- a list that is laid and forgotten again -/
theorem ST.sub (S : ST C G H σ Γ Δ) {Δ' : Dl} (h : Δ'.Sublist Δ) : ST C G H σ Γ Δ' :=
  ⟨S.g0, S.g, S.len, S.sl, fun p m e => S.mo p m (h.subset e), S.nd.sublist h⟩
theorem ev_ifL (h : EVT C Γ Δ t b) (h1 : b = true → EVL C Γ Δ ta ds) (h2 : b = false → EVL C Γ Δ tb ds) : EVL C Γ Δ (tIf t ta tb) ds := fun G H σ S Q q => h G H σ S _ fun G1 H1 s1 S1 => by
  cases b with
  | true =>
    show ta σ H1 Q
    exact h1 rfl G1 H1 σ S1 Q fun p vs G2 H2 s2 n a S2 e r => q p vs G2 H2 (s1.trans s2) n a S2 e r
  | false =>
    show tb σ H1 Q
    exact h2 rfl G1 H1 σ S1 Q fun p vs G2 H2 s2 n a S2 e r => q p vs G2 H2 (s1.trans s2) n a S2 e r
/-- xs + ys, xs new -/
theorem evl_cat (ha : EVL C Γ Δ ta ds) (hb : ∀ p, EVL C Γ ((p, .ml ds) :: Δ) tb es) (hl : ds.length + es.length ≤ 1000000) : EVL C Γ Δ (tOp rCat ta tb) (ds ++ es) := fun G H σ S Q q =>
  ha G H σ S _ fun p1 vs1 G1 H1 s1 n1 a1 S1 e1 r1 => hb p1 G1 H1 σ (S1.loc n1 a1 ⟨vs1, e1, r1⟩) _ fun p2 vs2 G2 H2 s2 n2 a2 S2 e2 r2 => by
    obtain ⟨n, us, eu, ru⟩ := S2.mo p1 (.ml ds) List.mem_cons_self
    exact ⟨p1, p2, us, vs2, rfl, rfl, eu, e2, by rw [dpAll_len ru, dpAll_len r2, sizeLine_eq]; omega, fun p hp =>
      have S3 := S2.sub (List.sublist_cons_self _ _)
      q p _ G2 _ (s1.trans s2) (S3.g.free hp) (S3.apart hp) (S3.new0 hp) upd_same (dpAll_app ru r2)⟩
theorem ml_at (S : ST C G H σ Γ Δ) {k : Nat} {p : Addr} (h : Δ[k]? = some (p, .ml ds)) : ∃ vs, H p = some (.lst vs) ∧ DpAll C.K G vs ds := (S.mo p _ (List.mem_of_getElem? h)).2
/-- xs + ys, xs a local list -/
theorem evl_catM {k : Nat} {p1 : Addr} (ha : EVM C Γ Δ ta p1) (hk : Δ[k]? = some (p1, .ml ds)) (hb : EVL C Γ Δ tb es) (hl : ds.length + es.length ≤ 1000000) : EVL C Γ Δ (tOp rCat ta tb) (ds ++ es) := fun G H σ S Q q =>
  ha G H σ S _ fun G1 H1 s1 S1 => hb G1 H1 σ S1 _ fun p2 vs2 G2 H2 s2 n2 a2 S2 e2 r2 => by
    obtain ⟨us, eu, ru⟩ := ml_at S2 hk
    exact ⟨p1, p2, us, vs2, rfl, rfl, eu, e2, by rw [dpAll_len ru, dpAll_len r2, sizeLine_eq]; omega, fun p hp =>
      q p _ G2 _ (s1.trans s2) (S2.g.free hp) (S2.apart hp) (S2.new0 hp) upd_same (dpAll_app ru r2)⟩
end

/-! ### the operations as rules -/
section
variable {X : Cx}
/-- < of alike data -/
def rLtD (K : PySem.W.Frag) : R2 := fun x y H Q => ∃ d e, Dp K H x d ∧ Dp K H y e ∧ PySem.W.alike d e = true ∧ d ≠ .none ∧ d.depth ≤ 60 ∧ Q (.bl (PySem.W.dataLt d e)) H
theorem op_ltD (hu : X.A.units + 64 < cLine) : OpR X (compareOp .Lt) (rLtD X.K) := by
  intro pins s σ H x y v u Q I rx ry h
  obtain ⟨d, e, hd, he, ha, hn, hz, q⟩ := h
  obtain ⟨as, r1⟩ := Dp.reads I d x v hd rx
  obtain ⟨bs, r2⟩ := Dp.reads I e y u he ry
  exact PySem.W.rcLt_alike d e X.A s v u as bs r1 r2 ha hn (by have := Nat.min_le_left d.depth e.depth; omega) X.prog X.w X.xe _ ⟨.bl _, H, I, rfl, q⟩
/-- x in t, x not in t, t a tuple of data -/
def rInT (K : PySem.W.Frag) (neg : Bool) : R2 := fun x y H Q => ∃ d ds, Dp K H x d ∧ Dp K H y (.tuple ds) ∧ SeqAt.shaped d = true ∧ SeqAt.shaped (.tuple ds) = true ∧ Q (.bl (if neg then !(ds.any fun z => PyData.eqv z d) else ds.any fun z => PyData.eqv z d)) H
theorem roomT {A : Around} {d : PyData} {ds : List PyData} (sd : SeqAt.shaped d = true) (hu : A.units + 65 < cLine) : A.units + 1 + min (PyData.depthAll ds) d.depth < cLine := by
  have h1 := SeqAt.depth_of_shaped sd
  have h2 := Nat.min_le_right (PyData.depthAll ds) d.depth
  omega
theorem op_inT (hu : X.A.units + 65 < cLine) : OpR X (compareOp .In) (rInT X.K false) := by
  intro pins s σ H x y v u Q I rx ry h
  obtain ⟨d, ds, hd, he, sd, se, q⟩ := h
  obtain ⟨as, r1⟩ := Dp.reads I d x v hd rx
  obtain ⟨bs, r2⟩ := Dp.reads I (.tuple ds) y u he ry
  exact SeqAt.in_tuple_reads r2 r1 (SeqAt.canLay_of_shaped se) (SeqAt.canLay_of_shaped sd) (roomT sd hu) ⟨.bl _, H, I, rfl, q⟩
theorem op_notInT (hu : X.A.units + 65 < cLine) : OpR X (compareOp .NotIn) (rInT X.K true) := by
  intro pins s σ H x y v u Q I rx ry h
  obtain ⟨d, ds, hd, he, sd, se, q⟩ := h
  obtain ⟨as, r1⟩ := Dp.reads I d x v hd rx
  obtain ⟨bs, r2⟩ := Dp.reads I (.tuple ds) y u he ry
  exact SeqAt.notIn_tuple_reads r2 r1 (SeqAt.canLay_of_shaped se) (SeqAt.canLay_of_shaped sd) (roomT sd hu) ⟨.bl _, H, I, rfl, q⟩
/-- repr of data -/
def rRepr (K : PySem.W.Frag) : List V → Hp → VK → Prop := fun xs H Q => ∃ v d, xs = [v] ∧ Dp K H v d ∧ d.showable = true ∧ d.hasDict = false ∧ d.shown.length ≤ sizeLine ∧ d.depth ≤ 60 ∧ Q (.str d.shown) H
end
end Kw

/-! text K3 -/
/-! My layer, part 3: repr, sorted, dicts whose keys are nested tuples. -/
namespace Kw
open PySem PySem.Spec PyProof.Rows L2

section
variable {X : Cx}
theorem cr_repr (hu : X.A.units + 64 < cLine) (hg : X.A.guards = some []) : CallR X (.builtin "repr") (rRepr X.K) := by
  intro pins s σ H xs us Q I r h
  obtain ⟨v, d, rfl, hd, hs, hn, hz, hp, q⟩ := h
  obtain ⟨u, rfl, ru⟩ := vals1 r
  obtain ⟨as, rd⟩ := Dp.reads I d v u hd ru
  have scal : ∀ {x : Str}, d.shown = x → (∀ t s', Inv X pins σ H s' → EP X pins σ Q (.str x t) s') := fun {x} e t s' I' => ⟨.str x, H, I', ⟨t, rfl⟩, by rw [← e]; exact q⟩
  cases rd with
  | none => exact PySem.P.repr_of_none (scal (by simp only [PyData.shown]) _ _ (I.tok _))
  | bool b => exact PySem.P.repr_of_bool (scal (by simp only [PyData.shown]) _ _ (I.tok _))
  | int i t => exact PySem.P.repr_of_int (by simpa [PyData.showable] using hs) (scal (by simp only [PyData.shown]) _ _ (I.tok _))
  | str x t => exact PySem.P.repr_of_str (scal (by simp only [PyData.shown]) _ _ (I.tok _)) (by simpa only [PyData.shown] using hz)
  | list h1 h2 h3 h4 =>
    exact repr_of_reads' (Reads.list h1 h2 h3 h4) hs (PyData.noDict_hsm hn) hg (by omega) (fun _ _ e => e) (fun h' t tk hk => ⟨.str _, H, I.kept (t' := tk) hk, ⟨t, rfl⟩, q⟩) hz
  | tuple h1 h2 h3 h4 =>
    exact repr_of_reads' (Reads.tuple h1 h2 h3 h4) hs (PyData.noDict_hsm hn) hg (by omega) (fun _ _ e => e) (fun h' t tk hk => ⟨.str _, H, I.kept (t' := tk) hk, ⟨t, rfl⟩, q⟩) hz
  | dict h1 h2 h3 h4 h5 => simp [PyData.hasDict] at hn
end
section
variable {C : Ct} {G G' H H' : Hp} {σ : L2.St} {Γ : List SV} {Δ : Dl}
variable {ta tb tc te : TE} {da db d : PyData} {ds es : List PyData} {t u : TT} {b c : Bool}
theorem ev_repr (h : EV C Γ Δ ta d) (h1 : d.showable = true) (h2 : d.hasDict = false) (h3 : d.shown.length ≤ sizeLine) (h4 : d.depth ≤ 60) : EV C Γ Δ (tCB (rRepr C.K) (tCons ta tNil)) (.str d.shown) := fun G H σ S Q q =>
  h G H σ S _ fun x G1 H1 s1 S1 r1 => ⟨x, d, rfl, dp_mono S1.g _ _ r1, h1, h2, h3, h4, q _ G1 H1 s1 S1 (.str _)⟩
theorem ev_ltD (ha : EV C Γ Δ ta da) (hb : EV C Γ Δ tb db) (h1 : PySem.W.alike da db = true) (h2 : da ≠ .none) (h3 : da.depth ≤ 60) : EV C Γ Δ (tOp (rLtD C.K) ta tb) (.bool (PySem.W.dataLt da db)) := ev_op ha hb (.pure fun G H x y s rx ry Q q =>
  ⟨da, db, dp_mono s _ _ rx, dp_mono s _ _ ry, h1, h2, h3, q _ (.bl _)⟩)
theorem ev_inT {neg : Bool} (ha : EV C Γ Δ ta d) (hb : EV C Γ Δ tb (.tuple ds)) (h1 : SeqAt.shaped d = true) (h2 : SeqAt.shaped (.tuple ds) = true) :
    EV C Γ Δ (tOp (rInT C.K neg) ta tb) (.bool (if neg then !(ds.any fun z => PyData.eqv z d) else ds.any fun z => PyData.eqv z d)) := ev_op ha hb (.pure fun G H x y s rx ry Q q =>
  ⟨d, ds, dp_mono s _ _ rx, dp_mono s _ _ ry, h1, h2, q _ (.bl _)⟩)
end

/-! ### dicts whose keys are nested tuples -/
mutual
theorem nested_of {X : Cx} {pins : List (Addr × Obj)} {σ : L2.St} {H : Hp} {s : Shared} (I : Inv X pins σ H s) : ∀ (k : NestedKey) (v : V) (u : Value), Dp X.K H v k.data → RelV v u → NestedIs s.heap k u
  | .none, _, _, h, r => by
    simp only [NestedKey.data] at h
    cases h; cases r; exact .none
  | .num i, _, _, h, r => by
    simp only [NestedKey.data] at h
    cases h; obtain ⟨t, rfl⟩ := r; exact .int i t
  | .text x, _, _, h, r => by
    simp only [NestedKey.data] at h
    cases h; obtain ⟨t, rfl⟩ := r; exact .text x t
  | .tup ks, _, _, h, r => by
    simp only [NestedKey.data] at h
    cases h with
    | tup a b =>
      cases r
      obtain ⟨its, rv, ⟨o, ho, hc, n, hd⟩, _⟩ := I.tuple a
      exact .tup ho hc hd (by simpa using nesteds_of I ks _ its b rv)
theorem nesteds_of {X : Cx} {pins : List (Addr × Obj)} {σ : L2.St} {H : Hp} {s : Shared} (I : Inv X pins σ H s) : ∀ (ks : List NestedKey) (vs : List V) (us : List Value), DpAll X.K H vs (NestedKey.datas ks) → Vals vs us → NestedAll s.heap ks us
  | [], _, _, h, r => by
    simp only [NestedKey.datas] at h
    cases h; cases r; exact .nil
  | k :: ks, _, _, h, r => by
    simp only [NestedKey.datas] at h
    cases h with
    | cons a b =>
      cases r with
      | cons r1 r2 => exact .cons (nested_of I k _ _ a r1) (nesteds_of I ks _ _ b r2)
end
theorem key_is {X : Cx} {pins : List (Addr × Obj)} {σ : L2.St} {H : Hp} {s : Shared} (I : Inv X pins σ H s) {k : NestedKey} {a : Addr} (h : Dp X.K H (.ref a) k.data) (hd : k.depth ≤ 8) : (nestedKind X.prog X.w).is s.heap k a :=
  ⟨nested_of I k _ _ h rfl, hd⟩
/-- the abstract rows stand for the entries -/
def Rows (K : PySem.W.Frag) (H : Hp) (kvs : List (NestedKey × PyData)) (xs : List (NestedKey × Addr × Value)) : Prop := Paired (NRow K H) kvs xs
theorem dn_ok {X : Cx} {pins : List (Addr × Obj)} {σ : L2.St} {H : Hp} {s : Shared} (I : Inv X pins σ H s) {p : Addr} {kvs : List (NestedKey × PyData)} {xs : List (NestedKey × Addr × Value)} (hp : H p = some (DN X.prog X.w p xs)) (r : Paired (NRow X.K H) kvs xs) :
    s.heap.DictOfH (nestedKind X.prog X.w) p xs := by
  have z : ObjOk X.prog X.w H s.heap p (.ext fun h => ∃ o es ep, h.get? p = some o ∧ o.ExactDict ∧ o.data = .dict es ep ∧ es.toList = xs.map (entryOfKey (nestedKind X.prog X.w)) ∧ (xs.map (·.1)).Nodup) := I.hok p _ hp
  obtain ⟨⟨o, es, ep, h1, h2, h3, h4, h5⟩, _⟩ := z
  refine ⟨o, es, ep, h1, h2, h3, h4, fun x hx => ?_, h5⟩
  have : ∀ {kvs : List (NestedKey × PyData)} {xs : List (NestedKey × Addr × Value)}, Paired (NRow X.K H) kvs xs → x ∈ xs → (nestedKind X.prog X.w).is s.heap x.1 x.2.1 := by
    intro kvs xs r
    induction r with
    | nil => intro h; cases h
    | cons r t ih =>
      intro h
      rcases List.mem_cons.mp h with e | e
      · subst e
        obtain ⟨a, b, c, _⟩ := r
        rw [a] at b c
        exact key_is I c b
      · exact ih e
  exact this r hx
theorem dn_laid {P : Program} {w : World} {H : Hp} {h : Heap} {p : Addr} {xs : List (NestedKey × Addr × Value)} (m : h.DictOfH (nestedKind P w) p xs) : ObjOk P w H h p (DN P w p xs) := by
  obtain ⟨o, es, ep, h1, h2, h3, h4, _, h5⟩ := m
  refine ⟨⟨o, es, ep, h1, h2, h3, h4, h5⟩, ⟨o, h1⟩, fun a b z k => ?_⟩
  obtain ⟨o', es', ep', z1, z2, z3, z4, z5⟩ := z
  exact ⟨o', es', ep', k _ z1, z2, z3, z4, z5⟩
def lookN {β : Type} (kvs : List (NestedKey × β)) (k : NestedKey) : Option β := (kvs.find? fun r => decide (r.1 = k)).map (·.2)
theorem rows_at {K : PySem.W.Frag} {H : Hp} : ∀ {kvs : List (NestedKey × PyData)} {xs : List (NestedKey × Addr × Value)}, Paired (NRow K H) kvs xs → ∀ k, match lookN kvs k with
    | some d => ∃ a u v, atKey xs k = some (a, u) ∧ RelV v u ∧ Dp K H v d
    | none => atKey xs k = none
  | _, _, .nil, k => rfl
  | _, _, .cons (a := r) (b := x) (l₁ := kvs) (l₂ := xs) h t, k => by
    have ih := rows_at t k
    obtain ⟨e1, e2, e3, v, rv, dv⟩ := h
    by_cases e : r.1 = k
    · have e' : x.1 = k := e1.symm.trans e
      simp only [lookN, atKey, List.find?_cons, e, e', decide_true]
      exact ⟨_, _, v, rfl, rv, dv⟩
    · have e' : ¬ x.1 = k := fun z => e (e1.trans z)
      simp only [lookN, atKey, List.find?_cons, e, e', decide_false] at ih ⊢
      exact ih
theorem rows_any {K : PySem.W.Frag} {H : Hp} {kvs : List (NestedKey × PyData)} {xs : List (NestedKey × Addr × Value)} (r : Paired (NRow K H) kvs xs) (k : NestedKey) : (atKey xs k).isSome = (lookN kvs k).isSome := by
  have h := rows_at r k
  cases e : lookN kvs k with
  | none => rw [e] at h; rw [h]; rfl
  | some d =>
    rw [e] at h
    obtain ⟨a, u, v, h, _⟩ := h
    rw [h]; rfl
theorem roomN {X : Cx} (hu : X.A.units + 64 < cLine) : (nestedKind X.prog X.w).room X.A.in1 ∧ (nestedKind X.prog X.w).room X.A := by
  constructor
  · show X.A.units + 1 + 8 < cLine; omega
  · show X.A.units + 8 < cLine; omega
section
variable {X : Cx}
/-- k in d, k not in d -/
def rInN (P : Program) (w : World) (K : PySem.W.Frag) (neg : Bool) : R2 := fun x y H Q => ∃ (a p : Addr) (k : NestedKey) (kvs : List (NestedKey × PyData)) (xs : List (NestedKey × Addr × Value)), x = .ref a ∧ y = .ref p ∧ Dp K H (.ref a) k.data ∧ k.depth ≤ 8 ∧
  H p = some (DN P w p xs) ∧ (p == sysModules) = false ∧ Paired (NRow K H) kvs xs ∧ Q (.bl (if neg then !(lookN kvs k).isSome else (lookN kvs k).isSome)) H
theorem op_inN (hu : X.A.units + 64 < cLine) : OpR X (compareOp .In) (rInN X.prog X.w X.K false) := by
  intro pins s σ H x y v u Q I rx ry h
  obtain ⟨a, p, k, kvs, xs, rfl, rfl, hd, hk, hp, hs, r, q⟩ := h
  cases rx
  cases ry
  refine wpAny_in_heap (roomN hu).1 (key_is I hd hk) hs (dn_ok I hp r) ?_
  rw [rows_any r k]
  exact ⟨.bl _, H, I.tok _, rfl, q⟩
theorem op_notInN (hu : X.A.units + 64 < cLine) : OpR X (compareOp .NotIn) (rInN X.prog X.w X.K true) := by
  intro pins s σ H x y v u Q I rx ry h
  obtain ⟨a, p, k, kvs, xs, rfl, rfl, hd, hk, hp, hs, r, q⟩ := h
  cases rx
  cases ry
  refine notIn_keyed (kvs := pairsH xs) (roomN hu).1 (key_is I hd hk) hs ⟨xs, dn_ok I hp r, rfl⟩ ?_
  rw [valueAt_pairsH, Option.isSome_map, rows_any r k]
  exact ⟨.bl _, H, I.tok _, rfl, q⟩
/-- d[k] -/
def rGetN (P : Program) (w : World) (K : PySem.W.Frag) : R2 := fun x y H Q => ∃ (a p : Addr) (k : NestedKey) (kvs : List (NestedKey × PyData)) (xs : List (NestedKey × Addr × Value)), y = .ref a ∧ x = .ref p ∧ Dp K H (.ref a) k.data ∧ k.depth ≤ 8 ∧
  H p = some (DN P w p xs) ∧ Paired (NRow K H) kvs xs ∧ ∃ (v : V) (u : Value) (b : Addr), atKey xs k = some (b, u) ∧ RelV v u ∧ Q v H
theorem ix_N (hu : X.A.units + 64 < cLine) : IxR X (rGetN X.prog X.w X.K) := by
  intro value slice pins s σ H x y v u Q I rx ry h hs
  obtain ⟨a, p, k, kvs, xs, rfl, rfl, hd, hk, hp, r, v', u', b, ea, rv, q⟩ := h
  cases rx
  cases ry
  have m := dn_ok I hp r
  refine tail_any m.typeIs PySem.F.slot_dict_getitem.lookup (wpAny_getItem_heap (roomN hu).1 (key_is I hd hk) m ea ?_) hs
  exact ⟨v', H, I.tok _, rv, q⟩
theorem mut_dn {P : Program} {w : World} {p : Addr} {xs : List (NestedKey × Addr × Value)} : Mut (some (DN P w p xs)) := True.intro
/-- len(d) -/
def rLenN (P : Program) (w : World) (K : PySem.W.Frag) : List V → Hp → VK → Prop := fun vs H Q => ∃ (p : Addr) (kvs : List (NestedKey × PyData)) (xs : List (NestedKey × Addr × Value)), vs = [V.ref p] ∧ H p = some (DN P w p xs) ∧ (p == sysModules) = false ∧ kvs.length ≤ 1000000 ∧ Paired (NRow K H) kvs xs ∧ Q (.int kvs.length) H
theorem cr_lenN (hu : X.A.units + 64 < cLine) : CallR X (.builtin "len") (rLenN X.prog X.w X.K) := by
  intro pins s σ H vs us Q I r h
  obtain ⟨p, kvs, xs, rfl, hp, hs, hl, rr, q⟩ := h
  obtain ⟨u, rfl, ru⟩ := vals1 r
  cases ru
  have m := dn_ok I hp rr
  have hlen : kvs.length = xs.length := Paired.length rr
  have mk : s.heap.DictKeyed (nestedKind X.prog X.w) p (pairsH xs) := ⟨xs, m, rfl⟩
  have hz : (pairsH xs).length = kvs.length := by rw [pairsH_length, hlen]
  refine PyProof.Rows.call_len_slot (n := (pairsH xs).length) mk.typeIs F.slot_dict_len (fun Q' hq => len_keyed hs mk hq) (by omega) (by rw [hz]; omega) ?_
  rw [hz]
  exact ⟨.int kvs.length, H, I.tok _, ⟨_, rfl⟩, q⟩
end
end Kw

/-! text K4 -/
/-! My layer, part 4: dicts with nested keys, made and walked; sorted. -/
namespace Kw
open PySem PySem.Spec PyProof.Rows L2

/-- the rows behind d[k] = v -/
def putN {β : Type} (kvs : List (NestedKey × β)) (k : NestedKey) (d : β) : List (NestedKey × β) :=
  if (lookN kvs k).isSome = true then kvs.map fun r => if r.1 = k then (r.1, d) else r else kvs ++ [(k, d)]
theorem putN_new {β : Type} {kvs : List (NestedKey × β)} {k : NestedKey} {d : β} (h : lookN kvs k = none) : putN kvs k d = kvs ++ [(k, d)] := by
  unfold putN
  rw [h]
  rfl
theorem rows_put {K : PySem.W.Frag} {H : Hp} {kvs : List (NestedKey × PyData)} {xs : List (NestedKey × Addr × Value)} (r : Paired (NRow K H) kvs xs) {k : NestedKey} {a : Addr} {v : V} {u : Value} {d : PyData}
    (hk : k.depth ≤ 8) (ha : Dp K H (.ref a) k.data) (rv : RelV v u) (dv : Dp K H v d) : Paired (NRow K H) (putN kvs k d) (storedH xs k a u) := by
  unfold putN storedH
  rw [rows_any r k]
  by_cases e : (lookN kvs k).isSome = true
  · rw [if_pos e, if_pos e]
    clear e
    induction r with
    | nil => exact .nil
    | cons h t ih =>
      rename_i x y xs ys
      refine .cons ?_ ih
      obtain ⟨e1, e2, e3, v0, r0, d0⟩ := h
      show NRow K H (if x.1 = k then (x.1, d) else x) (putAt k u y)
      unfold putAt
      by_cases q : x.1 = k
      · rw [if_pos q, if_pos (e1.symm.trans q)]
        exact ⟨e1, e2, e3, v, rv, dv⟩
      · rw [if_neg q, if_neg fun z => q (e1.trans z)]
        exact ⟨e1, e2, e3, v0, r0, d0⟩
  · rw [if_neg e, if_neg e]
    have app : ∀ {l : List (NestedKey × PyData)} {m : List (NestedKey × Addr × Value)}, Paired (NRow K H) l m → Paired (NRow K H) (l ++ [(k, d)]) (m ++ [(k, a, u)]) := by
      intro l m r
      induction r with
      | nil => exact .cons ⟨rfl, hk, ha, v, rv, dv⟩ .nil
      | cons h t ih => exact .cons h ih
    exact app r
theorem putN_len {β : Type} (kvs : List (NestedKey × β)) (k : NestedKey) (d : β) : (putN kvs k d).length ≤ kvs.length + 1 := by
  unfold putN
  split
  · rw [List.length_map]; omega
  · rw [List.length_append]; exact Nat.le_refl _
section
variable {X : Cx}
/-- d[k] = v -/
def rPutN (P : Program) (w : World) (K : PySem.W.Frag) : TSet := fun o i v H Q => ∃ (a p : Addr) (k : NestedKey) (kvs : List (NestedKey × PyData)) (xs : List (NestedKey × Addr × Value)), o = .ref p ∧ i = .ref a ∧ Dp K H (.ref a) k.data ∧ k.depth ≤ 8 ∧
  H p = some (DN P w p xs) ∧ Paired (NRow K H) kvs xs ∧ kvs.length ≤ 1000000 ∧ ∀ u, RelV v u → Q (upd H p (DN P w p (storedH xs k a u)))
theorem dn_store {pins : List (Addr × Obj)} {s : Shared} {σ : L2.St} {H : Hp} {p a : Addr} {k : NestedKey} {u : Value} {xs : List (NestedKey × Addr × Value)} {h' : Heap} {tk : Nat} (I : Inv X pins σ H s) (hp : H p = some (DN X.prog X.w p xs))
    (m : h'.DictOfH (nestedKind X.prog X.w) p (storedH xs k a u)) (hs : Heap.SameBut p s.heap h') : Inv X pins σ (upd H p (DN X.prog X.w p (storedH xs k a u))) { s with heap := h', toks := tk } := by
  have hd : ∃ o, h'.get? p = some o := let ⟨o, _, _, z, _⟩ := m; ⟨o, z⟩
  exact I.write (x := p) (e := p) (by rw [hp]; exact mut_dn) (.inl rfl) (fun b ob hb z => (hs.2 b hb).trans z) hd (dn_laid m)
theorem put_N (hu : X.A.units + 64 < cLine) : PSet X (rPutN X.prog X.w X.K) := by
  intro pins s σ H o i v ov iv u Q I ro ri rv h
  obtain ⟨a, p, k, kvs, xs, rfl, rfl, hd, hk, hp, r, hl, q⟩ := h
  cases ro
  cases ri
  have hlen : kvs.length = xs.length := Paired.length r
  refine wpAny_setItem_heap (hsz := by rw [← hlen, sizeLine_eq]; omega) (roomN hu).1 (key_is I hd hk) (dn_ok I hp r) fun h' m' hs => ?_
  exact ⟨_, dn_store I hp m' hs, q u rv⟩
theorem dn_dictSet {pins : List (Addr × Obj)} {s : Shared} {σ : L2.St} {H : Hp} {p a : Addr} {k : NestedKey} {u : Value} {kvs : List (NestedKey × PyData)} {xs : List (NestedKey × Addr × Value)} {Q : Unit → Shared → Prop} {E : Value → Shared → Prop} (hu : X.A.units + 64 < cLine)
    (I : Inv X pins σ H s) (hp : H p = some (DN X.prog X.w p xs)) (r : Paired (NRow X.K H) kvs xs) (hl : kvs.length ≤ 1000000) (hd : Dp X.K H (.ref a) k.data) (hk : k.depth ≤ 8)
    (q : ∀ s', Inv X pins σ (upd H p (DN X.prog X.w p (storedH xs k a u))) s' → Q () s') : wpAny (model X.prog X.w) X.A (dictSet p (.ref a) u) Q E s := by
  have hlen : kvs.length = xs.length := Paired.length r
  refine wpAny_dictSet_heap (hsz := by rw [← hlen, sizeLine_eq]; omega) (roomN hu).2 (key_is I hd hk) (dn_ok I hp r) fun h' m' hs => ?_
  exact q _ (dn_store I hp m' hs)
/-- an empty one is laid -/
theorem dn_new {pins : List (Addr × Obj)} {s : Shared} {σ : L2.St} {H : Hp} (I : Inv X pins σ H s) : Inv X pins σ (upd H s.heap.objs.size (DN X.prog X.w s.heap.objs.size [])) { s with heap := s.heap.push { cls := .type "dict", data := .dict #[] } } :=
  I.laid (t' := s.toks) (a := s.heap.objs.size) (fun _ _ q => Heap.get?_push_of_some _ q) (Nat.le_refl _) (dn_laid (Heap.DictOfH.new _))
theorem dn_sys {pins : List (Addr × Obj)} {s : Shared} {σ : L2.St} {H : Hp} (I : Inv X pins σ H s) : (s.heap.objs.size == sysModules) = false := by
  have h := I.big
  exact beq_eq_false_iff_ne.mpr (Nat.ne_of_gt h)
/-- {k: v}, the one key a nested tuple -/
def tDisp1 (P : Program) (w : World) (K : PySem.W.Frag) (tk tv : TE) : TE := fun σ H Q => ∀ p, H p = none → (p == sysModules) = false → tk σ (upd H p (DN P w p [])) fun y H1 => tv σ H1 fun z H2 => ∃ (a : Addr) (k : NestedKey), y = .ref a ∧ Dp K H2 (.ref a) k.data ∧ k.depth ≤ 8 ∧
  H2 p = some (DN P w p []) ∧ ∀ u, RelV z u → Q (.ref p) (upd H2 p (DN P w p [(k, a, u)]))
theorem pe_disp1 {k v : Expr} {pos : Pos} {tk tv : TE} (hu : X.A.units + 64 < cLine) (hk : PE X k tk) (hv : PE X v tv) : PE X (.Dict [some k] [v] pos) (tDisp1 X.prog X.w X.K tk tv) := by
  refine ⟨fun pins s σ H Q I h => ?_⟩
  have hn := I.hok.fresh (Nat.le_refl s.heap.objs.size)
  have hsh : (evalEachOpt [some k] X.env).zip ((evalEach [v] X.env).map fun v => do let x ← v; standAt pos; pure x) = (pairTrees [some k] [v] X.env pos).map fun p => (some p.1, p.2) := by rfl
  rw [arm_eval_Dict, hsh, dictDisplay_pairs _ (by simp [pairTrees]) (by simp [pairTrees])]
  refine wpAny_bind (wpAny_standAt (wpAny_bind (wpAny_subDictH (knd := nestedKind X.prog X.w) (Q := fun d s' => wpAny (model X.prog X.w) X.A (pure (Value.ref d)) (EP X pins σ Q) X.xe s') (roomN hu).2 (by simp [pairTrees]) ?_)))
  refine pairTrees_cons_walk (thn (hk.run pins _ σ _ _ (dn_new I) (h _ hn (dn_sys I))) fun kv s1 ⟨y, H1, I1, ry, q1⟩ => thn (hv.run pins s1 σ H1 _ I1 q1) fun vv s2 ⟨z, H2, I2, rz, a, kk, ey, hd, hdp, hp, q⟩ => pairTrees_nil_walk ?_)
  subst ey
  obtain rfl : kv = Value.ref a := ry
  exact ⟨[(kk, a, vv)], ⟨rfl, rfl, key_is I2 hd hdp, trivial⟩, dn_ok I2 hp .nil, fun h' tk m' hs => wpAny_pure ⟨.ref s.heap.objs.size, _, dn_store (k := kk) (a := a) (u := vv) (tk := tk) I2 hp m' hs, rfl, q vv rz⟩⟩
/-- list(d) -/
def rListN (P : Program) (w : World) (K : PySem.W.Frag) : List V → Hp → VK → Prop := fun vs H Q => ∃ (p : Addr) (kvs : List (NestedKey × PyData)) (xs : List (NestedKey × Addr × Value)), vs = [V.ref p] ∧ H p = some (DN P w p xs) ∧ (p == sysModules) = false ∧ kvs.length ≤ 1000000 ∧ Paired (NRow K H) kvs xs ∧
  ∀ q, H q = none → Q (.ref q) (upd H q (.lst (xs.map fun x => V.ref x.2.1)))
theorem rows_keys {K : PySem.W.Frag} {H : Hp} : ∀ {kvs : List (NestedKey × PyData)} {xs : List (NestedKey × Addr × Value)}, Paired (NRow K H) kvs xs → DpAll K H (xs.map fun x => V.ref x.2.1) (kvs.map fun r => r.1.data)
  | _, _, .nil => .nil
  | _, _, .cons h t => .cons h.2.2.1 (rows_keys t)
theorem vals_map {α : Type} (f : α → V) (g : α → Value) (h : ∀ a, RelV (f a) (g a)) : ∀ l : List α, Vals (l.map f) (l.map g)
  | [] => .nil
  | a :: l => .cons (h a) (vals_map f g h l)
theorem cr_listN (hc : X.calm = true) : CallR X (.type "list") (rListN X.prog X.w X.K) := by
  intro pins s σ H vs us Q I r h
  obtain ⟨p, kvs, xs, rfl, hp, hs, hl, rr, q⟩ := h
  obtain ⟨u, rfl, ru⟩ := vals1 r
  cases ru
  have m := dn_ok I hp rr
  obtain ⟨es, ep, hr, he, hi⟩ := m.raw
  have hlen : kvs.length = xs.length := Paired.length rr
  refine PySem.W.kdl_call (KdlSrc.rawDict hs) (I.ok.hd hc) hr (by rw [he, ← hlen, sizeLine_eq]; omega) fun h' tk acc' c' hk hD hacc => ?_
  have ha : acc'.toList = xs.map fun x => Value.ref x.2.1 := by
    refine List.ext_getElem? fun i => ?_
    have h1 : acc'.size = xs.length := hacc.1.trans he
    by_cases hlt : i < xs.length
    · have hi' : i < es.size := by omega
      obtain ⟨y, hy, e1, _⟩ := hi i hi'
      have hia : i < acc'.size := by omega
      obtain ⟨_, e2⟩ := hacc.2 i acc'[i] (by simp [hia])
      rw [List.getElem?_map, hy, Array.getElem?_toList]
      simp [hia, e2, e1]
    · rw [List.getElem?_eq_none (by simp; omega), List.getElem?_eq_none (by simp; omega)]
  have hv : Vals (xs.map fun x => V.ref x.2.1) acc'.toList := by
    rw [ha]
    exact vals_map (fun x : NestedKey × Addr × Value => V.ref x.2.1) (fun x => Value.ref x.2.1) (fun x => (rfl : Value.ref x.2.1 = Value.ref x.2.1)) xs
  refine ⟨.ref s.heap.objs.size, _, I.laid (t' := tk) (a := s.heap.objs.size) (o := .lst (xs.map fun x => V.ref x.2.1)) hk (Nat.le_refl _) ⟨by rw [List.length_map, ← hlen, sizeLine_eq]; omega, acc'.toList, c', hv, hD⟩, rfl, q _ I.fresh⟩
/-- sorted(list of alike tuples) -/
def rSortD (K : PySem.W.Frag) : List V → Hp → VK → Prop := fun vs H Q => ∃ (G : Hp) (a : Addr) (ds : List PyData), vs = [V.ref a] ∧ Same G H ∧ Dp K G (.ref a) (.list ds) ∧ PySem.W.AllAlike ds ∧ PySem.W.Sortable ds ∧ ds.length ≤ 1000000 ∧ (∀ d ∈ ds, d.depth ≤ 50) ∧
  ∀ q us, H q = none → DpAll K G us (ds.mergeSort (PySem.W.dataLe false id)) → Q (.ref q) (upd H q (.lst us))
theorem each_of {R : Value → PyData → Prop} : ∀ {us : List Value} {ds : List PyData}, us.length = ds.length → (∀ (i : Nat) u d, us[i]? = some u → ds[i]? = some d → R u d) → PySem.W.EachIs R us ds
  | [], [], _, _ => .nil
  | u :: us, d :: ds, e, h => .cons (h 0 u d rfl rfl) (each_of (by simpa using e) fun i u d e1 e2 => h (i + 1) u d (by simpa using e1) (by simpa using e2))
  | [], _ :: _, e, _ => by simp at e
  | _ :: _, [], e, _ => by simp at e
theorem dps_of_each {K : PySem.W.Frag} {H : Hp} : ∀ {us : List Value} {ds : List PyData}, PySem.W.EachIs (fun u d => ∃ v, RelV v u ∧ Dp K H v d) us ds → ∃ vs, Vals vs us ∧ DpAll K H vs ds
  | _, _, .nil => ⟨[], .nil, .nil⟩
  | _, _, .cons ⟨v, r, h⟩ t => by
    obtain ⟨vs, r2, h2⟩ := dps_of_each t
    exact ⟨v :: vs, .cons r r2, .cons h h2⟩
theorem cr_sortD (hu : X.A.units + 64 < cLine) : CallR X (.builtin "sorted") (rSortD X.K) := by
  intro pins s σ H vs us Q I r h
  obtain ⟨G, a, ds, rfl, sg, hd, ha, hso, hl, hz, q⟩ := h
  obtain ⟨u, rfl, ru⟩ := vals1 r
  cases ru
  cases hd with
  | lst hs hall =>
    obtain ⟨its, rv, pl, _⟩ := I.list (sg.seq hs)
    have l1 := rv.length
    have l2 := dpAll_len hall
    have e0 : PySem.W.EachIs (fun u d => ∃ v, RelV v u ∧ Dp X.K G v d) its ds := each_of (by omega) fun i u d e1 e2 => by
      obtain ⟨v, e3, e4⟩ := dpAll_get hall e2
      obtain ⟨u', e5, e6⟩ := rv.get e3
      rw [e1] at e5
      cases e5
      exact ⟨v, e6, e4⟩
    have er : PySem.W.EachIs (fun v b => ∃ as, Reads s.heap v (id b) as) its ds := e0.mono fun u d ⟨v, r1, d1⟩ => Dp.reads I d v u (dp_mono sg _ _ d1) r1
    have em : ds.map id = ds := List.map_id ds
    refine PySem.W.sorted_data (enc := id) pl.isList e0 er (by rw [em]; exact ha) (by rw [em]; exact hso) (by rw [sizeLine_eq]; omega) (fun b hb => by have := hz b hb; show X.A.units + 2 + b.depth < cLine; omega) fun out ho eo => ?_
    obtain ⟨ws, rw', dw⟩ := dps_of_each eo
    obtain ⟨c, hc⟩ := PyProof.Rows.sortedAll_at s.heap its (List.toArray out)
    have lw := rw'.length
    refine ⟨.ref (s.heap.objs.size + 1), _, I.laid (t' := s.toks) (a := s.heap.objs.size + 1) (o := .lst ws) (fun b o e => PyProof.Rows.sortedAll_old e) (Nat.le_succ _) ⟨by rw [lw, ho, sizeLine_eq]; omega, out, c, rw', hc⟩, rfl, q _ ws (I.hok.fresh (Nat.le_succ _)) dw⟩

/-! ### {k: v for target in iter} -/
def tDcN (P : Program) (w : World) (K : PySem.W.Frag) (wi : TI) (g : TG) (tk tv : TE) (vs : List Nat) : TE := fun σ H Q => wi σ H fun J H1 => ∀ D, H1 D = none → (D == sysModules) = false → ∃ W : Nat → Nat → Hp → Prop, (∃ m, W 0 m (upd H1 D (DN P w D []))) ∧
  ∀ i m H, W i m H → (J.stop i H ∧ Q (.ref D) H) ∨ (J.go i H ∧ ∃ Nx : Hp → Prop, (∀ H', Nx H' → ∃ m', m' < m ∧ W (i + 1) m' H') ∧ ∀ x H', J.yld i H x H' → g x (wipe σ vs) H' fun σ2 H2 => wipe σ2 vs = wipe σ vs ∧
    tk σ2 H2 fun y H4 => tv σ2 H4 fun z H5 => ∃ (a : Addr) (k : NestedKey) (kvs : List (NestedKey × PyData)) (xs : List (NestedKey × Addr × Value)), y = .ref a ∧ Dp K H5 (.ref a) k.data ∧ k.depth ≤ 8 ∧
      H5 D = some (DN P w D xs) ∧ Paired (NRow K H5) kvs xs ∧ kvs.length ≤ 1000000 ∧ ∀ u, RelV z u → Nx (upd H5 D (DN P w D (storedH xs k a u))))
theorem dc_core {pins : List (Addr × Obj)} {s : Shared} {σ : L2.St} {H : Hp} {Q : VK} {kx vx tg iter : Expr} {scope : Scope} {own : List (Str × Nat)} {pos pos' : Pos} {wi : TI} {g : TG} {tk tv : TE} {use : Option (Value → Sem Unit)} {Qf : Value → Shared → Prop}
    (hu : X.A.units + 64 < cLine) (hc : X.calm = true) (hN : X.N.Nodup) (I : Inv X pins σ H s) (hi : PI X tg iter wi) (ok : BlkOk X.N X.env.scope scope own)
    (hg : ∀ (s : Shared) (H : Hp) (c : Addr) (cl : List (Str × Addr)) (fp : List Addr), PG (X.blk s H scope (compEnvC scope cl c X.env) fp) tg g)
    (hk : ∀ (s : Shared) (H : Hp) (c : Addr) (cl : List (Str × Addr)) (fp : List Addr), PE (X.blk s H scope (compEnvC scope cl c X.env) fp) kx tk)
    (hv : ∀ (s : Shared) (H : Hp) (c : Addr) (cl : List (Str × Addr)) (fp : List Addr), PE (X.blk s H scope (compEnvC scope cl c X.env) fp) vx tv) (hs : ∀ x, foldedSetIterable iter X.env x = pure x)
    (h : tDcN X.prog X.w X.K wi g tk tv (own.map (·.2)) σ H Q)
    (hRR : ∀ D c s' m H', Inv X pins σ H' s' → Q (.ref D) H' → s'.heap.Ns c m → FpOk X pins H' c → compPost (model X.prog X.w) X.A X.xe use Qf (.ref D) c (.ok .next) s') :
    wpAny (model X.prog X.w) X.A (comprehension (.DictComp kx vx [⟨tg, iter, [], 0⟩] scope pos) scope X.env pos' newDict false (eval iter X.env) use) Qf X.xe s := by
  have clo : ∀ y ∈ scope.names, y.2 = .free → ∃ c, X.env.cells.lookup y.1 = some c := fun y hy e => (ok.free y hy e).elim (fun k => I.ok.has _ (.inl k)) fun k => I.ok.has _ (.inr k)
  refine wpAny_comprehension_free (use := use) rfl hs (closure_ok clo) ok.kind (fun y hy e => by rw [ok.uniq y hy, e]) (thn (hi.run pins s σ H _ I h) fun xv s1 hx => thn hx fun itv s2 h2 => ?_)
  obtain ⟨it, fp, tn, J, H2, e, I2, T, st2, f2, q⟩ := h2
  subst e
  refine wpAny_newObj_type (newEnv_comp ?_)
  have sys := dn_sys I2
  have I3' := dn_new I2
  generalize eD : s2.heap.objs.size = D at sys I3' ⊢
  have nD : H2 D = none := I2.hok.fresh (Nat.le_of_eq eD)
  obtain ⟨W, ⟨m0, w0⟩, turn⟩ := q D nD sys
  generalize es3 : ({ s2 with heap := s2.heap.push { cls := .type "dict", data := .dict #[] } } : Shared) = s3 at I3'
  have h3 : s3.heap = s2.heap.push { cls := .type "dict", data := .dict #[] } := by rw [← es3]
  have lt2 : ∀ b ∈ fp, b < s2.heap.objs.size := fun b hb => let ⟨o, e, _⟩ := T.obj _ _ st2 b hb; Heap.lt_size e
  generalize eH3 : upd H2 D (DN X.prog X.w D []) = H3 at I3' w0
  have f3 : ∀ b ∈ fp, FpOk X pins H3 b ∧ b < s3.heap.objs.size := fun b hb => by
    have hlt := lt2 b hb
    refine ⟨⟨?_, (f2 b hb).2⟩, by rw [h3, Heap.size_push]; exact Nat.lt_succ_of_lt hlt⟩
    rw [← eH3, upd_ne (by rw [← eD]; exact Nat.ne_of_lt hlt)]
    exact (f2 b hb).1
  have st3 : tn 0 s3.heap := T.keep _ _ _ st2 fun b _ o e => by rw [h3]; exact Heap.get?_push_of_some _ e
  have I4 := block_start I3' ok hN f3
  generalize ecl : cellsFrom (s3.heap.objs.size + 1) scope.names (cloFrom X.env.cells scope.names []) = cl at I4
  have pg := hg s3 H3 s3.heap.objs.size cl fp
  have pk := hk s3 H3 s3.heap.objs.size cl fp
  have pv' := hv s3 H3 s3.heap.objs.size cl fp
  generalize ece : compEnvC scope cl s3.heap.objs.size X.env = ce at I4 pg pk pv'
  have cL : ce.locals = s3.heap.objs.size := by rw [← ece]; rfl
  generalize es4 : ({ s3 with heap := pushCells (s3.heap.push { cls := .type "dict", data := .dict #[] }) scope.names } : Shared) = s4 at I4
  have goal : codeAny (model X.prog X.w) X.A (.compStart (.DictComp kx vx [⟨tg, iter, [], 0⟩] scope pos) 0 (.ref it) (.ref D) ce) (compPost (model X.prog X.w) X.A X.xe use Qf (.ref D) s3.heap.objs.size) s4 := by
    have st4 : tn 0 s4.heap := T.keep _ _ _ st3 fun b _ o e => by rw [← es4]; exact pushCells_keeps _ _ _ _ (Heap.get?_push_of_some _ e)
    have own0 : ∀ {σ' : L2.St} {H' : Hp} {s' : Shared}, Inv (X.blk s3 H3 scope ce fp) [] σ' H' s' → (∀ b ∈ fp, H' b = none) → ∀ b ∈ fp, FpOk (X.blk s3 H3 scope ce fp) [] H' b := fun I' hn b hb =>
      ⟨hn b hb, (I'.ok.exf b hb).1, I'.ok.exfs b hb, .inl hb, fun x c e => (I'.ok.exf b hb).2 x c e, fun p hp => by cases hp⟩
    have loop : codeAny (model X.prog X.w) X.A (.compLoop (.DictComp kx vx [⟨tg, iter, [], 0⟩] scope pos) 0 (.ref it) (.ref D) ce) (compPost (model X.prog X.w) X.A X.xe use Qf (.ref D) s3.heap.objs.size) s4 := by
      refine compLoop_anyD (fun n s' => ∃ i H', Inv (X.blk s3 H3 scope ce fp) [] (wipe σ (own.map (·.2))) H' s' ∧ tn i s'.heap ∧ (∀ b ∈ fp, H' b = none) ∧ W i n H') ?_ m0 ⟨0, H3, I4, st4, fun b hb => (f3 b hb).1.1, w0⟩
      rintro n s5 ⟨i, H5, I5, st5, n5, w5⟩
      rcases turn i n H5 w5 with ⟨stop, qq⟩ | ⟨go, Nx, hNx, step⟩
      · refine thnF (T.done (X.blk s3 H3 scope ce fp) rfl rfl rfl hc i [] s5 _ H5 (fun _ _ => False) I5 (own0 I5 n5) st5 stop) fun r s6 ⟨hr, I6⟩ => ?_
        subst hr
        have I7 : Inv X pins σ H5 s6 := I3'.call' (ch := fp) I6.os I6.base I6.hok I6.bare fun b hb => have z := (f3 b hb).1.2; ⟨z.2.2.1, z.1, z.2.2.2.1, z.2.2.2.2⟩
        have nC : H5 s3.heap.objs.size = none := by
          have z : H5 ce.locals = none := I6.free
          rwa [cL] at z
        obtain ⟨m, hn, _⟩ := I6.loc
        have hn : s6.heap.Ns ce.locals m := hn
        rw [cL] at hn
        exact hRR D s3.heap.objs.size s6 m H5 I7 qq hn (I3'.fpOk (Nat.le_refl _) nC)
      · refine thnF (T.item (X.blk s3 H3 scope ce fp) rfl rfl rfl hc i [] s5 _ H5 (fun _ _ => False) I5 (own0 I5 n5) st5 go) fun r s6 ⟨u, hr, h6⟩ => ?_
        subst hr
        refine thnF h6 fun _ s7 ⟨x, H7, I7, r7, y7, st7, n7⟩ => ?_
        have I8 := I7.pinned (own0 I7 n7) (T.obj _ _ st7)
        refine thnF (pg.run _ s7 _ H7 x u _ I8 r7 (step x H7 y7)) fun _ s8 ⟨σ8, H8, I8, hw, q8⟩ => ?_
        refine wpAny_pure ?_
        rw [if_pos rfl]
        refine thnF (pk.run _ s8 σ8 H8 _ I8 q8) fun kv s10 ⟨yk, H10, I10, r10, q10⟩ => thnF (pv'.run _ s10 σ8 H10 _ I10 q10) fun vv s11 ⟨yv, H11, I11, r11, a, k, kvs, xs, ek, hd, hkd, hD, hrow, hl, nx⟩ => ?_
        subst ek
        obtain rfl : kv = Value.ref a := r10
        refine dn_dictSet (X := X.blk s3 H3 scope ce fp) hu I11 hD hrow hl hd hkd fun s12 I12 => ?_
        obtain ⟨m', hm, w'⟩ := hNx _ (nx vv r11)
        have stay : ∀ b ∈ fp, ∀ o, s7.heap.get? b = some o → s12.heap.get? b = some o ∧ upd H11 D (DN X.prog X.w D (storedH xs k a vv)) b = none := fun b hb o e =>
          have z := I12.pin (b, o) (List.mem_append_right _ (List.mem_append_right _ (mem_pinsAt hb e)))
          ⟨z.1, z.2.1⟩
        have lw : (wipe σ (own.map (·.2))).length = σ8.length := by rw [← hw, wipe_length]
        exact ⟨m', hm, i + 1, _, (I12.unpinned (pins := [])).weak lw (fun j v e => by rw [← hw] at e; exact (wipe_some e).1), T.keep _ _ _ st7 fun b hb o e => (stay b hb o e).1, fun b hb => let ⟨o, e, _⟩ := T.obj _ _ st7 b hb; (stay b hb o e).2, w'⟩
    exact codeAny_compStart_dict loop (T.self X.A 0 _ _ _ st4 loop)
  rw [← ece] at goal
  exact goal
theorem pe_dcN {kx vx tg iter : Expr} {scope : Scope} {own : List (Str × Nat)} {pos : Pos} {wi : TI} {g : TG} {tk tv : TE} (hu : X.A.units + 64 < cLine) (hc : X.calm = true) (hN : X.N.Nodup) (hi : PI X tg iter wi) (ok : BlkOk X.N X.env.scope scope own)
    (hg : ∀ (s : Shared) (H : Hp) (c : Addr) (cl : List (Str × Addr)) (fp : List Addr), PG (X.blk s H scope (compEnvC scope cl c X.env) fp) tg g)
    (hk : ∀ (s : Shared) (H : Hp) (c : Addr) (cl : List (Str × Addr)) (fp : List Addr), PE (X.blk s H scope (compEnvC scope cl c X.env) fp) kx tk)
    (hv : ∀ (s : Shared) (H : Hp) (c : Addr) (cl : List (Str × Addr)) (fp : List Addr), PE (X.blk s H scope (compEnvC scope cl c X.env) fp) vx tv) (hs : ∀ x, foldedSetIterable iter X.env x = pure x := by intro _; rfl) :
    PE X (.DictComp kx vx [⟨tg, iter, [], 0⟩] scope pos) (tDcN X.prog X.w X.K wi g tk tv (own.map (·.2))) := by
  refine ⟨fun pins s σ H Q I h => ?_⟩
  rw [arm_eval_DictComp]
  refine dc_core hu hc hN I hi ok hg hk hv hs h fun D C s' m H' I' q hn f => ⟨m, hn, fun h'' sb => ?_⟩
  have f' := f.2
  exact ⟨.ref D, H', I'.turned (t' := s'.toks) (fun b o hb e => (sb.2 b hb).trans e) f.1 f'.1 f'.2.2.1 f'.2.2.2.1 f'.2.2.2.2, rfl, q⟩
/-- name = {..} on one line -/
theorem ps_setDcN {i : Nat} {y : Str} {py : Pos} {kx vx tg iter : Expr} {scope : Scope} {own : List (Str × Nat)} {pos spos : Pos} {wi : TI} {g : TG} {tk tv : TE} (hu : X.A.units + 64 < cLine) (hc : X.calm = true) (hN : X.N.Nodup) (hy : X.N[i]? = some y) (hyl : X.env.scope.names.lookup y = some .local)
    (hsw : swapsWith (.DictComp kx vx [⟨tg, iter, [], 0⟩] scope pos) (some (.Name y py)) spos.line X.env = pure true) (hi : PI X tg iter wi) (ok : BlkOk X.N X.env.scope scope own)
    (hg : ∀ (s : Shared) (H : Hp) (c : Addr) (cl : List (Str × Addr)) (fp : List Addr), PG (X.blk s H scope (compEnvC scope cl c X.env) fp) tg g)
    (hk : ∀ (s : Shared) (H : Hp) (c : Addr) (cl : List (Str × Addr)) (fp : List Addr), PE (X.blk s H scope (compEnvC scope cl c X.env) fp) kx tk)
    (hv : ∀ (s : Shared) (H : Hp) (c : Addr) (cl : List (Str × Addr)) (fp : List Addr), PE (X.blk s H scope (compEnvC scope cl c X.env) fp) vx tv) (hs : ∀ x, foldedSetIterable iter X.env x = pure x := by intro _; rfl) :
    PS X (.Assign [.Name y py] (.DictComp kx vx [⟨tg, iter, [], 0⟩] scope pos) spos) (tAsg (tDcN X.prog X.w X.K wi g tk tv (own.map (·.2))) (gName i)) := by
  refine ⟨fun pins s σ H D I h => ?_⟩
  rw [exec_Assign_Name_used _ _ _ _ hsw]
  refine wpAny_bind (wpAny_standAt (wpAny_bind ?_))
  show wpAny _ X.A (do let _ ← comprehension (.DictComp kx vx [⟨tg, iter, [], 0⟩] scope pos) scope X.env (firstIterPos [⟨tg, iter, [], 0⟩] pos) newDict false (eval iter X.env) (some (assign (.Name y py) X.env))) _ _ s
  refine wpAny_bind (thn (dc_core (Q := fun x H1 => gName i x σ H1 D.nx) (Qf := fun _ s' => SP X pins D .next s') hu hc hN I hi ok hg hk hv hs h fun L C s' m H' I' q hn f => ?_) fun _ s' hq => wpAny_pure (wpAny_pure hq))
  show wpAny _ _ (assign (.Name y py) X.env (.ref L)) _ _ _
  refine wpAny_assign_Name (store_ok2 (v := V.ref L) I' hN hy (.inl hyl) rfl (fun s2 I2 ⟨a, sb, ha⟩ => ?_) (.inr hyl))
  have f' := f.2
  have ne : C ≠ a := ha.elim (fun z => by rw [z]; exact f'.1) fun z e => f'.2.2.2.1 y a z e.symm
  exact ⟨m, hn.sameBut sb ne, fun h3 sb3 => ⟨_, H', I2.turned (t' := s2.toks) (fun b o hb e => (sb3.2 b hb).trans e) f.1 f'.1 f'.2.2.1 f'.2.2.2.1 f'.2.2.2.2, q⟩⟩
end
end Kw

/-! text K5 -/
/-! My layer, part 5: local things changed; loops; comprehensions; calls. -/
namespace Kw
open PySem PySem.Spec PyProof.Rows L2
section
variable {C : Ct} {G G' H H' : Hp} {σ : L2.St} {Γ : List SV} {Δ : Dl}
variable {ta tb tc te : TE} {da db d : PyData} {ds es : List PyData} {t u : TT} {b c : Bool}

/-! ### local things -/
theorem ST.perm (S : ST C G H σ Γ Δ) {Δ' : Dl} (h : Δ.Perm Δ') : ST C G H σ Γ Δ' :=
  ⟨S.g0, S.g, S.len, S.sl, fun p m e => S.mo p m (h.mem_iff.mpr e), (h.pairwise_iff fun {x y} f l1 l2 e => f l2 l1 e.symm).mp S.nd⟩
theorem ST.other (S : ST C G H σ Γ Δ) {i j : Nat} {p q : Addr} {m n : MO} (hi : Δ[i]? = some (p, m)) (hj : Δ[j]? = some (q, n)) (h : i ≠ j) (lm : isLoc m = true) (ln : isLoc n = true) : q ≠ p := by
  obtain ⟨h1, e1⟩ := List.getElem?_eq_some_iff.mp hi
  obtain ⟨h2, e2⟩ := List.getElem?_eq_some_iff.mp hj
  have pw := List.pairwise_iff_getElem.mp S.nd
  rcases Nat.lt_or_gt_of_ne h with l | l
  · have z := pw i j h1 h2 l (by rw [e1]; exact lm) (by rw [e2]; exact ln)
    rw [e1, e2] at z
    exact Ne.symm z
  · have z := pw j i h2 h1 l (by rw [e2]; exact ln) (by rw [e1]; exact lm)
    rw [e1, e2] at z
    exact z
theorem ST.mut (S : ST C G H σ Γ Δ) {k : Nat} {p : Addr} {m m' : MO} {o : HO} (hk : Δ[k]? = some (p, m)) (lm : isLoc m = true) (lm' : isLoc m' = true) (h : MOk C G (upd H p o) p m') : ST C G (upd H p o) σ Γ (Δ.set k (p, m')) where
  g0 := S.g0
  g := fun b u e => by
    have n := (S.mo p m (List.mem_of_getElem? hk)).1 lm
    rw [upd_ne fun z => by rw [z, n] at e; cases e]
    exact S.g b u e
  len := S.len
  sl := S.sl
  mo := fun q n e => by
    obtain ⟨j, hj, ej⟩ := List.mem_iff_getElem.mp e
    have ej' : (Δ.set k (p, m'))[j]? = some (q, n) := by rw [List.getElem?_eq_getElem hj, ej]
    by_cases hjk : k = j
    · subst hjk
      have hlt : k < Δ.length := (List.getElem?_eq_some_iff.mp hk).1
      rw [List.getElem?_set_self hlt] at ej'
      cases ej'
      exact ⟨fun _ => (S.mo p m (List.mem_of_getElem? hk)).1 lm, h⟩
    · rw [List.getElem?_set_ne hjk] at ej'
      obtain ⟨z1, z2⟩ := S.mo q n (List.mem_of_getElem? ej')
      exact ⟨z1, mOk_mono (Same.refl _) (fun l => upd_ne (S.other hk ej' hjk lm l)) z2⟩
  nd := by
    refine List.pairwise_iff_getElem.mpr fun i j hi hj hij l1 l2 => ?_
    rw [List.length_set] at hi hj
    have pw := List.pairwise_iff_getElem.mp S.nd i j hi hj hij
    have hlt : k < Δ.length := (List.getElem?_eq_some_iff.mp hk).1
    have ek : Δ[k] = (p, m) := (List.getElem?_eq_some_iff.mp hk).2
    by_cases h1 : k = i
    · subst h1
      rw [List.getElem_set_self] at l1 ⊢
      rw [List.getElem_set_ne (by omega)] at l2 ⊢
      have z := pw (by rw [ek]; exact lm) l2
      rw [ek] at z
      exact z
    · rw [List.getElem_set_ne h1] at l1 ⊢
      by_cases h2 : k = j
      · subst h2
        rw [List.getElem_set_self] at l2 ⊢
        have z := pw l1 (by rw [ek]; exact lm)
        rw [ek] at z
        exact z
      · rw [List.getElem_set_ne h2] at l2 ⊢
        exact pw l1 l2
/-- a local list becomes a datum -/
theorem ST.freeze (S : ST C G H σ Γ Δ) {k : Nat} {p : Addr} (hk : Δ[k]? = some (p, .ml ds)) : ∃ G', Same G G' ∧ ST C G' H σ Γ (Δ.eraseIdx k) ∧ Dp C.K G' (.ref p) (.list ds) := by
  obtain ⟨n, vs, e, r⟩ := S.mo p _ (List.mem_of_getElem? hk)
  have hn := n rfl
  have sg : Same G (upd G p (.lst vs)) := same_new hn
  have S0 : ST C G H σ Γ (Δ.eraseIdx k) := ⟨S.g0, S.g, S.len, S.sl, fun q m z => S.mo q m ((List.eraseIdx_sublist Δ k).subset z), S.nd.sublist (List.eraseIdx_sublist Δ k)⟩
  refine ⟨upd G p (.lst vs), sg, S0.grow sg (fun b u z => ?_) (Same.refl _) (fun q m z l => ?_), .lst (SqL.of upd_same) (dpAll_mono sg _ _ r)⟩
  · by_cases hb : b = p
    · subst hb; rw [upd_same] at z; cases z; exact e
    · rw [upd_ne hb] at z; exact S.g b u z
  · have hq : q ≠ p := by
      obtain ⟨j, hj⟩ := List.getElem?_of_mem z
      rw [List.getElem?_eraseIdx] at hj
      split at hj
      · exact S.other hk hj (by omega) rfl l
      · exact S.other hk hj (by omega) rfl l
    rw [upd_ne hq]
    exact (S0.mo q m z).1 l
theorem evm_ev {k : Nat} {p : Addr} (h : EVM C Γ Δ te p) (hk : Δ[k]? = some (p, .ml ds)) (q : ∀ Q, ∀ G H σ, ST C G H σ Γ Δ → te σ H Q → te σ H Q) : True := trivial
/-- found.append(e) -/
theorem nx_app {D : Ends} {k : Nat} {p : Addr} {K : PySem.W.Frag} (ho : EVM C Γ Δ ta p) (he : EV C Γ Δ te d) (hk : Δ[k]? = some (p, .ml ds)) (hz : ds.length ≤ 1000000) (hn : Nx C Γ (Δ.set k (p, .ml (ds ++ [d]))) D.nx) :
    Nx C Γ Δ (tDrop (tBM K "list" rAppend ta (tCons te tNil)) D) := fun G H σ S => ho G H σ S _ fun G1 H1 s1 S1 => by
  obtain ⟨us, eu, ru⟩ := ml_at S1 hk
  refine ⟨.inl ⟨rfl, _, .inl (.inl eu)⟩, he G1 H1 σ S1 _ fun v G2 H2 s2 S2 r2 => ?_⟩
  obtain ⟨ws, ew, rw'⟩ := ml_at S2 hk
  refine ⟨p, ws, v, rfl, rfl, ew, by rw [dpAll_len rw', sizeLine_eq]; omega, ?_⟩
  exact hn G2 _ σ (S2.mut hk rfl rfl ⟨_, upd_same, dpAll_app rw' (.cons r2 .nil)⟩)
/-- a new list of an expression is given to a name, the rest -/
theorem Nx.sub {P : L2.St → Hp → Prop} {Δ' : Dl} (h : Δ'.Sublist Δ) (k : Nx C Γ Δ' P) : Nx C Γ Δ P := fun G H σ S => k G H σ (S.sub h)
theorem Nx.perm {P : L2.St → Hp → Prop} {Δ' : Dl} (h : Δ.Perm Δ') (k : Nx C Γ Δ' P) : Nx C Γ Δ P := fun G H σ S => k G H σ (S.perm h)
/-- return found -/
def RtL (C : Ct) (D : Ends) (ds : List PyData) : Prop := ∀ p vs G H, Same C.G0 G → Same G H → G p = none → H p = some (.lst vs) → DpAll C.K G vs ds → D.rt (.ref p) H
theorem nx_retM {D : Ends} {k : Nat} {p : Addr} (h : EVM C Γ Δ te p) (hk : Δ[k]? = some (p, .ml ds)) (r : RtL C D ds) : Nx C Γ Δ (tRet te D) := fun G H σ S => h G H σ S _ fun G1 H1 s1 S1 => by
  obtain ⟨n, vs, e, q⟩ := S1.mo p _ (List.mem_of_getElem? hk)
  exact r p vs G1 H1 S1.g0 S1.g (n rfl) e q
theorem nx_retL {D : Ends} (h : EVL C Γ Δ te ds) (r : RtL C D ds) : Nx C Γ Δ (tRet te D) := fun G H σ S => h G H σ S _ fun p vs G1 H1 s1 n a S1 e q => r p vs G1 H1 S1.g0 S1.g n e q

/-! ### what is walked -/
structure WkD (C : Ct) (J : It) (hs : Dl) (ds : List PyData) : Prop where
  goes : ∀ i G H σ Γ Δ, i < ds.length → ST C G H σ Γ (Δ ++ hs) → J.go i H
  stops : ∀ G H σ Γ Δ, ST C G H σ Γ (Δ ++ hs) → J.stop ds.length H
  yields : ∀ i G H σ Γ Δ x H' d, ST C G H σ Γ (Δ ++ hs) → ds[i]? = some d → J.yld i H x H' → ∃ G', Same G G' ∧ ST C G' H' σ Γ (Δ ++ hs) ∧ Dp C.K G' x d
def WD (C : Ct) (Γ : List SV) (Δ : Dl) (wi : TI) (ds : List PyData) : Prop :=
  ∀ G H σ, ST C G H σ Γ Δ → ∀ R : It → Hp → Prop, (∀ J hs G' H', Same G G' → ST C G' H' σ Γ (Δ ++ hs) → WkD C J hs ds → R J H') → wi σ H R
theorem held {p : Addr} {hs : Dl} (S : ST C G H σ Γ (Δ ++ hs)) (h : (p, MO.hd d) ∈ hs) : Dp C.K G (.ref p) d := (S.mo p _ (List.mem_append_right _ h)).2
theorem ST.hold1 (S : ST C G H σ Γ Δ) {p : Addr} (h : Dp C.K G (.ref p) d) : ST C G H σ Γ (Δ ++ [(p, .hd d)]) := (S.hold h).perm (List.perm_append_singleton _ _).symm
theorem wd_list (h : EV C Γ Δ te (.list ds)) : WD C Γ Δ (iList C.K te) ds := fun G H σ S R q => h G H σ S _ fun v G1 H1 s1 S1 r1 => by
  cases r1 with
  | @lst a xs _ sa da =>
    refine ⟨a, rfl, ⟨xs, S1.g.seq sa⟩, q _ [(a, .hd (.list ds))] G1 H1 s1 (S1.hold1 (.lst sa da)) ?_⟩
    have get : ∀ {G H σ Γ Δ}, ST C G H σ Γ (Δ ++ [(a, MO.hd (.list ds))]) → ∃ ys, SqL C.K H a ys ∧ DpAll C.K G ys ds := fun {G H σ Γ Δ} S => by
      have z := held S (d := .list ds) (p := a) (by simp)
      cases z with
      | lst a b => exact ⟨_, S.g.seq a, b⟩
    refine ⟨fun i G H σ Γ Δ hi S => ?_, fun G H σ Γ Δ S => ?_, fun i G H σ Γ Δ x H' d S e y => ?_⟩
    · obtain ⟨ys, q1, q2⟩ := get S
      obtain ⟨v, e1, _⟩ := dpAll_get q2 (List.getElem?_eq_getElem hi)
      exact ⟨ys, v, q1, e1⟩
    · obtain ⟨ys, q1, q2⟩ := get S
      exact ⟨ys, q1, Nat.le_of_eq (dpAll_len q2)⟩
    · obtain ⟨ys, q1, q2⟩ := get S
      obtain ⟨e1, e2⟩ := y
      subst e1
      obtain ⟨v, e3, e4⟩ := dpAll_get q2 e
      rw [e2 ys q1] at e3
      cases e3
      exact ⟨G, Same.refl _, S, e4⟩
theorem wd_tup (h : EV C Γ Δ te (.tuple ds)) : WD C Γ Δ (iTup C.K te) ds := fun G H σ S R q => h G H σ S _ fun v G1 H1 s1 S1 r1 => by
  cases r1 with
  | @tup a xs _ sa da =>
    refine ⟨a, rfl, ⟨xs, sqT_mono S1.g sa⟩, q _ [(a, .hd (.tuple ds))] G1 H1 s1 (S1.hold1 (.tup sa da)) ?_⟩
    have get : ∀ {G H σ Γ Δ}, ST C G H σ Γ (Δ ++ [(a, MO.hd (.tuple ds))]) → ∃ ys, SqT C.K H a ys ∧ DpAll C.K G ys ds := fun {G H σ Γ Δ} S => by
      have z := held S (d := .tuple ds) (p := a) (by simp)
      cases z with
      | tup a b => exact ⟨_, sqT_mono S.g a, b⟩
    refine ⟨fun i G H σ Γ Δ hi S => ?_, fun G H σ Γ Δ S => ?_, fun i G H σ Γ Δ x H' d S e y => ?_⟩
    · obtain ⟨ys, q1, q2⟩ := get S
      obtain ⟨v, e1, _⟩ := dpAll_get q2 (List.getElem?_eq_getElem hi)
      exact ⟨ys, v, q1, e1⟩
    · obtain ⟨ys, q1, q2⟩ := get S
      exact ⟨ys, q1, Nat.le_of_eq (dpAll_len q2)⟩
    · obtain ⟨ys, q1, q2⟩ := get S
      obtain ⟨e1, e2⟩ := y
      subst e1
      obtain ⟨v, e3, e4⟩ := dpAll_get q2 e
      rw [e2 ys q1] at e3
      cases e3
      exact ⟨G, Same.refl _, S, e4⟩
def rngD (lo : Int) (n : Nat) : List PyData := (List.range n).map fun i : Nat => .int (lo + i)
theorem wk_rng {lo : Int} {n : Nat} : WkD C (Itr lo n) [] (rngD lo n) := by
  refine ⟨fun i G H σ Γ Δ hi S => ?_, fun G H σ Γ Δ S => ?_, fun i G H σ Γ Δ x H' d S e y => ?_⟩
  · show i < n
    simpa [rngD] using hi
  · show n ≤ (rngD lo n).length
    simp [rngD]
  · obtain ⟨e1, e2⟩ := y
    subst e1 e2
    unfold rngD at e
    rw [List.getElem?_map] at e
    have hi : i < n := by
      cases q : (List.range n)[i]? with
      | none => rw [q] at e; cases e
      | some j =>
        have := (List.getElem?_eq_some_iff.mp q).1
        simpa using this
    rw [List.getElem?_range hi] at e
    have e' : PyData.int (lo + (i : Nat)) = d := Option.some.inj e
    subst e'
    exact ⟨G, Same.refl _, S, .int _⟩
theorem wd_rng1 {ta : TA} {j : Int} (h : EVA C Γ Δ ta [.int j]) (h1 : -1000000 ≤ j ∧ j ≤ 1000000) : WD C Γ Δ (iRng1 ta) (rngD 0 j.toNat) := fun G H σ S R q => h G H σ S _ fun vs G1 H1 s1 S1 r1 => by
  cases r1 with
  | cons a b =>
    cases a
    cases b
    exact ⟨j, rfl, by omega, by omega, q _ [] G1 H1 s1 (by rw [List.append_nil]; exact S1) wk_rng⟩
theorem wd_rng2 {ta : TA} {i j : Int} (h : EVA C Γ Δ ta [.int i, .int j]) (h1 : -1000000 ≤ j ∧ j ≤ 1000000) (h2 : -1000000 ≤ i ∧ i ≤ 1000000) : WD C Γ Δ (iRng2 ta) (rngD i (j - i).toNat) := fun G H σ S R q => h G H σ S _ fun vs G1 H1 s1 S1 r1 => by
  cases r1 with
  | cons a b =>
    cases a
    cases b with
    | cons a b =>
      cases a
      cases b
      exact ⟨i, j, rfl, by omega, q _ [] G1 H1 s1 (by rw [List.append_nil]; exact S1) wk_rng⟩
/-- zip of two tuples -/
def zipD (ds es : List PyData) : List PyData := List.zipWith (fun a b => .tuple [a, b]) ds es
theorem wd_zipT {ta : TA} (h : EVA C Γ Δ ta [.tuple ds, .tuple es]) : WD C Γ Δ (RZ.iZipA C.K ta) (zipD ds es) := fun G H σ S R q => h G H σ S _ fun vs G1 H1 s1 S1 r1 => by
  cases r1 with
  | cons a b =>
    cases b with
    | cons b n =>
      cases n
      cases a with
      | @tup a xs _ sa da =>
        cases b with
        | @tup b ys _ sb db =>
          refine ⟨a, b, xs, ys, rfl, .inr ⟨sqT_mono S1.g sa, sqT_mono S1.g sb, q _ [(b, .hd (.tuple es)), (a, .hd (.tuple ds))] G1 H1 s1 ?_ ?_⟩⟩
          · have S2 := ((S1.hold (p := a) (d := .tuple ds) (.tup sa da)).hold (p := b) (d := .tuple es) (.tup sb db)).perm (Δ' := Δ ++ [(b, MO.hd (.tuple es)), (a, MO.hd (.tuple ds))]) (List.perm_append_comm (l₁ := [(b, MO.hd (.tuple es)), (a, MO.hd (.tuple ds))]) (l₂ := Δ))
            exact S2
          · have get : ∀ {G H σ Γ Δ}, ST C G H σ Γ (Δ ++ [(b, .hd (.tuple es)), (a, MO.hd (.tuple ds))]) → (∃ ys, SqT C.K H a ys ∧ DpAll C.K G ys ds) ∧ ∃ ys, SqT C.K H b ys ∧ DpAll C.K G ys es := fun {G H σ Γ Δ} S => by
              have z := held S (d := .tuple ds) (p := a) (by simp)
              have z2 := held S (d := .tuple es) (p := b) (by simp)
              cases z with
              | tup a b =>
                cases z2 with
                | tup a2 b2 => exact ⟨⟨_, sqT_mono S.g a, b⟩, ⟨_, sqT_mono S.g a2, b2⟩⟩
            have len : (zipD ds es).length = min ds.length es.length := by simp [zipD]
            refine ⟨fun i G H σ Γ Δ hi S => ?_, fun G H σ Γ Δ S => ?_, fun i G H σ Γ Δ x H' d S e y => ?_⟩
            · obtain ⟨⟨us, q1, q2⟩, ws, q3, q4⟩ := get S
              rw [len] at hi
              obtain ⟨v, e1, _⟩ := dpAll_get q2 (List.getElem?_eq_getElem (show i < ds.length by omega))
              obtain ⟨v2, e2, _⟩ := dpAll_get q4 (List.getElem?_eq_getElem (show i < es.length by omega))
              exact ⟨us, ws, v, v2, q1, q3, e1, e2⟩
            · obtain ⟨⟨us, q1, q2⟩, ws, q3, q4⟩ := get S
              have l1 := dpAll_len q2
              have l2 := dpAll_len q4
              exact ⟨us, ws, q1, q3, by rw [len]; omega⟩
            · obtain ⟨⟨us, q1, q2⟩, ws, q3, q4⟩ := get S
              obtain ⟨T, x1, y1, ex, hT, eH, hx, hy⟩ := y
              subst ex eH
              have hd : ∃ d1 d2, ds[i]? = some d1 ∧ es[i]? = some d2 ∧ d = .tuple [d1, d2] := by
                unfold zipD at e
                rw [List.getElem?_zipWith] at e
                cases e1 : ds[i]? with
                | none => rw [e1] at e; cases e
                | some d1 =>
                  cases e2 : es[i]? with
                  | none => rw [e1, e2] at e; cases e
                  | some d2 =>
                    rw [e1, e2] at e
                    exact ⟨d1, d2, rfl, rfl, (Option.some.inj e).symm⟩
              obtain ⟨d1, d2, e1, e2, ed⟩ := hd
              subst ed
              obtain ⟨v1, f1, f2⟩ := dpAll_get q2 e1
              obtain ⟨v2, f3, f4⟩ := dpAll_get q4 e2
              rw [hx us q1] at f1
              rw [hy ws q3] at f3
              cases f1
              cases f3
              have n : G T = none := S.g.free hT
              exact ⟨_, same_new n, S.new hT, .tup (SqT.of upd_same) (.cons (dp_mono (same_new n) _ _ f2) (.cons (dp_mono (same_new n) _ _ f4) .nil))⟩

/-! ### targets -/
/-- g gives d to the slots js -/
def TG1 (C : Ct) (g : TG) (d : PyData) (js : List Nat) (f : List SV → List SV) : Prop :=
  ∀ G H σ Γ Δ x, ST C G H σ Γ Δ → Dp C.K G x d → ∀ P : L2.St → Hp → Prop, (∀ σ', σ'.length = σ.length → (∀ i, i ∉ js → σ'[i]? = σ[i]?) → ST C G H σ' (f Γ) Δ → P σ' H) → g x σ H P
theorem tg_name {j : Nat} : TG1 C (gName j) d [j] fun Γ => Γ.set j (.dat d) := fun G H σ Γ Δ x S r P k =>
  k _ (by rw [List.length_set]) (fun i hi => List.getElem?_set_ne (by simpa using fun z => hi (by rw [z]; simp))) (S.set r)
theorem tgs_run1 : ∀ (js : List Nat) (ds : List PyData) (vs : List V) (σ : L2.St) (Γ : List SV), js.length = ds.length → ST C G H σ Γ Δ → DpAll C.K G vs ds → ∀ P : L2.St → Hp → Prop,
    (∀ σ', σ'.length = σ.length → (∀ i, i ∉ js → σ'[i]? = σ[i]?) → ST C G H σ' (setAll Γ js ds) Δ → P σ' H) → tgs js vs σ H P
  | [], [], vs, σ, Γ, _, S, r, P, k => by
    cases r
    exact ⟨rfl, k σ rfl (fun _ _ => rfl) S⟩
  | j :: js, d :: ds, vs, σ, Γ, e, S, r, P, k => by
    cases r with
    | cons a b =>
      refine ⟨_, _, rfl, tgs_run1 js ds _ _ (Γ.set j (.dat d)) (by simpa using e) (S.set a) b P fun σ' e1 e2 S' => k σ' (by rw [e1, List.length_set]) (fun i hi => ?_) S'⟩
      rw [List.mem_cons, not_or] at hi
      rw [e2 i hi.2]
      exact List.getElem?_set_ne (Ne.symm hi.1)
  | [], _ :: _, _, _, _, e, _, _, _, _ => by simp at e
  | _ :: _, [], _, _, _, e, _, _, _, _ => by simp at e
theorem tg_tup {js : List Nat} {n : Nat} (hn : ds.length = n) (hj : js.length = n) : TG1 C (gTup C.K n (tgs js)) (.tuple ds) js fun Γ => setAll Γ js ds := fun G H σ Γ Δ x S r P k => by
  cases r with
  | tup a b => exact ⟨_, _, rfl, sqT_mono S.g a, by rw [dpAll_len b]; exact hn, tgs_run1 js ds _ σ Γ (by rw [hj, hn]) S b P k⟩

/-! ### for -/
def LI (C : Ct) (I : List SV → Dl → Prop) (hs : Dl) : L2.St → Hp → Prop := fun σ H => ∃ G Γ Δ, I Γ Δ ∧ ST C G H σ Γ (Δ ++ hs)
theorem nx_li {I : List SV → Dl → Prop} {hs : Dl} (h : I Γ Δ) : Nx C Γ (Δ ++ hs) (LI C I hs) := fun G H σ S => ⟨G, Γ, Δ, h, S⟩
theorem nx_for {D : Ends} {wi : TI} {g : TG} {tu : TS} (w : WD C Γ Δ wi ds) (I : Nat → List SV → Dl → Prop) (h0 : I 0 Γ Δ)
    (hs : ∀ (hs : Dl) (i : Nat) d Γ' Δ', ds[i]? = some d → I i Γ' Δ' → ∃ js f, TG1 C g d js f ∧ Nx C (f Γ') (Δ' ++ hs) (tu { D with nx := LI C (I (i + 1)) hs, ct := LI C (I (i + 1)) hs, bk := D.nx }))
    (hd : ∀ Γ' Δ', I ds.length Γ' Δ' → Nx C Γ' Δ' D.nx) : Nx C Γ Δ (tFor wi g tu D) := fun G H σ S => w G H σ S _ fun J hh G1 H1 s1 S1 K => by
  refine ⟨fun i m σ H => m = ds.length - i ∧ i ≤ ds.length ∧ LI C (I i) hh σ H, ⟨ds.length, by simp, Nat.zero_le _, G1, Γ, Δ, h0, S1⟩, ?_⟩
  rintro i m σ H ⟨rfl, hi, G2, Γ2, Δ2, hI, S2⟩
  by_cases hlt : i < ds.length
  · refine .inr ⟨K.goes i G2 H σ Γ2 Δ2 hlt S2, LI C (I (i + 1)) hh, fun σ' H' p => ⟨ds.length - (i + 1), by omega, rfl, hlt, p⟩, fun x H' y => ?_⟩
    have e := List.getElem?_eq_getElem hlt
    obtain ⟨G3, s3, S3, r3⟩ := K.yields i G2 H σ Γ2 Δ2 x H' _ S2 e y
    obtain ⟨js, f, tg, n⟩ := hs hh i _ Γ2 Δ2 e hI
    exact tg G3 H' σ Γ2 _ x S3 r3 _ fun σ' _ _ S4 => n G3 H' σ' S4
  · have e : i = ds.length := by omega
    subst e
    exact .inl ⟨K.stops G2 H σ Γ2 Δ2 S2, hd Γ2 Δ2 hI G2 H σ (S2.sub (List.sublist_append_left _ _))⟩
/-- while -/
def LW (C : Ct) (I : Nat → List SV → Dl → Prop) (m : Nat) : L2.St → Hp → Prop := fun σ H => ∃ m', m' < m ∧ ∃ G Γ Δ, I m' Γ Δ ∧ ST C G H σ Γ Δ
theorem nx_lw {I : Nat → List SV → Dl → Prop} {m m' : Nat} (hm : m' < m) (h : I m' Γ Δ) : Nx C Γ Δ (LW C I m) := fun G H σ S => ⟨m', hm, G, Γ, Δ, h, S⟩
theorem nx_while {D : Ends} {tu : TS} (I : Nat → List SV → Dl → Prop) (m0 : Nat) (h0 : I m0 Γ Δ)
    (hs : ∀ m Γ' Δ', I m Γ' Δ' → ∃ b, EVT C Γ' Δ' t b ∧ (b = true → Nx C Γ' Δ' (tu { D with nx := LW C I m, ct := LW C I m, bk := D.nx })) ∧ (b = false → Nx C Γ' Δ' D.nx)) : Nx C Γ Δ (tWhile t tu D) := fun G H σ S => by
  refine ⟨fun m σ H => ∃ G Γ Δ, I m Γ Δ ∧ ST C G H σ Γ Δ, ⟨m0, G, Γ, Δ, h0, S⟩, ?_⟩
  rintro m σ H ⟨G2, Γ2, Δ2, hI, S2⟩
  obtain ⟨b, ht, h1, h2⟩ := hs m Γ2 Δ2 hI
  refine ht G2 H σ S2 _ fun G3 H3 s3 S3 => ?_
  cases b with
  | true =>
    rw [if_pos rfl]
    exact ⟨LW C I m, fun σ' H' ⟨m', hm, z⟩ => ⟨m', hm, z⟩, h1 rfl G3 H3 σ S3⟩
  | false =>
    rw [if_neg Bool.false_ne_true]
    exact h2 rfl G3 H3 σ S3
end
end Kw

/-! text K6 -/
/-! My layer, part 6: comprehensions; dicts; calls. -/
namespace Kw
open PySem PySem.Spec PyProof.Rows L2

/-! ### slots wiped -/
theorem wipe_at {σ : L2.St} : ∀ (vs : List Nat) (i : Nat), i ∉ vs → (wipe σ vs)[i]? = σ[i]?
  | [], _, _ => rfl
  | v :: vs, i, h => by
    rw [List.mem_cons, not_or] at h
    show ((wipe σ vs).set v none)[i]? = _
    rw [List.getElem?_set_ne (Ne.symm h.1), wipe_at vs i h.2]
theorem wipe_in {σ : L2.St} : ∀ (vs : List Nat) (i : Nat), i ∈ vs → i < σ.length → (wipe σ vs)[i]? = some none
  | [], _, h, _ => by cases h
  | v :: vs, i, h, hl => by
    show ((wipe σ vs).set v none)[i]? = _
    by_cases e : v = i
    · subst e
      exact List.getElem?_set_self (by rw [wipe_length]; exact hl)
    · rw [List.getElem?_set_ne e]
      exact wipe_in vs i ((List.mem_cons.mp h).resolve_left (Ne.symm e)) hl
theorem wipe_eq {σ σ' : L2.St} {vs : List Nat} (hl : σ'.length = σ.length) (h : ∀ i, i ∉ vs → σ'[i]? = σ[i]?) : wipe σ' vs = wipe σ vs := by
  refine List.ext_getElem? fun i => ?_
  by_cases hi : i ∈ vs
  · by_cases hlt : i < σ.length
    · rw [wipe_in vs i hi hlt, wipe_in vs i hi (by rw [hl]; exact hlt)]
    · rw [List.getElem?_eq_none (by rw [wipe_length]; omega), List.getElem?_eq_none (by rw [wipe_length]; omega)]
  · rw [wipe_at vs i hi, wipe_at vs i hi, h i hi]
def wipeS (Γ : List SV) : List Nat → List SV
  | [] => Γ
  | v :: vs => (wipeS Γ vs).set v .any
section
variable {C : Ct} {G G' H H' : Hp} {σ : L2.St} {Γ : List SV} {Δ : Dl}
variable {ta tb tc te tx : TE} {da db d : PyData} {ds es : List PyData} {t u : TT} {b c : Bool}
theorem ST.wipe (S : ST C G H σ Γ Δ) : ∀ vs : List Nat, ST C G H (L2.wipe σ vs) (wipeS Γ vs) Δ
  | [] => S
  | _ :: vs => (S.wipe vs).setAny
/-- the slots as they were, the things as they are now -/
theorem ST.back (S0 : ST C G H σ Γ Δ) {H2 : Hp} {σ' : L2.St} {Γ' : List SV} {Δ' : Dl} (S : ST C G' H2 σ' Γ' Δ') (a : Same G G') (h : Δ.Sublist Δ') : ST C G' H2 σ Γ Δ :=
  ⟨S0.g0.trans a, S.g, S0.len, fun i sv e => let ⟨o, e1, q⟩ := S0.sl i sv e; ⟨o, e1, svOk_mono a q⟩, fun p m e => S.mo p m (h.subset e), S0.nd⟩

/-! ### [v for .. if f] -/
theorem evl_lc {wi : TI} {g : TG} {vs : List Nat} {f : PyData → Bool} {v : PyData → PyData} (w : WD C Γ Δ wi ds) (hz : ds.length ≤ 1000000)
    (hs : ∀ D hs acc d, d ∈ ds → ∃ js fΓ, TG1 C g d js fΓ ∧ (∀ j ∈ js, j ∈ vs) ∧ EVT C (fΓ (wipeS Γ vs)) ((D, .ml acc) :: (Δ ++ hs)) t (f d) ∧ (f d = true → EV C (fΓ (wipeS Γ vs)) ((D, .ml acc) :: (Δ ++ hs)) te (v d))) :
    EVL C Γ Δ (tLc wi g t te vs) ((ds.filter f).map v) := fun G H σ S Q q => w G H σ S _ fun J hh G1 H1 s1 S1 K D hD => by
  have n1 : G1 D = none := S1.g.free hD
  refine ⟨fun i m H => m = ds.length - i ∧ i ≤ ds.length ∧ ∃ G2, Same G1 G2 ∧ ST C G2 H (L2.wipe σ vs) (wipeS Γ vs) ((D, .ml (((ds.take i).filter f).map v)) :: (Δ ++ hh)), ⟨ds.length, by simp, Nat.zero_le _, G1, Same.refl _, ?_⟩, ?_⟩
  · have S2 := (S1.wipe vs).new0 (o := .lst []) hD
    exact S2.loc n1 (S1.apart hD) ⟨[], upd_same, .nil⟩
  rintro i m H2 ⟨rfl, hi, G2, s2, S2⟩
  by_cases hlt : i < ds.length
  · have e := List.getElem?_eq_getElem hlt
    have S2' : ST C G2 H2 (L2.wipe σ vs) (wipeS Γ vs) (((D, .ml (((ds.take i).filter f).map v)) :: Δ) ++ hh) := S2
    refine .inr ⟨K.goes i G2 H2 _ _ _ hlt S2', fun H => ∃ G3, Same G1 G3 ∧ ST C G3 H (L2.wipe σ vs) (wipeS Γ vs) ((D, .ml (((ds.take (i + 1)).filter f).map v)) :: (Δ ++ hh)), fun H' ⟨G3, z1, z2⟩ => ⟨ds.length - (i + 1), by omega, rfl, hlt, G3, z1, z2⟩, fun x H3 y => ?_⟩
    obtain ⟨G3, s3, S3, r3⟩ := K.yields i G2 H2 _ _ _ x H3 _ S2' e y
    obtain ⟨js, fΓ, tg, hj, ht, he⟩ := hs D hh (((ds.take i).filter f).map v) _ (List.mem_of_getElem? e)
    refine tg G3 H3 _ _ _ x S3 r3 _ fun σ' hl hout S4 => ?_
    have hw : L2.wipe σ' vs = L2.wipe σ vs := by
      have h1 : L2.wipe σ' vs = L2.wipe (L2.wipe σ vs) vs := wipe_eq hl fun i hi => hout i fun z => hi (hj i z)
      rw [h1]
      exact wipe_eq (wipe_length σ vs) fun i hi => wipe_at vs i hi
    refine ⟨hw, ht G3 H3 σ' S4 _ fun G5 H5 s5 S5 => ?_⟩
    have tk : ds.take (i + 1) = ds.take i ++ [ds[i]] := by rw [List.take_succ, e]; rfl
    have base : ∀ {G6 H6}, Same G3 G6 → ST C G6 H6 σ' (fΓ (wipeS Γ vs)) ((D, .ml (((ds.take i).filter f).map v)) :: (Δ ++ hh)) → Same G1 G6 := fun a _ => (s2.trans s3).trans a
    cases hf : f ds[i] with
    | false =>
      show ∃ G6, _
      refine ⟨G5, (s2.trans s3).trans s5, ?_⟩
      rw [tk, List.filter_append, List.filter_cons, hf]
      simp only [Bool.false_eq_true, if_false, List.filter_nil, List.append_nil]
      exact S2.back S5 (s3.trans s5) (List.Sublist.refl _)
    | true =>
      show te σ' H5 _
      refine he hf G5 H5 σ' S5 _ fun y G6 H6 s6 S6 r6 => ?_
      obtain ⟨us, eu, ru⟩ := ml_at S6 (k := 0) rfl
      refine ⟨us, eu, ?_, G6, ((s2.trans s3).trans s5).trans s6, ?_⟩
      · rw [dpAll_len ru, List.length_map, sizeLine_eq]
        have h1 := List.length_filter_le f (ds.take i)
        rw [List.length_take] at h1
        omega
      · have S7 := S6.mut (k := 0) (m' := .ml (((ds.take i).filter f).map v ++ [v ds[i]])) (o := .lst (us ++ [y])) rfl rfl rfl ⟨_, upd_same, dpAll_app ru (.cons r6 .nil)⟩
        have e8 : ((ds.take (i + 1)).filter f).map v = ((ds.take i).filter f).map v ++ [v ds[i]] := by
          rw [tk, List.filter_append, List.filter_cons, hf]
          simp
        rw [e8]
        have S9 : ST C G6 (upd H6 D (.lst (us ++ [y]))) σ' (fΓ (wipeS Γ vs)) ((D, .ml (((ds.take i).filter f).map v ++ [v ds[i]])) :: (Δ ++ hh)) := S7
        exact ⟨S9.g0, S9.g, S2.len, fun i sv z => let ⟨o, z1, z2⟩ := S2.sl i sv z; ⟨o, z1, svOk_mono ((s3.trans s5).trans s6) z2⟩, S9.mo, S9.nd⟩
  · have e : i = ds.length := by omega
    subst e
    rw [List.take_length] at S2
    refine .inl ⟨K.stops G2 H2 _ _ ((D, .ml ((ds.filter f).map v)) :: Δ) S2, ?_⟩
    obtain ⟨n2, us, eu, ru⟩ := S2.mo D _ List.mem_cons_self
    have S3 : ST C G2 H2 σ Γ Δ := (S1.back S2 s2 (List.sublist_cons_self _ _)).sub (List.sublist_append_left _ _)
    exact q D us G2 H2 (s1.trans s2) (n2 rfl) (fun p o hm l => S1.apart hD p o (List.mem_append_left _ hm) l) S3 eu ru
/-- without a test -/
theorem evt_yes : EVT C Γ Δ tYes true := fun G H σ S Q q => q G H (Same.refl _) S

/-! ### dicts -/
/-- a new dict -/
def EVK (C : Ct) (Γ : List SV) (Δ : Dl) (te : TE) (kvs : List (NestedKey × PyData)) : Prop :=
  ∀ G H σ, ST C G H σ Γ Δ → ∀ Q : VK, (∀ p G' H', Same G G' → G' p = none → (∀ q m, (q, m) ∈ Δ → isLoc m = true → q ≠ p) → ST C G' H' σ Γ Δ → MOk C G' H' p (.md kvs) → Q (.ref p) H') → te σ H Q
theorem nx_asgK {D : Ends} {i : Nat} {kvs : List (NestedKey × PyData)} (h : EVK C Γ Δ te kvs) (k : ∀ p, Nx C (Γ.set i (.loc p)) ((p, .md kvs) :: Δ) D.nx) : Nx C Γ Δ (tAsg te (gName i) D) := fun G H σ S =>
  h G H σ S _ fun p G1 H1 s1 n a S1 m => k p G1 H1 _ ((S1.setLoc).loc n a m)
theorem rows_mono {K : PySem.W.Frag} (s : Same G H) {kvs : List (NestedKey × PyData)} {xs : List (NestedKey × Addr × Value)} (r : Paired (NRow K G) kvs xs) : Paired (NRow K H) kvs xs := paired_mono (fun _ _ => nrow_mono s) r
theorem dp_ref {K : PySem.W.Frag} {x : V} {ks : List NestedKey} (h : Dp K G x (NestedKey.tup ks).data) : ∃ a, x = .ref a := by
  simp only [NestedKey.data] at h
  cases h
  exact ⟨_, rfl⟩
theorem md_at (S : ST C G H σ Γ Δ) {k : Nat} {p : Addr} {kvs : List (NestedKey × PyData)} (h : Δ[k]? = some (p, .md kvs)) : ∃ xs, H p = some (DN C.P C.w p xs) ∧ (p == sysModules) = false ∧ Paired (NRow C.K G) kvs xs := (S.mo p _ (List.mem_of_getElem? h)).2
/-- k in d, k not in d -/
theorem ev_inN {neg : Bool} {k : Nat} {p : Addr} {kvs : List (NestedKey × PyData)} {ks : List NestedKey} (ha : EV C Γ Δ ta (NestedKey.tup ks).data) (hd : (NestedKey.tup ks).depth ≤ 8) (hb : EVM C Γ Δ tb p) (hk : Δ[k]? = some (p, .md kvs)) :
    EV C Γ Δ (tOp (rInN C.P C.w C.K neg) ta tb) (.bool (if neg then !(lookN kvs (.tup ks)).isSome else (lookN kvs (.tup ks)).isSome)) := fun G H σ S Q q =>
  ha G H σ S _ fun x G1 H1 s1 S1 r1 => hb G1 H1 σ S1 _ fun G2 H2 s2 S2 => by
    obtain ⟨a, rfl⟩ := dp_ref r1
    obtain ⟨xs, e1, e2, e3⟩ := md_at S2 hk
    exact ⟨a, p, _, kvs, xs, rfl, rfl, dp_mono (s2.trans S2.g) _ _ r1, hd, e1, e2, rows_mono S2.g e3, q _ G2 H2 (s1.trans s2) S2 (.bl _)⟩
/-- d[k] -/
theorem ev_getN {k : Nat} {p : Addr} {kvs : List (NestedKey × PyData)} {ks : List NestedKey} (ha : EVM C Γ Δ ta p) (hb : EV C Γ Δ tb (NestedKey.tup ks).data) (hd : (NestedKey.tup ks).depth ≤ 8) (hk : Δ[k]? = some (p, .md kvs)) (hv : lookN kvs (.tup ks) = some d) :
    EV C Γ Δ (tOp (rGetN C.P C.w C.K) ta tb) d := fun G H σ S Q q =>
  ha G H σ S _ fun G1 H1 s1 S1 => hb G1 H1 σ S1 _ fun x G2 H2 s2 S2 r2 => by
    obtain ⟨a, rfl⟩ := dp_ref r2
    obtain ⟨xs, e1, e2, e3⟩ := md_at S2 hk
    have z := rows_at e3 (.tup ks)
    rw [hv] at z
    obtain ⟨a', u', v', e', rv', dv'⟩ := z
    refine ⟨a, p, _, kvs, xs, rfl, rfl, dp_mono S2.g _ _ r2, hd, e1, rows_mono S2.g e3, v', u', a', e', rv', q v' G2 H2 (s1.trans s2) S2 dv'⟩
/-- d[k] = v -/
theorem nx_putN {D : Ends} {k : Nat} {p : Addr} {kvs : List (NestedKey × PyData)} {ks : List NestedKey} (hv : EV C Γ Δ te d) (ho : EVM C Γ Δ ta p) (hi : EV C Γ Δ tb (NestedKey.tup ks).data) (hd : (NestedKey.tup ks).depth ≤ 8) (hk : Δ[k]? = some (p, .md kvs)) (hz : kvs.length ≤ 1000000)
    (n : Nx C Γ (Δ.set k (p, .md (putN kvs (.tup ks) d))) D.nx) : Nx C Γ Δ (tAsg te (gSub ta tb (rPutN C.P C.w C.K)) D) := fun G H σ S =>
  hv G H σ S _ fun v G1 H1 s1 S1 r1 => ho G1 H1 σ S1 _ fun G2 H2 s2 S2 => hi G2 H2 σ S2 _ fun y G3 H3 s3 S3 r3 => by
    obtain ⟨a, rfl⟩ := dp_ref r3
    obtain ⟨xs, e1, e2, e3⟩ := md_at S3 hk
    refine ⟨a, p, _, kvs, xs, rfl, rfl, dp_mono S3.g _ _ r3, hd, e1, rows_mono S3.g e3, hz, fun u ru => ?_⟩
    exact n G3 _ σ (S3.mut hk rfl rfl ⟨_, upd_same, e2, rows_put e3 hd r3 ru (dp_mono (s2.trans s3) _ _ r1)⟩)
/-- len(d) -/
theorem ev_lenN {k : Nat} {p : Addr} {kvs : List (NestedKey × PyData)} (h : EVM C Γ Δ ta p) (hk : Δ[k]? = some (p, .md kvs)) (hz : kvs.length ≤ 1000000) : EV C Γ Δ (tCB (rLenN C.P C.w C.K) (tCons ta tNil)) (.int (kvs.length : Int)) := fun G H σ S Q q =>
  h G H σ S _ fun G1 H1 s1 S1 => by
    obtain ⟨xs, e1, e2, e3⟩ := md_at S1 hk
    exact ⟨p, kvs, xs, rfl, e1, e2, hz, rows_mono S1.g e3, q _ G1 H1 s1 S1 (.int _)⟩
/-- list(d) -/
theorem evl_listN {k : Nat} {p : Addr} {kvs : List (NestedKey × PyData)} (h : EVM C Γ Δ ta p) (hk : Δ[k]? = some (p, .md kvs)) (hz : kvs.length ≤ 1000000) : EVL C Γ Δ (tCB (rListN C.P C.w C.K) (tCons ta tNil)) (kvs.map fun r => r.1.data) := fun G H σ S Q q =>
  h G H σ S _ fun G1 H1 s1 S1 => by
    obtain ⟨xs, e1, e2, e3⟩ := md_at S1 hk
    exact ⟨p, kvs, xs, rfl, e1, e2, hz, rows_mono S1.g e3, fun l hl => q l _ G1 _ s1 (S1.g.free hl) (S1.apart hl) (S1.new0 hl) upd_same (rows_keys e3)⟩
/-- sorted(xs) -/
theorem evl_sort (h : EV C Γ Δ ta (.list ds)) (h1 : PySem.W.AllAlike ds) (h2 : PySem.W.Sortable ds) (h3 : ds.length ≤ 1000000) (h4 : ∀ d ∈ ds, d.depth ≤ 50) : EVL C Γ Δ (tCB (rSortD C.K) (tCons ta tNil)) (ds.mergeSort (PySem.W.dataLe false id)) := fun G H σ S Q q =>
  h G H σ S _ fun x G1 H1 s1 S1 r1 => by
    have r0 := r1
    cases r1 with
    | @lst a xs _ sa da => exact ⟨G1, a, ds, rfl, S1.g, r0, h1, h2, h3, h4, fun l us hl rl => q l us G1 _ s1 (S1.g.free hl) (S1.apart hl) (S1.new0 hl) upd_same rl⟩
/-- {k: v} -/
theorem evk_disp1 {ks : List NestedKey} (hk : ∀ p, EV C Γ ((p, .md []) :: Δ) ta (NestedKey.tup ks).data) (hd : (NestedKey.tup ks).depth ≤ 8) (hv : ∀ p, EV C Γ ((p, .md []) :: Δ) tb d) : EVK C Γ Δ (tDisp1 C.P C.w C.K ta tb) [(.tup ks, d)] := fun G H σ S Q q p hp hs => by
  have n : G p = none := S.g.free hp
  have S0 : ST C G (upd H p (DN C.P C.w p [])) σ Γ ((p, .md []) :: Δ) := (S.new0 hp).loc n (S.apart hp) ⟨[], upd_same, hs, .nil⟩
  refine hk p G _ σ S0 _ fun y G1 H1 s1 S1 r1 => hv p G1 H1 σ S1 _ fun z G2 H2 s2 S2 r2 => ?_
  obtain ⟨a, rfl⟩ := dp_ref r1
  obtain ⟨xs, e1, e2, e3⟩ := md_at S2 (k := 0) rfl
  cases e3
  have n2 := (S2.mo p _ List.mem_cons_self).1 rfl
  refine ⟨a, _, rfl, dp_mono (s2.trans S2.g) _ _ r1, hd, e1, fun u ru => ?_⟩
  have rr : Paired (NRow C.K G2) [(NestedKey.tup ks, d)] [(NestedKey.tup ks, a, u)] := .cons ⟨rfl, hd, dp_mono s2 _ _ r1, z, ru, r2⟩ .nil
  have S3 := S2.mut (k := 0) (m' := .md [(.tup ks, d)]) (o := DN C.P C.w p [(.tup ks, a, u)]) rfl rfl rfl ⟨_, upd_same, e2, rr⟩
  have S4 : ST C G2 (upd H2 p (DN C.P C.w p [(NestedKey.tup ks, a, u)])) σ Γ ((p, .md [(.tup ks, d)]) :: Δ) := S3
  exact q p G2 _ (s1.trans s2) n2 (S.apart hp) (S4.sub (List.sublist_cons_self _ _)) ⟨_, upd_same, e2, rr⟩
/-- {k: v for ..} -/
theorem evk_dc {wi : TI} {g : TG} {vs : List Nat} {kf : PyData → List NestedKey} {vf : PyData → PyData} (w : WD C Γ Δ wi ds) (hz : ds.length ≤ 1000000)
    (hs : ∀ D hs acc d, d ∈ ds → ∃ js fΓ, TG1 C g d js fΓ ∧ (∀ j ∈ js, j ∈ vs) ∧ EV C (fΓ (wipeS Γ vs)) ((D, .md acc) :: (Δ ++ hs)) ta (NestedKey.tup (kf d)).data ∧ (NestedKey.tup (kf d)).depth ≤ 8 ∧ EV C (fΓ (wipeS Γ vs)) ((D, .md acc) :: (Δ ++ hs)) tb (vf d)) :
    EVK C Γ Δ (tDcN C.P C.w C.K wi g ta tb vs) (ds.foldl (fun m d => putN m (.tup (kf d)) (vf d)) []) := fun G H σ S Q q => w G H σ S _ fun J hh G1 H1 s1 S1 K D hD hsys => by
  have n1 : G1 D = none := S1.g.free hD
  have ln : ∀ i, i ≤ ds.length → ((ds.take i).foldl (fun m d => putN m (.tup (kf d)) (vf d)) []).length ≤ i := fun i => by
    induction i with
    | zero => intro _; simp
    | succ i ih =>
      intro h
      have e := List.getElem?_eq_getElem (show i < ds.length by omega)
      rw [List.take_succ, e]
      simp only [Option.toList_some, List.foldl_append, List.foldl_cons, List.foldl_nil]
      have := putN_len ((ds.take i).foldl (fun m d => putN m (.tup (kf d)) (vf d)) []) (.tup (kf ds[i])) (vf ds[i])
      have := ih (by omega)
      omega
  refine ⟨fun i m H => m = ds.length - i ∧ i ≤ ds.length ∧ ∃ G2, Same G1 G2 ∧ ST C G2 H (L2.wipe σ vs) (wipeS Γ vs) ((D, .md ((ds.take i).foldl (fun m d => putN m (.tup (kf d)) (vf d)) [])) :: (Δ ++ hh)), ⟨ds.length, by simp, Nat.zero_le _, G1, Same.refl _, ?_⟩, ?_⟩
  · exact ((S1.wipe vs).new0 hD).loc n1 (S1.apart hD) ⟨[], upd_same, hsys, .nil⟩
  rintro i m H2 ⟨rfl, hi, G2, s2, S2⟩
  by_cases hlt : i < ds.length
  · have e := List.getElem?_eq_getElem hlt
    generalize hacc : (ds.take i).foldl (fun m d => putN m (.tup (kf d)) (vf d)) [] = acc at S2
    have S2' : ST C G2 H2 (L2.wipe σ vs) (wipeS Γ vs) (((D, .md acc) :: Δ) ++ hh) := S2
    refine .inr ⟨K.goes i G2 H2 _ _ _ hlt S2', fun H => ∃ G3, Same G1 G3 ∧ ST C G3 H (L2.wipe σ vs) (wipeS Γ vs) ((D, .md ((ds.take (i + 1)).foldl (fun m d => putN m (.tup (kf d)) (vf d)) [])) :: (Δ ++ hh)), fun H' ⟨G3, z1, z2⟩ => ⟨ds.length - (i + 1), by omega, rfl, hlt, G3, z1, z2⟩, fun x H3 y => ?_⟩
    obtain ⟨G3, s3, S3, r3⟩ := K.yields i G2 H2 _ _ _ x H3 _ S2' e y
    obtain ⟨js, fΓ, tg, hj, hk, hdp, hv⟩ := hs D hh acc _ (List.mem_of_getElem? e)
    refine tg G3 H3 _ _ _ x S3 r3 _ fun σ' hl hout S4 => ?_
    have hw : L2.wipe σ' vs = L2.wipe σ vs := by
      have h1 : L2.wipe σ' vs = L2.wipe (L2.wipe σ vs) vs := wipe_eq hl fun i hi => hout i fun z => hi (hj i z)
      rw [h1]
      exact wipe_eq (wipe_length σ vs) fun i hi => wipe_at vs i hi
    refine ⟨hw, hk G3 H3 σ' S4 _ fun y G5 H5 s5 S5 r5 => hv G5 H5 σ' S5 _ fun z G6 H6 s6 S6 r6 => ?_⟩
    obtain ⟨a, rfl⟩ := dp_ref r5
    obtain ⟨xs, e1, e2, e3⟩ := md_at S6 (k := 0) rfl
    have r5' := dp_mono s6 _ _ r5
    refine ⟨a, _, acc, xs, rfl, dp_mono S6.g _ _ r5', hdp, e1, rows_mono S6.g e3, ?_, fun u ru => ⟨G6, ((s2.trans s3).trans s5).trans s6, ?_⟩⟩
    · have := ln i (by omega)
      rw [hacc] at this
      omega
    · have S7 := S6.mut (k := 0) (m' := .md (putN acc (.tup (kf ds[i])) (vf ds[i]))) (o := DN C.P C.w D (storedH xs (.tup (kf ds[i])) a u)) rfl rfl rfl ⟨_, upd_same, e2, rows_put e3 hdp r5' ru r6⟩
      have tk : (ds.take (i + 1)).foldl (fun m d => putN m (.tup (kf d)) (vf d)) [] = putN acc (.tup (kf ds[i])) (vf ds[i]) := by
        rw [List.take_succ, e, ← hacc]
        simp only [Option.toList_some, List.foldl_append, List.foldl_cons, List.foldl_nil]
      rw [tk]
      exact ⟨S7.g0, S7.g, S2.len, fun i sv z => let ⟨o, z1, z2⟩ := S2.sl i sv z; ⟨o, z1, svOk_mono ((s3.trans s5).trans s6) z2⟩, S7.mo, S7.nd⟩
  · have e : i = ds.length := by omega
    subst e
    rw [List.take_length] at S2
    refine .inl ⟨K.stops G2 H2 _ _ ((D, .md (ds.foldl (fun m d => putN m (.tup (kf d)) (vf d)) [])) :: Δ) S2, ?_⟩
    obtain ⟨n2, mk⟩ := S2.mo D _ List.mem_cons_self
    have S3 : ST C G2 H2 σ Γ Δ := (S1.back S2 s2 (List.sublist_cons_self _ _)).sub (List.sublist_append_left _ _)
    exact q D G2 H2 (s1.trans s2) (n2 rfl) (fun p o hm l => S1.apart hD p o (List.mem_append_left _ hm) l) S3 mk
end
end Kw

/-! text K7 -/
/-! My layer, part 7: calls. -/
namespace Kw
open PySem PySem.Spec PyProof.Rows L2

/-! ### a def's promise where no repr is under way -/
structure FnG (P : Program) (w : World) (K : PySem.W.Frag) (mg : Str → Option Value) (base : Heap) (k : Nat) (f : Addr) (fd : FuncData) (ps : List Str) (sp : Sp) : Prop where
  len : ∀ vs H Q E, sp vs H Q E → vs.length = ps.length
  go : ∀ (ar : Around) (up : List Env) (z : Shared) (H : Hp) (gs : Args) (us : List Value) (vs : List V) (Q : VK) (E : XK), ar.guards = some [] → Room k ar → Env0 P w K mg base ar up z H →
    BindsTo z fd gs (ps.zip us) → Vals vs us → sp vs H Q E → codeAny (model P w) ar (.call (.ref f) gs) (CR (L2.CX P w) up P w H z Q E) z
section
variable {P : Program} {w : World} {K : PySem.W.Frag} {mg : Str → Option Value} {base : Heap}
theorem FnG.mono {j k : Nat} {f : Addr} {fd : FuncData} {ps : List Str} {sp : Sp} (F : FnG P w K mg base j f fd ps sp) (h : j ≤ k) : FnG P w K mg base k f fd ps sp :=
  ⟨F.len, fun ar up z H gs us vs Q E g hr => F.go ar up z H gs us vs Q E g (hr.mono h)⟩
theorem fn_g {k : Nat} {f : Addr} {name qual : Str} {params : Arguments} {body : List Stmt} {sc : Scope} {dV kV doc pm cdv ct oc : Value} {an od : Option Addr} {osl : Array (Option Value)} {N ps : List Str} {sp : Sp}
    (lk : K.lookup f = some ⟨oc, od, .func (PySem.W.fnOf name qual params body sc dV kV doc pm an cdv ct), osl⟩) (cd : PySem.W.codeIn K cdv qual = true) (S : FnScope N ps sc) (len : ∀ vs H Q E, sp vs H Q E → vs.length = ps.length)
    (hb : ∀ (ar : Around) (up : List Env) (z : Shared) (H : Hp) (vs : List V) (Q : VK) (E : XK), ar.guards = some [] → Room k (ar.deeper (envOfC qual sc z.heap.objs.size f cdv)) → sp vs H Q E →
      ∃ t, PSs (cxOf (L2.CX P w) P w K mg base N qual sc f cdv ar up z H E) body t ∧ t { nx := fun _ H' => Q .non H', rt := Q } (L2.start N vs) H) :
    FnG P w K mg base (k + 1) f (PySem.W.fnOf name qual params body sc dV kV doc pm an cdv ct) ps sp := by
  refine ⟨len, fun ar up z H gs us vs Q E g hr e0 b rv hsp => ?_⟩
  have eachIn : K.In z.heap := e0.mod.kin.keeps fun q o h => (e0.bs q o h).1
  have kinds : ∀ y ∈ ps.zip us, sc.names.lookup y.1 = some .local ∨ (sc.names.lookup y.1 = some .cell ∧ ((cellsFrom (z.heap.objs.size + 1) sc.names []).lookup y.1).isSome = true) := by
    rintro ⟨n, v⟩ hy
    exact (S.par n (List.of_mem_zip hy).1).imp id fun q => ⟨q, PySem.W.cellsFrom_some _ _ _ (.inl q)⟩
  refine codeAny_call_function hr.depth (eachIn _ _ lk) rfl S.co S.gen rfl (PySem.W.codeRec_of eachIn cd) (b _ _ _ _ ?_)
  refine wpAny_newFunctionEnv_cells S.kind kinds fun en he z1 ic => ?_
  subst he
  refine ⟨(e0.mod.nolimit.keeps fun q o h => (e0.bs q o h).1).keeps ic.toInCall.keep, codeAny_func ?_⟩
  obtain ⟨t, ht, hq⟩ := hb ar up z H vs Q E g (hr.deeper _) hsp
  refine wpAny_mono (ht.run [] z1 (L2.start N vs) H _ (inv_start S hr.hd e0 (len _ _ _ _ hsp) rv ic) hq) (fun fl z2 hs => ?_) fun _ _ hs => hs
  match fl, hs with
  | .ret u, ⟨v, _, H', J, r, q⟩ => exact ⟨v, H', J.os, J.bare, J.base, J.hok, r, q⟩
  | .next, ⟨_, H', J, q⟩ => exact ⟨V.non, H', J.os, J.bare, J.base, J.hok, rfl, q⟩
  | .brk, ⟨_, _, _, q⟩ => exact q.elim
  | .cont, ⟨_, _, _, q⟩ => exact q.elim
theorem fun_g {x qual : Str} {st : Stmt} {f : Addr} {fd : FuncData} {N ps : List Str} {k : Nat} {sp : Sp} (F : Fun K x qual st f fd) (S : FnScope N ps (defScope st)) (len : ∀ vs H Q E, sp vs H Q E → vs.length = ps.length)
    (hb : ∀ (cdv : Value) (ar : Around) (up : List Env) (z : Shared) (H : Hp) (vs : List V) (Q : VK) (E : XK), ar.guards = some [] → Room k (ar.deeper (envOfC qual (defScope st) z.heap.objs.size f cdv)) → sp vs H Q E →
      ∃ t, PSs (cxOf (L2.CX P w) P w K mg base N qual (defScope st) f cdv ar up z H E) (defBody st) t ∧ t { nx := fun _ H' => Q .non H', rt := Q } (L2.start N vs) H) : FnG P w K mg base (k + 1) f fd ps sp := by
  obtain ⟨_, _, _, _, _, _, cdv, _, _, rfl, lk, cd⟩ := F.ex
  exact fn_g lk cd S len fun ar up z H vs Q E g hr hsp => hb cdv ar up z H vs Q E g hr hsp
/-- what is known of a def of the module -/
structure Cl (P : Program) (w : World) (K : PySem.W.Frag) (mg : Str → Option Value) (base : Heap) (k : Nat) (x : Str) (sp : Sp) : Prop where
  ex : ∃ (f : Addr) (fd : FuncData) (ps : List Str), FnG P w K mg base k f fd ps sp ∧ mg x = some (.ref f) ∧ PySem.W.keepIn K (.ref f) = true ∧ Binds K fd ps []
theorem Cl.mono {j k : Nat} {x : Str} {sp : Sp} (c : Cl P w K mg base j x sp) (h : j ≤ k) : Cl P w K mg base k x sp := by
  obtain ⟨f, fd, ps, F, r⟩ := c.ex
  exact ⟨f, fd, ps, F.mono h, r⟩
end
section
variable {X : Cx} {k : Nat} {x : Str} {sp : Sp} {W : WX} {p pos : Pos} {e : Expr} {es : List Expr} {t : TA}
theorem run_g {f : Addr} {fd : FuncData} {ps : List Str} {pins : List (Addr × Obj)} {σ : L2.St} {H : Hp} {s : Shared} {Q : VK} {us : List Value} {vs : List V} (F : FnG X.prog X.w X.K X.mg X.base k f fd ps sp) (hr : Room k X.A) (hg : X.A.guards = some []) (hb : Binds X.K fd ps []) (tk : Takes X W)
    (I : Inv X pins σ H s) (r : Vals vs us) (h : sp vs H Q (WE W σ)) : wpAny (model X.prog X.w) X.A (call (.ref f) us) (EP X pins σ Q) X.xe s := by
  have hl : us.length = ps.length := r.length.symm.trans (F.len _ _ _ _ h)
  have b := hb s us I.kIn (by simpa using hl)
  rw [List.append_nil] at b
  refine wpAny_call (codeAny_mono (F.go X.A X.stack s H ⟨us, []⟩ us vs Q _ hg hr I.env0 b r h) fun y s' hq => ?_)
  match y, hq with
  | .error er, hq => exact passAt tk σ pins H s er s' I hq
  | .ok (.ret u), hq => exact I.after hq
  | .ok .next, hq => exact False.elim hq
  | .ok .brk, hq => exact False.elim hq
  | .ok .cont, hq => exact False.elim hq
theorem pe_cl (c : Cl X.prog X.w X.K X.mg X.base k x sp) (hr : Room k X.A) (hgd : X.A.guards = some []) (hg : Gl X x) (tk : Takes X W) (ha : PA X (e :: es) t)
    (hdb : (x == ("__debug__" : Str)) = false := by decide) (he : starEach (e :: es) X.env = (false, eval e X.env) :: starEach es X.env := by rfl) (hpl : (backTo pos (starEach es X.env)).any (·.1) = false := by rfl) :
    PE X (.Call (.Name x p) (e :: es) [] pos) (tCallS sp (WE W) t) := by
  obtain ⟨f, fd, ps, F, hm, hk, hb⟩ := c.ex
  refine ⟨fun pins s σ H Q I h => wpAny_Call_Name_kw (ld_glob I hg hm ?_ hdb)⟩
  refine PySem.W.callWith_K (h₀ := X.base) I.ok.mod.kin hk (thn (ha.run pos pins s σ H _ I h) fun us s1 ⟨vs, H1, I1, r, q⟩ => ⟨I1.kIn, ?_⟩) he hpl
  exact run_g F hr hgd hb tk I1 r q
/-- where nothing is let out -/
theorem takesF {X : Cx} : Takes X (fun _ _ _ _ => False) := fun _ _ ⟨_, _, _, _, _, _, _, _, _, _, _, _, _, _, _, _, z⟩ => z.elim
end

/-! ### what a call answers -/
inductive Rs where
  | dat (d : PyData)
  | lst (ds : List PyData)
  | exc (c : Addr) (m : Option Str)
  | opq (b : Bool)
  | tupK (d : PyData) (kvs : List (NestedKey × PyData))
mutual
def lfree : PyData → Bool
  | .list _ => false
  | .dict _ => false
  | .tuple ds => lfreeAll ds
  | _ => true
def lfreeAll : List PyData → Bool
  | [] => true
  | d :: ds => lfree d && lfreeAll ds
end
def excAt (H : Hp) (d : Option Addr) : Option Str → Prop
  | none => True
  | some m => ∃ dd, d = some dd ∧ H dd = some (.xd [("part", .str m)])
def RsOk (P : Program) (w : World) (K : PySem.W.Frag) (H : Hp) (Q : VK) (E : XK) : Rs → Prop
  | .dat d => ∀ v H', Same H H' → Dp K H' v d → Q v H'
  | .lst ds => ∀ p vs H', Same H H' → H p = none → H' p = some (.lst vs) → DpAll K H' vs ds → Q (.ref p) H'
  | .exc c m => ∀ d H', Same H H' → excAt H' d m → E (.ref c) d H'
  | .opq b => ∀ v H', Same H H' → decide (v = .non) = b → Q v H'
  | .tupK d kvs => ∀ p v q xs H', Same H H' → H p = none → H q = none → H' p = some (.tup [v, .ref q]) → Dp K H' v d → H' q = some (DN P w q xs) → (q == sysModules) = false → Paired (NRow K H') kvs xs → Q (.ref p) H'
def ASp {α : Type} (P : Program) (w : World) (K : PySem.W.Frag) (dom : α → List PyData) (ok : α → Prop) (out : α → Rs → Prop) : Sp := fun vs H Q E => ∃ a, DpAll K H vs (dom a) ∧ ok a ∧ ∀ r, out a r → RsOk P w K H Q E r

mutual
theorem dp_out {K : PySem.W.Frag} {G H : Hp} (s : ∀ b o, H b = some o → (∃ xs, o = .tup xs) ∨ (∃ q u, o = .frz q u) → G b = some o) : ∀ (d : PyData) (v : V), lfree d = true → Dp K H v d → Dp K G v d
  | .none, _, _, h => by cases h; exact .non
  | .bool b, _, _, h => by cases h; exact .bl b
  | .int i, _, _, h => by cases h; exact .int i
  | .str x, _, _, h => by cases h; exact .str x
  | .list ds, _, e, h => by simp [lfree] at e
  | .dict ds, _, e, h => by simp [lfree] at e
  | .tuple ds, _, e, h => by
    cases h with
    | tup a b =>
      refine .tup ?_ (dpAll_out s ds _ (by simpa [lfree] using e) b)
      rcases a with (a | ⟨o, a⟩) | a
      · exact .inl (.inl (s _ _ a (.inl ⟨_, rfl⟩)))
      · exact .inl (.inr ⟨o, s _ _ a (.inr ⟨_, _, rfl⟩)⟩)
      · exact .inr a
theorem dpAll_out {K : PySem.W.Frag} {G H : Hp} (s : ∀ b o, H b = some o → (∃ xs, o = .tup xs) ∨ (∃ q u, o = .frz q u) → G b = some o) : ∀ (ds : List PyData) (vs : List V), lfreeAll ds = true → DpAll K H vs ds → DpAll K G vs ds
  | [], _, _, h => by cases h; exact .nil
  | d :: ds, _, e, h => by
    simp only [lfreeAll, Bool.and_eq_true] at e
    cases h with
    | cons a b => exact .cons (dp_out s d _ e.1 a) (dpAll_out s ds _ e.2 b)
end
/-- what is not the caller's own -/
def isMine (Δ : Dl) (p : Addr) : Bool := Δ.any fun x => isLoc x.2 && x.1 == p
def less (H : Hp) (Δ : Dl) : Hp := fun p => if isMine Δ p = true then none else H p
theorem isMine_iff {Δ : Dl} {p : Addr} : isMine Δ p = true ↔ ∃ m, (p, m) ∈ Δ ∧ isLoc m = true := by
  unfold isMine
  rw [List.any_eq_true]
  constructor
  · rintro ⟨⟨q, m⟩, h, e⟩
    simp only [Bool.and_eq_true, beq_iff_eq] at e
    obtain ⟨e1, rfl⟩ := e
    exact ⟨m, h, e1⟩
  · rintro ⟨m, h, e⟩
    exact ⟨_, h, by simp [e]⟩
section
variable {C : Ct} {G G' H H' : Hp} {σ : L2.St} {Γ : List SV} {Δ : Dl}
variable {ta tb tc te tx : TE} {da db d : PyData} {ds es : List PyData} {t u : TT} {b c : Bool}
theorem ST.less (S : ST C G H σ Γ Δ) (s : Same H H') : Same G (Kw.less H' Δ) ∧ ST C (Kw.less H' Δ) H' σ Γ Δ := by
  have a : Same G (Kw.less H' Δ) := fun b o e => by
    unfold Kw.less
    rw [if_neg]
    · exact s b o (S.g b o e)
    · intro z
      obtain ⟨m, hm, l⟩ := isMine_iff.mp z
      rw [(S.mo b m hm).1 l] at e
      cases e
  refine ⟨a, S.grow a (fun b o e => ?_) s fun p m e l => ?_⟩
  · unfold Kw.less at e
    split at e
    · cases e
    · exact e
  · unfold Kw.less
    rw [if_pos (isMine_iff.mpr ⟨m, e, l⟩)]
theorem ST.out (S : ST C G H σ Γ Δ) (s : Same H H') : ∀ b o, H' b = some o → (∃ xs, o = .tup xs) ∨ (∃ q u, o = .frz q u) → Kw.less H' Δ b = some o := fun b o e k => by
  unfold Kw.less
  rw [if_neg]
  · exact e
  · intro z
    obtain ⟨m, hm, l⟩ := isMine_iff.mp z
    obtain ⟨o', e', n1, n2⟩ := mOk_there l (S.mo b m hm).2
    have := s b o' e'
    rw [e] at this
    cases this
    rcases k with ⟨xs, k⟩ | ⟨q, u, k⟩
    · exact n1 xs k
    · exact n2 q u k
theorem nrow_out {K : PySem.W.Frag} {G H : Hp} (s : ∀ b o, H b = some o → (∃ xs, o = .tup xs) ∨ (∃ q u, o = .frz q u) → G b = some o) {r : NestedKey × PyData} {x : NestedKey × Addr × Value} (l1 : lfree r.1.data = true) (l2 : lfree r.2 = true) (h : NRow K H r x) : NRow K G r x := by
  obtain ⟨a, b, c, v, e, q⟩ := h
  exact ⟨a, b, dp_out s _ _ l1 c, v, e, dp_out s _ _ l2 q⟩
theorem rows_out {K : PySem.W.Frag} {G H : Hp} (s : ∀ b o, H b = some o → (∃ xs, o = .tup xs) ∨ (∃ q u, o = .frz q u) → G b = some o) : ∀ {kvs : List (NestedKey × PyData)} {xs : List (NestedKey × Addr × Value)}, (∀ r ∈ kvs, lfree r.1.data = true ∧ lfree r.2 = true) → Paired (NRow K H) kvs xs → Paired (NRow K G) kvs xs
  | _, _, _, .nil => .nil
  | _, _, l, .cons h t => .cons (nrow_out s (l _ List.mem_cons_self).1 (l _ List.mem_cons_self).2 h) (rows_out s (fun r hr => l r (List.mem_cons_of_mem _ hr)) t)
/-- what an answer is worth to a caller -/
def RsC (C : Ct) (Γ : List SV) (Δ : Dl) (W : WX) (G : Hp) (σ : L2.St) (Q : VK) : Rs → Prop
  | .dat d => lfree d = true ∧ ∀ v G' H', Same G G' → ST C G' H' σ Γ Δ → Dp C.K G' v d → Q v H'
  | .lst ds => lfreeAll ds = true ∧ ∀ p vs G' H', Same G G' → G' p = none → (∀ q m, (q, m) ∈ Δ → isLoc m = true → q ≠ p) → ST C G' H' σ Γ Δ → H' p = some (.lst vs) → DpAll C.K G' vs ds → Q (.ref p) H'
  | .exc c m => ∀ d G' H', Same G G' → ST C G' H' σ Γ Δ → excAt H' d m → W (.ref c) d σ H'
  | .opq b => ∀ v G' H', Same G G' → ST C G' H' σ Γ Δ → decide (v = .non) = b → Q v H'
  | .tupK d kvs => lfree d = true ∧ (∀ r ∈ kvs, lfree r.1.data = true ∧ lfree r.2 = true) ∧ ∀ p v q G' H', Same G G' → G' q = none → (∀ a m, (a, m) ∈ Δ → isLoc m = true → a ≠ q) → ST C G' H' σ Γ Δ → G' p = some (.tup [v, .ref q]) → Dp C.K G' v d → MOk C G' H' q (.md kvs) → Q (.ref p) H'
/-- a call that may end in several ways: rs -/
def CL (C : Ct) (Γ : List SV) (Δ : Dl) (te : TE) (W : WX) (rs : Rs → Prop) : Prop :=
  ∀ G H σ, ST C G H σ Γ Δ → ∀ Q : VK, (∀ r, rs r → RsC C Γ Δ W G σ Q r) → te σ H Q
theorem ST.less1 (S : ST C G H σ Γ Δ) (s : Same H H') {p : Addr} (hp : H p = none) : Same G (fun b => if b = p then none else Kw.less H' Δ b) ∧ ST C (fun b => if b = p then none else Kw.less H' Δ b) H' σ Γ Δ := by
  obtain ⟨a, S2⟩ := S.less s
  have a' : Same G (fun b => if b = p then none else Kw.less H' Δ b) := fun b o z => by
    have : b ≠ p := ne_of_none (S.g b o z) hp
    exact (if_neg this).trans (a b o z)
  refine ⟨a', S.grow a' (fun b o z => ?_) s fun q m z l => ?_⟩
  · by_cases hb : b = p
    · rw [show (if b = p then none else Kw.less H' Δ b) = none from if_pos hb] at z; cases z
    · exact S2.g b o ((if_neg hb).symm.trans z)
  · by_cases hb : q = p
    · exact if_pos hb
    · exact (if_neg hb).trans ((S2.mo q m z).1 l)
theorem ST.out1 (S : ST C G H σ Γ Δ) (s : Same H H') {p : Addr} {u : HO} (e : H' p = some u) (n1 : ∀ xs, u ≠ .tup xs) (n2 : ∀ q v, u ≠ .frz q v) : ∀ b o, H' b = some o → (∃ xs, o = .tup xs) ∨ (∃ q v, o = .frz q v) → (if b = p then none else Kw.less H' Δ b) = some o := fun b o z k => by
  have : b ≠ p := fun w => by
    rw [w, e] at z
    cases z
    rcases k with ⟨xs, k⟩ | ⟨y, v, k⟩
    · exact n1 xs k
    · exact n2 y v k
  exact (if_neg this).trans (S.out s b o z k)
theorem cl_call {α : Type} {dom : α → List PyData} {ok : α → Prop} {out : α → Rs → Prop} {W : WX} {ta : TA} (a : α) (ha : EVA C Γ Δ ta (dom a)) (hp : ok a) : CL C Γ Δ (tCallS (ASp C.P C.w C.K dom ok out) (WE W) ta) W (out a) := fun G H σ S Q qq =>
  ha G H σ S _ fun vs G1 H1 s1 S1 r1 => ⟨a, dpAll_mono S1.g _ _ r1, hp, fun r hr => by
    have q0 := qq r hr
    cases r with
    | dat d =>
      obtain ⟨l, q⟩ := q0
      intro v H2 s2 r2
      obtain ⟨a, S2⟩ := S1.less s2
      exact q v _ H2 (s1.trans a) S2 (dp_out (S1.out s2) d v l r2)
    | lst es =>
      obtain ⟨l, q⟩ := q0
      intro p ws H2 s2 hp e r2
      obtain ⟨a', S3⟩ := S1.less1 s2 hp
      exact q p ws _ H2 (s1.trans a') (if_pos rfl) (S1.apart hp) S3 e (dpAll_out (S1.out1 s2 e (fun _ z => by cases z) fun _ _ z => by cases z) es ws l r2)
    | exc c m =>
      intro d H2 s2 x
      obtain ⟨a, S2⟩ := S1.less s2
      exact q0 d _ H2 (s1.trans a) S2 x
    | opq b =>
      intro v H2 s2 x
      obtain ⟨a, S2⟩ := S1.less s2
      exact q0 v _ H2 (s1.trans a) S2 x
    | tupK d kvs =>
      obtain ⟨l1, l2, q⟩ := q0
      intro p v y xs H2 s2 hp hy ep dv ey ys rows
      obtain ⟨a', S3⟩ := S1.less1 s2 hy
      have n1 : ∀ zs, DN C.P C.w y xs ≠ .tup zs := fun zs z => by
        have z' : HO.ext _ = HO.tup zs := z
        cases z'
      have n2 : ∀ q u, DN C.P C.w y xs ≠ .frz q u := fun q u z => by
        have z' : HO.ext _ = HO.frz q u := z
        cases z'
      have o1 := S1.out1 s2 ey n1 n2
      exact q p v y _ H2 (s1.trans a') (if_pos rfl) (S1.apart hy) S3 (o1 p _ ep (.inl ⟨_, rfl⟩)) (dp_out o1 d v l1 dv) ⟨xs, ey, ys, rows_out o1 l2 rows⟩⟩
theorem ev_cl {W : WX} {rs : Rs → Prop} (h : CL C Γ Δ te W rs) (hr : ∀ r, rs r → r = .dat d) (l : lfree d = true) : EV C Γ Δ te d := fun G H σ S Q q =>
  h G H σ S Q fun r z => by cases hr _ z; exact ⟨l, q⟩
theorem evl_cl {W : WX} {rs : Rs → Prop} (h : CL C Γ Δ te W rs) (hr : ∀ r, rs r → r = .lst ds) (l : lfreeAll ds = true) : EVL C Γ Δ te ds := fun G H σ S Q q =>
  h G H σ S Q fun r z => by cases hr _ z; exact ⟨l, q⟩
/-- what follows where an answer is given to a statement -/
def NxC (C : Ct) (Γ : List SV) (Δ : Dl) (W : WX) (f : V → L2.St → Hp → Prop) : Rs → Prop
  | .dat d => lfree d = true ∧ ∀ G H σ v, ST C G H σ Γ Δ → Dp C.K G v d → f v σ H
  | .lst ds => lfreeAll ds = true ∧ ∀ G H σ p, ST C G H σ Γ ((p, .ml ds) :: Δ) → f (.ref p) σ H
  | .exc c m => Nx C Γ Δ fun σ H => ∀ d, excAt H d m → W (.ref c) d σ H
  | .opq b => ∀ G H σ v, ST C G H σ Γ Δ → decide (v = .non) = b → f v σ H
  | .tupK d kvs => lfree d = true ∧ (∀ r ∈ kvs, lfree r.1.data = true ∧ lfree r.2 = true) ∧ ∀ G H σ p v q, ST C G H σ Γ ((q, .md kvs) :: Δ) → G p = some (.tup [v, .ref q]) → Dp C.K G v d → f (.ref p) σ H
theorem cl_nx {W : WX} {rs : Rs → Prop} {f : V → L2.St → Hp → Prop} (h : CL C Γ Δ te W rs) (k : ∀ r, rs r → NxC C Γ Δ W f r) : Nx C Γ Δ fun σ H => te σ H fun v H' => f v σ H' := fun G H σ S =>
  h G H σ S _ fun r z => by
    have k' := k r z
    cases r with
    | dat d => exact ⟨k'.1, fun v G' H' s S' r => k'.2 G' H' σ v S' r⟩
    | lst ds => exact ⟨k'.1, fun p vs G' H' s n a S' e r => k'.2 G' H' σ p (S'.loc n a ⟨vs, e, r⟩)⟩
    | exc c m => exact fun d G' H' s S' x => k' G' H' σ S' d x
    | opq b => exact fun v G' H' s S' x => k' G' H' σ v S' x
    | tupK d kvs => exact ⟨k'.1, k'.2.1, fun p v q G' H' s n a S' e r m => k'.2.2 G' H' σ p v q (S'.loc n a m) e r⟩
/-- f(..) as a statement -/
theorem nx_dropC {D : Ends} {W : WX} {rs : Rs → Prop} (h : CL C Γ Δ te W rs) (k : ∀ r, rs r → NxC C Γ Δ W (fun _ => D.nx) r) : Nx C Γ Δ (tDrop te D) := cl_nx h k
/-- x = f(..) -/
theorem nx_asgC {D : Ends} {W : WX} {rs : Rs → Prop} {i : Nat} (h : CL C Γ Δ te W rs) (k : ∀ r, rs r → NxC C Γ Δ W (fun v σ H => D.nx (σ.set i (some v)) H) r) : Nx C Γ Δ (tAsg te (gName i) D) := cl_nx h k
theorem nxc_dat {W : WX} {D : Ends} {i : Nat} (l : lfree d = true) (k : Nx C (Γ.set i (.dat d)) Δ D.nx) : NxC C Γ Δ W (fun v σ H => D.nx (σ.set i (some v)) H) (.dat d) := ⟨l, fun G H σ v S r => k G H _ (S.set r)⟩
theorem nxc_drop {W : WX} {D : Ends} (l : lfree d = true) (k : Nx C Γ Δ D.nx) : NxC C Γ Δ W (fun _ => D.nx) (.dat d) := ⟨l, fun G H σ v S r => k G H σ S⟩

/-! ### the body of a def -/
theorem rt_of {K : PySem.W.Frag} {P : Program} {w : World} {Q : VK} {E : XK} {D : Ends} (hD : D.rt = Q) (h : RsOk P w K H Q E (.dat d)) : Rt ⟨K, P, w, H⟩ D d := fun v G H' a b r => by
  rw [hD]
  exact h v H' (a.trans b) (dp_mono b _ _ r)
theorem rtL_of {K : PySem.W.Frag} {P : Program} {w : World} {Q : VK} {E : XK} {D : Ends} (hD : D.rt = Q) (h : RsOk P w K H Q E (.lst ds)) : RtL ⟨K, P, w, H⟩ D ds := fun p vs G H' a b n e r => by
  rw [hD]
  exact h p vs H' (a.trans b) (a.free n) e (dpAll_mono b _ _ r)
theorem nx_out {K : PySem.W.Frag} {P : Program} {w : World} {Q : VK} {E : XK} (h : RsOk P w K H Q E (.dat .none)) : Nx ⟨K, P, w, H⟩ Γ Δ (fun _ H' => Q .non H') := fun G H' σ S => h _ H' (S.g0.trans S.g) .non
theorem nx_exc {K : PySem.W.Frag} {P : Program} {w : World} {Q : VK} {E : XK} {c : Addr} {m : Option Str} (h : RsOk P w K H Q E (.exc c m)) : Nx ⟨K, P, w, H⟩ Γ Δ fun σ H => ∀ d, excAt H d m → E (.ref c) d H := fun G H' σ S d x => h d H' (S.g0.trans S.g) x
def Γ0 (N : List Str) (ds : List PyData) : List SV := ds.map .dat ++ List.replicate (N.length - ds.length) .any
theorem st_start {K : PySem.W.Frag} {P : Program} {w : World} {N : List Str} {vs : List V} (r : DpAll K H vs ds) : ST ⟨K, P, w, H⟩ H H (L2.start N vs) (Γ0 N ds) [] where
  g0 := Same.refl _
  g := Same.refl _
  len := by unfold L2.start Γ0; simp [dpAll_len r]
  sl := fun i sv e => by
    have hl := dpAll_len r
    unfold Γ0 at e
    unfold L2.start
    by_cases hi : i < ds.length
    · rw [List.getElem?_append_left (by simpa using hi), List.getElem?_map] at e
      rw [List.getElem?_append_left (by simpa [hl] using hi), List.getElem?_map]
      obtain ⟨v, e1, e2⟩ := dpAll_get r (List.getElem?_eq_getElem hi)
      rw [List.getElem?_eq_getElem hi] at e
      cases e
      exact ⟨some v, by rw [e1]; rfl, v, rfl, e2⟩
    · rw [List.getElem?_append_right (by simpa using hi)] at e
      rw [List.getElem?_append_right (by simpa [hl] using hi)]
      rw [List.getElem?_replicate] at e ⊢
      simp only [List.length_map] at e ⊢
      rw [hl]
      split at e
      · rename_i h1
        cases e
        rw [if_pos h1]
        exact ⟨none, rfl, trivial⟩
      · cases e
  mo := fun p m e => by simp at e
  nd := List.Pairwise.nil
theorem body_g {α : Type} {P : Program} {w : World} {K : PySem.W.Frag} {mg : Str → Option Value} {base : Heap} {x qual : Str} {st : Stmt} {f : Addr} {fd : FuncData} {N ps : List Str} {k : Nat} {dom : α → List PyData} {ok : α → Prop} {out : α → Rs → Prop}
    (F : Fun K x qual st f fd) (S : FnScope N ps (defScope st)) (len : ∀ a, (dom a).length = ps.length)
    (hb : ∀ (cdv : Value) (ar : Around) (up : List Env) (z : Shared) (H : Hp) (Q : VK) (E : XK), ar.guards = some [] → Room k (ar.deeper (envOfC qual (defScope st) z.heap.objs.size f cdv)) →
      ∃ t, PSs (cxOf (L2.CX P w) P w K mg base N qual (defScope st) f cdv ar up z H E) (defBody st) t ∧
        ∀ a, ok a → (∀ r, out a r → RsOk P w K H Q E r) → Nx ⟨K, P, w, H⟩ (Γ0 N (dom a)) [] (t { nx := fun _ H' => Q .non H', rt := Q })) : FnG P w K mg base (k + 1) f fd ps (ASp P w K dom ok out) := by
  refine fun_g F S (fun vs H Q E ⟨a, r, hp, _⟩ => (dpAll_len r).trans (len a)) fun cdv ar up z H vs Q E g hr ⟨a, r, hp, hq⟩ => ?_
  obtain ⟨t, h1, h2⟩ := hb cdv ar up z H Q E g hr
  exact ⟨t, h1, h2 a hp hq H H _ (st_start r)⟩
end
end Kw

/-! text K8 -/
/-! My layer, part 8: exceptions: super().__init__('..') of a class over ValueError, the raise, the clauses. -/
namespace Kw
open PySem PySem.Spec PyProof.Rows L2 PySem.Calls

/-- what the written part says of a class whose __init__ says super().__init__('..') -/
structure IniC (P : Program) (K : PySem.W.Frag) (mg : Str → Option Value) (C : Addr) (st : Stmt) (qual : Str) : Prop where
  oex : OexC K C
  opq : PySem.W.nsIn K cStatics "thirdparty.any" = some none
  sup : mg "super" = none
  top : (P.main.scope.names.lookup ("super" : Str)).isSome = false
  sub : PySem.W.mroIn K C (.ref C) = some true
  subE : PySem.W.subIn K (.ref C) (.type "ValueError") = some true
  up : PySem.W.ks_superIn K C C "__init__" = some (some (.builtin "ValueError.__init__"))
  ex : ∃ (f cc cda : Addr) (oc ccl cl kV doc pm ct : Value) (od cdd cld an : Option Addr) (osl ccs csl : Array (Option Value)) (vs : Array Value) (file : Str) (tf : Tok),
    PySem.W.findIn K (.ref C) "__init__" = some (some (.ref f)) ∧ PySem.W.typeIn K (.ref f) = some (.type "function") ∧
    K.lookup f = some ⟨oc, od, .func (PySem.W.ksFn "__init__" qual (defArgs st) (defBody st) (defScope st) .none kV doc pm an (.ref cda) ct cc), osl⟩ ∧ PySem.W.codeIn K (.ref cda) qual = true ∧
    K.lookup cda = some ⟨ccl, cdd, .fields vs, ccs⟩ ∧ vs[2]? = some (.str file tf) ∧ ((P.main.file : Str) == file) = true ∧ K.lookup cc = some ⟨cl, cld, .cell (some (.ref C)), csl⟩

section
variable {prog : Program} {w : World} {A : Around} {E : Value → Shared → Prop} {h : Heap} {g : Array GenState} {d : Drawn} {t : Nat} {os : OsState} {K : PySem.W.Frag}
/-- the built-in __init__, bound: the args are laid anew -/
theorem bound_init {nm q : Str} {C N u x t0 : Addr} {bs bm : List Value} {hdct : Bool} {sn : List Str} {sub : List Value} {ab : Bool} {col : Option Bool} {dd : Option Addr} {k0 k1 k2 k3 k5 : Option Value} {rest : List Value} {Q : Value → Shared → Prop}
    (hC : h.get? C = some (excClassObj nm q C N bs bm hdct sn sub ab col dd k0 k1 k2 k3 k5 "ValueError.__new__")) (hu : h.get? u = some (PySem.W.kxs_mw "ValueError.__init__" x)) (hx : h.get? x = some (HandSPX.excO C t0)) (hz : rest.length ≤ sizeLine)
    (hq : ∀ h' t1, (∀ b o, b ≠ x → h.get? b = some o → h'.get? b = some o) → h'.get? x = some (HandSPX.excO C t1) → Q .none ⟨h', g, d, t, os⟩) : wpAny (model prog w) A (call (.ref u) rest) Q E ⟨h, g, d, t, os⟩ := by
  refine wpAny_call (codeAny_of_tree ?_)
  show wpAny _ A.in1 (callAny (.ref u) ⟨rest, []⟩) _ _ _
  simp only [callAny]
  refine wpAny_bind (wpAny_load hu ?_)
  simp only [PySem.W.kxs_mw, show (Value.type "method-wrapper" == Value.type "method" || Value.type "method-wrapper" == Value.type "builtin_function_or_method" || Value.type "method-wrapper" == Value.type "method-wrapper") = true by decide, if_true]
  refine PySem.W.KFB.if_so (by decide) (wpAny_bind (PySem.W.check_bound_init F.excBase_ValueError.toExcCallFacts hC hx rfl (wpAny_bind (wpAny_pure (wpAny_pure ?_)))))
  refine ⟨plainId_quiet F.excBase_ValueError.init.plain _, codeAny_builtin F.excBase_ValueError.initEntry ?_⟩
  wp_walk
  refine hq _ h.objs.size (fun b o hb ho => (Heap.get?_update_other _ _ (Ne.symm hb)).trans (Heap.get?_push_of_some _ ho)) ?_
  rw [Heap.get?_update_self _ (Heap.get?_push_of_some _ hx) rfl]
  rfl
/-- super().__init__('..') -/
theorem ini_sup {mg mb : Str → Option Value} {body : List Stmt} {qual : Str} {e : Expr} {sc : Scope} {p0 p1 p2 pos pos' : Pos} {L x C f cc cda N : Addr} {fd : FuncData} {ar : Arg} {vs : Array Value} {file nm q : Str} {tf : Tok} {m : Str → Option Value} {oc ccl cl : Value} {od cdd cld dd : Option Addr}
    {osl ccs csl : Array (Option Value)} {bs bm : List Value} {hdct : Bool} {sn : List Str} {sub : List Value} {ab : Bool} {col : Option Bool} {k0 k1 k2 k3 k5 : Option Value} {t0 : Addr} {Q : Flow → Shared → Prop}
    (X : K.In h) (hmg : h.Ns mainGlobals mg) (hmb : h.Ns builtinsNs mb) (hbb : ∀ x : Str, x ≠ "__name__" → mb x = bootBuiltins x) (hns : h.Ns L m)
    (hf : K.lookup f = some ⟨oc, od, .func fd, osl⟩) (hp : (fd.params.posonlyargs ++ fd.params.args).head? = some ar) (hv : m ar.arg = some (.ref x)) (hx : h.get? x = some (HandSPX.excO C t0))
    (hcode : K.lookup cda = some ⟨ccl, cdd, .fields vs, ccs⟩) (hvs : vs[2]? = some (.str file tf)) (hfile : ((prog.main.file : Str) == file) = true) (hcell : K.lookup cc = some ⟨cl, cld, .cell (some (.ref C)), csl⟩)
    (hC : K.lookup C = some (excClassObj nm q C N bs bm hdct sn sub ab col dd k0 k1 k2 k3 k5 "ValueError.__new__")) (hsub : PySem.W.mroIn K C (.ref C) = some true) (hsE : PySem.W.subIn K (.ref C) (.type "ValueError") = some true)
    (hopq : PySem.W.nsIn K cStatics "thirdparty.any" = some none) (hup : PySem.W.ks_superIn K C C "__init__" = some (some (.builtin "ValueError.__init__"))) (hsuper : mg "super" = none) (htop : (prog.main.scope.names.lookup ("super" : Str)).isSome = false)
    (hks : sc.names.lookup ("super" : Str) = some .globalImplicit) (hkc : sc.names.lookup ("__class__" : Str) = some .free) (hka : sc.names.lookup ar.arg = some .local) (hk : sc.kind = .function)
    {pl : Sem Bool} (hi : interactive (PySem.W.ksEnv qual sc L f (.ref cda) cc) = false)
    (hsw : swapsWith (.Call (.Attribute (.Call (.Name "super" p0) [] [] p1) "__init__" p2) [e] [] pos) none pos'.line (PySem.W.ksEnv qual sc L f (.ref cda) cc) = pure false)
    (hcall : eval (.Call (.Attribute (.Call (.Name "super" p0) [] [] p1) "__init__" p2) [e] [] pos) (PySem.W.ksEnv qual sc L f (.ref cda) cc) = (do
      let ov ← attributeBase (.Call (.Name "super" p0) [] [] p1) "__init__" (PySem.W.ksEnv qual sc L f (.ref cda) cc) (eval (.Call (.Name "super" p0) [] [] p1) (PySem.W.ksEnv qual sc L f (.ref cda) cc))
      standAt p2.atName
      let (fn, first) ← holding [ov] (getMethod ov "__init__" pl)
      callWith pos fn first (backTo pos (starEach [e] (PySem.W.ksEnv qual sc L f (.ref cda) cc))) []))
    (hst : starEach [e] (PySem.W.ksEnv qual sc L f (.ref cda) cc) = [(false, eval e (PySem.W.ksEnv qual sc L f (.ref cda) cc))])
    (hev : ∀ (h1 : Heap) (t1 : Nat) (Q : Value → Shared → Prop), (∀ b o, h.get? b = some o → h1.get? b = some o) → (∀ v tk, Q v ⟨h1, g, d, tk, os⟩) → wpAny (model prog w) A (eval e (PySem.W.ksEnv qual sc L f (.ref cda) cc)) Q E ⟨h1, g, d, t1, os⟩)
    (hq : ∀ h' t1 tk, (∀ b o, b ≠ x → h.get? b = some o → h'.get? b = some o) → h'.get? x = some (HandSPX.excO C t1) → Q .next ⟨h', g, d, tk, os⟩) :
    _root_.PySem.wpAt (model prog w) A (.func body (PySem.W.ksEnv qual sc L f (.ref cda) cc)) (exec (.Expr (.Call (.Attribute (.Call (.Name "super" p0) [] [] p1) "__init__" p2) [e] [] pos) pos') (PySem.W.ksEnv qual sc L f (.ref cda) cc)) Q E ⟨h, g, d, t, os⟩ := by
  have hcls : PySem.W.clsIn K C = some { name := nm, bases := bs, mro := .ref C :: bm, ns := N, qualname := q, hasDict := hdct, slotNames := sn, subclasses := sub, abstract := ab, collection := col, hasDel := false } := by unfold PySem.W.clsIn; rw [hC] <;> rfl
  have I : PySem.W.InstAt h x (HandSPX.excO C t0) C none := ⟨hx, rfl, rfl, trivial⟩
  have hI : PySem.W.Looks (model prog w) h (isInstance (.ref x) (.type "ValueError")) true := I.type.andThen (PySem.W.looks_subIn X hsE)
  have hxC : x ≠ C := PySem.W.ks_ne X I hcls
  refine ks_wpAt_Expr_any (ks_wpAt_MethodCall ?_ hcall) hi hsw
  refine ks_wpAt_super_base (env := PySem.W.ksEnv qual sc L f (.ref cda) cc) hks hkc rfl rfl (X _ _ hf) rfl hp rfl (X _ _ hcode) rfl hvs hfile htop ?_
  refine PySem.W.ks_loadName_global hk hks (loadGlobal_builtin (env := PySem.W.ksEnv qual sc L f (.ref cda) cc) hmg hsuper hmb ((hbb _ (by decide +kernel)).trans (by decide +kernel : bootBuiltins "super" = some (.type "super"))) ⟨rfl, ?_⟩)
  refine wpAny_loadName_free hk hkc rfl ⟨_, X _ _ hcell, rfl⟩ (wpAny_loadName_local hk hka hns hv ?_)
  refine ks_wpAny_isType_cls (X _ _ hC) rfl ⟨rfl, ?_⟩
  refine ks_wpAny_call_super (X _ _ hC) rfl hx rfl (fun c e => by cases e) (PySem.W.looks_mroIn X hsub) fun h1 e1 k1 => ?_
  have X1 : K.In h1 := X.keeps k1
  unfold PySem.W.ks_superIn at hup
  rw [hcls] at hup
  refine PySem.W.kxs_getMethod PySem.W.kxs_ValueError e1 (PySem.W.looks_opaque X1 hopq) (l₀ := .ref C :: bm) (fun A Q E s k q => wpAny_bind ((PySem.W.looks_clsIn X1 hcls) A _ E s k (wpAny_pure q))) rfl X1 hup (hI.keeps k1) hxC (by decide) ?_
  have k2 : ∀ b o, h1.get? b = some o → (h1.push (PySem.W.kxs_mw "ValueError.__init__" x)).get? b = some o := fun b o e => Heap.get?_push_of_some _ e
  rw [hst]
  refine PySem.W.kxs_callWith (i := "ValueError.__init__") (x := x) rfl (evalArgs_plain (spliced_cons (x := eval e (PySem.W.ksEnv qual sc L f (.ref cda) cc)) (hev _ _ _ (fun b o z => k2 b o (k1 b o z)) fun v tk => spliced_nil ⟨Heap.get?_push_at rfl rfl, ?_⟩)))
  refine bound_init (k2 _ _ (k1 _ _ (X _ _ hC))) (Heap.get?_push_at rfl rfl) (k2 _ _ (k1 _ _ hx)) (by rw [sizeLine_eq]; show 1 ≤ _; decide) fun h' t1 k3 e3 => hq h' t1 _ (fun b o hb ho => k3 b o hb (k2 _ _ (k1 _ _ ho))) e3

theorem ns_keep {h h' : Heap} {L x : Addr} {m : Str → Option Value} {ox : Obj} (n : h.Ns L m) (ne : L ≠ x) (k : ∀ b o, b ≠ x → h.get? b = some o → h'.get? b = some o) : h'.Ns L m := by
  obtain ⟨o, es, ep, e, r⟩ := n
  exact ⟨o, es, ep, k _ _ ne e, r⟩
/-- the written form of the call -/
def SupOk (qual : Str) (sc : Scope) (p0 p1 p2 pos pos' : Pos) (e : Expr) : Prop := ∀ (L f cda cc : Addr), interactive (PySem.W.ksEnv qual sc L f (.ref cda) cc) = false ∧
  swapsWith (.Call (.Attribute (.Call (.Name "super" p0) [] [] p1) "__init__" p2) [e] [] pos) none pos'.line (PySem.W.ksEnv qual sc L f (.ref cda) cc) = pure false ∧
  (∃ pl : Sem Bool, eval (.Call (.Attribute (.Call (.Name "super" p0) [] [] p1) "__init__" p2) [e] [] pos) (PySem.W.ksEnv qual sc L f (.ref cda) cc) = (do
      let ov ← attributeBase (.Call (.Name "super" p0) [] [] p1) "__init__" (PySem.W.ksEnv qual sc L f (.ref cda) cc) (eval (.Call (.Name "super" p0) [] [] p1) (PySem.W.ksEnv qual sc L f (.ref cda) cc))
      standAt p2.atName
      let (fn, first) ← holding [ov] (getMethod ov "__init__" pl)
      callWith pos fn first (backTo pos (starEach [e] (PySem.W.ksEnv qual sc L f (.ref cda) cc))) [])) ∧
  starEach [e] (PySem.W.ksEnv qual sc L f (.ref cda) cc) = [(false, eval e (PySem.W.ksEnv qual sc L f (.ref cda) cc))]
/-- def __init__(self, part): super().__init__('..'); self.part = part -/
theorem run_part {mg mb : Str → Option Value} {st : Stmt} {qual : Str} {C x t0 fI : Addr} {u : Value} {p0 p1 p2 p3 p4 p5 p6 pos pos' pos'' : Pos} {msg : Str} {j : Nat} (T : IniC prog K mg C st qual) (iC : PySem.W.findIn K (.ref C) "__init__" = some (some (.ref fI))) (X : K.In h) (hmg : h.Ns mainGlobals mg) (hmb : h.Ns builtinsNs mb) (hbb : ∀ x : Str, x ≠ "__name__" → mb x = bootBuiltins x) (hlim : h.NoLimit)
    (hx : h.get? x = some (HandSPX.excO C t0)) (hr : A.depth < recursionLimit) (hno : PySem.W.findIn K (.ref C) "part" = some none) (hKx : K.lookup x = none)
    (hsyn : SupOk qual (defScope st) p0 p1 p2 pos pos' (.Constant (.str msg) j p3)) (hsw2 : ∀ (L f cda cc : Addr), swapsWith (.Name "part" p6) (some (.Attribute (.Name "self" p4) "part" p5)) pos''.line (PySem.W.ksEnv qual (defScope st) L f (.ref cda) cc) = pure false)
    (hbody : defBody st = [.Expr (.Call (.Attribute (.Call (.Name "super" p0) [] [] p1) "__init__" p2) [.Constant (.str msg) j p3] [] pos) pos', .Assign [.Attribute (.Name "self" p4) "part" p5] (.Name "part" p6) pos''])
    (hsc : (defScope st).names.lookup ("super" : Str) = some .globalImplicit ∧ (defScope st).names.lookup ("__class__" : Str) = some .free ∧ (defScope st).names.lookup ("self" : Str) = some .local ∧ (defScope st).names.lookup ("part" : Str) = some .local ∧ (∀ x ∈ (defScope st).names, x.2 ≠ .cell))
    (hk : (defScope st).kind = .function ∧ (defScope st).isCoroutine = false ∧ (defScope st).isGenerator = false) (har : ((defArgs st).posonlyargs ++ (defArgs st).args).head?.map (·.arg) = some "self")
    (hbind : ∀ (kV doc pm ct : Value) (an : Option Addr) (cda cc : Addr) (s : Shared) (a b : Value), BindsTo s (PySem.W.ksFn "__init__" qual (defArgs st) (defBody st) (defScope st) .none kV doc pm an (.ref cda) ct cc) ⟨[a, b], []⟩ [("self", a), ("part", b)])
    {R : Result → Shared → Prop} (hq : ∀ h' dx t1 tk, (∀ b o, b ≠ x → h.get? b = some o → h'.get? b = some o) → h.objs.size ≤ dx → dx ≠ x → h'.get? x = some { cls := .ref C, dict := some dx, data := .fields #[.ref t1, .none, .none, .none, .bool false, .none] } →
      h'.Ns1 dx (fun y => if y = "part" then some u else none) → R (.ok (.ret .none)) ⟨h', g, d, tk, os⟩) :
    codeAny (model prog w) A (.call (.ref fI) ⟨[.ref x, u], []⟩) R ⟨h, g, d, t, os⟩ := by
  obtain ⟨f, cc, cda, oc, ccl, cl, kV, doc, pm, ct, od, cdd, cld, an, osl, ccs, csl, vs, file, tf, e1, e2, e3, e4, e5, e6, e7, e8⟩ := T.ex
  obtain rfl : f = fI := by
    rw [iC] at e1
    cases e1
    rfl
  obtain ⟨nm, q, N, bs, bm, sn, sub, ab, col, dd, k0, k1, k2, k3, k5, hC, hbm⟩ := T.oex.cls
  obtain ⟨s1, s2, s3, s4, s5⟩ := hsc
  obtain ⟨ar, ha1, ha2⟩ := Option.map_eq_some_iff.mp har
  refine ks_codeAny_call_defAt (fd := PySem.W.ksFn "__init__" qual (defArgs st) (defBody st) (defScope st) .none kV doc pm an (.ref cda) ct cc) (body := defBody st) (binds := [("self", .ref x), ("part", u)]) hr (X _ _ e3) rfl hlim (PySem.W.codeRec_of X e4) rfl (hbind _ _ _ _ _ _ _ _ _ _) s5 ?_ (fun h₁ hns hk₁ => ?_) hk.2.1 hk.2.2 hk.1
  · intro y hy
    rcases List.mem_cons.mp hy with rfl | hy
    · exact s3
    · rcases List.mem_cons.mp hy with rfl | hy
      · exact s4
      · cases hy
  have X1 : K.In h₁ := X.keeps hk₁
  have hxL : h.objs.size ≠ x := Nat.ne_of_gt (Heap.lt_size hx)
  obtain ⟨y1, y2, ⟨pl, y3⟩, y4⟩ := hsyn h.objs.size f cda cc
  show _root_.PySem.wpAt (model prog w) (A.deeper (PySem.W.ksEnv qual (defScope st) h.objs.size f (.ref cda) cc)) (.func (defBody st) (PySem.W.ksEnv qual (defScope st) h.objs.size f (.ref cda) cc)) (execs (defBody st) (PySem.W.ksEnv qual (defScope st) h.objs.size f (.ref cda) cc)) _ _ _
  generalize hcode : Code.func (defBody st) (PySem.W.ksEnv qual (defScope st) h.objs.size f (.ref cda) cc) = code
  rw [hbody]
  subst hcode
  have ld : ∀ {y : Str} {v : Value} {h2 : Heap} {tk : Nat} {pos : Pos} {Q : Value → Shared → Prop} {E : Value → Shared → Prop} {A : Around}, ([(("self" : Str), Value.ref x), (("part" : Str), u)] : List (Str × Value)).reverse.lookup y = some v → h2.Ns h.objs.size (fun y => ([(("self" : Str), Value.ref x), (("part" : Str), u)] : List (Str × Value)).reverse.lookup y) → (defScope st).names.lookup y = some .local →
      (y == ("__debug__" : Str)) = false → Q v ⟨h2, g, d, tk, os⟩ → wpAny (model prog w) A (eval (.Name y pos) (PySem.W.ksEnv qual (defScope st) h.objs.size f (.ref cda) cc)) Q E ⟨h2, g, d, tk, os⟩ := fun {y v h2 tk pos Q E A} hv hn hl hd q =>
    PySem.ESX.ldL (env := PySem.W.ksEnv qual (defScope st) h.objs.size f (.ref cda) cc) hn hv q hk.1 hl hd
  refine ks_wpAt_execs_cons (ini_sup (nm := nm) (q := q) (N := N) (ar := ar) (m := fun y => ([(("self" : Str), Value.ref x), (("part" : Str), u)] : List (Str × Value)).reverse.lookup y) (x := x) (t0 := t0) X1 (hmg.keeps hk₁) (hmb.keeps hk₁) hbb hns e3 ha1 ?_ (hk₁ _ _ hx) e5 e6 e7 e8 hC T.sub T.subE T.opq T.up T.sup T.top s1 s2 ?_ hk.1 y1 y2 y3 y4 ?_ ?_)
  · show _ = some (Value.ref x)
    rw [ha2]
    rfl
  · rw [ha2]
    exact s3
  · intro h1 t1 Q _ q
    exact Constant_str (q _ _)
  · intro h2 t1 tk k2 e2
    show _root_.PySem.wpAt _ _ _ (execs _ _) _ _ _
    have n2 : h2.Ns h.objs.size (fun y => ([(("self" : Str), Value.ref x), (("part" : Str), u)] : List (Str × Value)).reverse.lookup y) := ns_keep (ox := HandSPX.excO C t0) hns hxL k2
    have X2 : K.In h2 := fun b o z => k2 b o (fun w => by rw [w, hKx] at z; cases z) (X1 b o z)
    refine ks_wpAt_execs_cons (ks_wpAt_Assign_Attr (_root_.PySem.wpAt_of_wpAny (ld rfl n2 s4 (by decide) (ld rfl n2 s3 (by decide) ?_))) (hsw2 _ _ _ _))
    refine PySem.W.set_plain X2 (ox := { cls := .ref C, dict := none, data := .fields #[.ref t1, .none, .none, .none, .bool false, .none] }) (od := none) ⟨e2, rfl, rfl, trivial⟩ T.oex.sa ?_
    refine PySem.HandSPX.exc_osa X2 e2 (cd := { name := nm, bases := bs, mro := .ref C :: bm, ns := N, qualname := q, hasDict := true, slotNames := sn, subclasses := sub, abstract := ab, collection := col, hasDel := false }) (by unfold PySem.W.clsIn; rw [hC] <;> rfl) (show PySem.HandSPX.refsVE (.ref C :: bm) = true from hbm) rfl hno fun h' tk' dx k dn dne hx' hn' => ?_
    show _root_.PySem.wpAt _ _ _ (execs _ _) _ _ _
    refine _root_.PySem.wpAt_of_wpAny (wpAny_execs_nil ?_)
    refine hq h' dx t1 tk' (fun b o hb ho => k b o hb (k2 b o hb (hk₁ b o ho))) ?_ dne hx' hn'
    obtain ⟨_, _, _, z, _⟩ := n2
    exact Nat.le_trans (Nat.le_of_lt (Heap.lt_size z)) dn
/-- def __init__(self, text): super().__init__(text) -/
theorem run_text {mg mb : Str → Option Value} {st : Stmt} {qual : Str} {C x t0 fI : Addr} {u : Value} {p0 p1 p2 p3 pos pos' : Pos} (T : IniC prog K mg C st qual) (iC : PySem.W.findIn K (.ref C) "__init__" = some (some (.ref fI))) (X : K.In h) (hmg : h.Ns mainGlobals mg) (hmb : h.Ns builtinsNs mb) (hbb : ∀ x : Str, x ≠ "__name__" → mb x = bootBuiltins x) (hlim : h.NoLimit)
    (hx : h.get? x = some (HandSPX.excO C t0)) (hr : A.depth < recursionLimit)
    (hsyn : SupOk qual (defScope st) p0 p1 p2 pos pos' (.Name "text" p3))
    (hbody : defBody st = [.Expr (.Call (.Attribute (.Call (.Name "super" p0) [] [] p1) "__init__" p2) [.Name "text" p3] [] pos) pos'])
    (hsc : (defScope st).names.lookup ("super" : Str) = some .globalImplicit ∧ (defScope st).names.lookup ("__class__" : Str) = some .free ∧ (defScope st).names.lookup ("self" : Str) = some .local ∧ (defScope st).names.lookup ("text" : Str) = some .local ∧ (∀ x ∈ (defScope st).names, x.2 ≠ .cell))
    (hk : (defScope st).kind = .function ∧ (defScope st).isCoroutine = false ∧ (defScope st).isGenerator = false) (har : ((defArgs st).posonlyargs ++ (defArgs st).args).head?.map (·.arg) = some "self")
    (hbind : ∀ (kV doc pm ct : Value) (an : Option Addr) (cda cc : Addr) (s : Shared) (a b : Value), BindsTo s (PySem.W.ksFn "__init__" qual (defArgs st) (defBody st) (defScope st) .none kV doc pm an (.ref cda) ct cc) ⟨[a, b], []⟩ [("self", a), ("text", b)])
    {R : Result → Shared → Prop} (hq : ∀ h' t1 tk, (∀ b o, b ≠ x → h.get? b = some o → h'.get? b = some o) → h'.get? x = some (HandSPX.excO C t1) → R (.ok (.ret .none)) ⟨h', g, d, tk, os⟩) :
    codeAny (model prog w) A (.call (.ref fI) ⟨[.ref x, u], []⟩) R ⟨h, g, d, t, os⟩ := by
  obtain ⟨f, cc, cda, oc, ccl, cl, kV, doc, pm, ct, od, cdd, cld, an, osl, ccs, csl, vs, file, tf, e1, e2, e3, e4, e5, e6, e7, e8⟩ := T.ex
  have ef : f = fI := by
    have z := iC.symm.trans e1
    cases z
    rfl
  subst ef
  obtain ⟨nm, q, N, bs, bm, sn, sub, ab, col, dd, k0, k1, k2, k3, k5, hC, hbm⟩ := T.oex.cls
  obtain ⟨s1, s2, s3, s4, s5⟩ := hsc
  obtain ⟨ar, ha1, ha2⟩ := Option.map_eq_some_iff.mp har
  have locs : ∀ y ∈ [(("self" : Str), Value.ref x), (("text" : Str), u)], (defScope st).names.lookup y.1 = some .local := fun y hy => by
    simp only [List.mem_cons, List.not_mem_nil, or_false] at hy
    rcases hy with rfl | rfl
    · exact s3
    · exact s4
  refine ks_codeAny_call_defAt (fd := PySem.W.ksFn "__init__" qual (defArgs st) (defBody st) (defScope st) .none kV doc pm an (.ref cda) ct cc) (body := defBody st) (binds := [("self", .ref x), ("text", u)]) hr (X _ _ e3) rfl hlim (PySem.W.codeRec_of X e4) rfl (hbind _ _ _ _ _ _ _ _ _ _) s5 locs (fun h₁ hns hk₁ => ?_) hk.2.1 hk.2.2 hk.1
  obtain ⟨y1, y2, ⟨pl, y3⟩, y4⟩ := hsyn h.objs.size f cda cc
  show _root_.PySem.wpAt (model prog w) (A.deeper (PySem.W.ksEnv qual (defScope st) h.objs.size f (.ref cda) cc)) (.func (defBody st) (PySem.W.ksEnv qual (defScope st) h.objs.size f (.ref cda) cc)) (execs (defBody st) (PySem.W.ksEnv qual (defScope st) h.objs.size f (.ref cda) cc)) _ _ _
  generalize hcode : Code.func (defBody st) (PySem.W.ksEnv qual (defScope st) h.objs.size f (.ref cda) cc) = code
  rw [hbody, ← hcode]
  refine ks_wpAt_execs_cons (ini_sup (nm := nm) (q := q) (N := N) (ar := ar) (m := fun y => ([(("self" : Str), Value.ref x), (("text" : Str), u)] : List (Str × Value)).reverse.lookup y) (x := x) (t0 := t0) (X.keeps hk₁) (hmg.keeps hk₁) (hmb.keeps hk₁) hbb hns e3 ha1 (by rw [ha2]; rfl) (hk₁ _ _ hx) e5 e6 e7 e8 hC T.sub T.subE T.opq T.up T.sup T.top s1 s2 (by rw [ha2]; exact s3) hk.1 y1 y2 y3 y4 ?_ ?_)
  · intro h1 t1 Q kk q
    exact PySem.ESX.ldL (env := PySem.W.ksEnv qual (defScope st) h.objs.size f (.ref cda) cc) (hns.keeps kk) (show ([(("self" : Str), Value.ref x), (("text" : Str), u)] : List (Str × Value)).reverse.lookup ("text" : Str) = some u from rfl) (q _ _) hk.1 s4 (by decide)
  · intro h2 t1 tk k2 e2
    show _root_.PySem.wpAt _ _ _ (execs _ _) _ _ _
    exact _root_.PySem.wpAt_of_wpAny (wpAny_execs_nil (hq h2 t1 tk (fun b o hb ho => k2 b o hb (hk₁ b o ho)) e2))
end

/-! ### the same, told without the text -/
def RunPart (P : Program) (K : PySem.W.Frag) (mg : Str → Option Value) (C : Addr) : Prop := ∃ fI, PySem.W.findIn K (.ref C) "__init__" = some (some (.ref fI)) ∧ PySem.W.typeIn K (.ref fI) = some (.type "function") ∧
  ∀ (w : World) (A : Around) (h : Heap) (g : Array GenState) (d : Drawn) (t : Nat) (os : OsState) (mb : Str → Option Value) (x t0 : Addr) (u : Value) (R : Result → Shared → Prop), K.In h → h.Ns mainGlobals mg → h.Ns builtinsNs mb → (∀ x : Str, x ≠ "__name__" → mb x = bootBuiltins x) → h.NoLimit →
    h.get? x = some (HandSPX.excO C t0) → A.depth < recursionLimit → K.lookup x = none →
    (∀ h' dx t1 tk, (∀ b o, b ≠ x → h.get? b = some o → h'.get? b = some o) → h.objs.size ≤ dx → dx ≠ x → h'.get? x = some { cls := .ref C, dict := some dx, data := .fields #[.ref t1, .none, .none, .none, .bool false, .none] } →
      h'.Ns1 dx (fun y => if y = "part" then some u else none) → R (.ok (.ret .none)) ⟨h', g, d, tk, os⟩) → codeAny (model P w) A (.call (.ref fI) ⟨[.ref x, u], []⟩) R ⟨h, g, d, t, os⟩
def RunText (P : Program) (K : PySem.W.Frag) (mg : Str → Option Value) (C : Addr) : Prop := ∃ fI, PySem.W.findIn K (.ref C) "__init__" = some (some (.ref fI)) ∧ PySem.W.typeIn K (.ref fI) = some (.type "function") ∧
  ∀ (w : World) (A : Around) (h : Heap) (g : Array GenState) (d : Drawn) (t : Nat) (os : OsState) (mb : Str → Option Value) (x t0 : Addr) (u : Value) (R : Result → Shared → Prop), K.In h → h.Ns mainGlobals mg → h.Ns builtinsNs mb → (∀ x : Str, x ≠ "__name__" → mb x = bootBuiltins x) → h.NoLimit →
    h.get? x = some (HandSPX.excO C t0) → A.depth < recursionLimit →
    (∀ h' t1 tk, (∀ b o, b ≠ x → h.get? b = some o → h'.get? b = some o) → h'.get? x = some (HandSPX.excO C t1) → R (.ok (.ret .none)) ⟨h', g, d, tk, os⟩) → codeAny (model P w) A (.call (.ref fI) ⟨[.ref x, u], []⟩) R ⟨h, g, d, t, os⟩
def tMkP (C : Addr) (ta : TA) : L2.St → Hp → XK → Prop := fun σ H Q => ta σ H fun vs H1 => ∃ y, vs = [y] ∧ ∀ dx, H1 dx = none → Q (.ref C) (some dx) (upd H1 dx (.xd [("part", y)]))
def tMkT (C : Addr) (ta : TA) : L2.St → Hp → XK → Prop := fun σ H Q => ta σ H fun vs H1 => ∃ y, vs = [y] ∧ Q (.ref C) none H1
section
variable {X : Cx} {x : Str} {C : Addr} {k : Nat} {e : Expr} {ta : TA} {p pos : Pos}
theorem nsX {pins : List (Addr × Obj)} {σ : L2.St} {H : Hp} {s : Shared} (I : Inv X pins σ H s) : s.heap.Ns mainGlobals X.mg ∧ s.heap.NoLimit ∧ ∃ mb, s.heap.Ns builtinsNs mb ∧ ∀ x : Str, x ≠ "__name__" → mb x = bootBuiltins x := by
  have kk : ∀ b o, X.base.get? b = some o → s.heap.get? b = some o := fun b o z => (I.bs b o z).1
  obtain ⟨kin, g, ⟨mb, b1, b2⟩, lim⟩ := I.ok.mod
  exact ⟨g.keeps kk, lim.keeps kk, mb, b1.keeps kk, b2⟩
theorem pmk_part (T : OexC X.K C) (rp : RunPart X.prog X.K X.mg C) (hr : Room (k + 1) X.A) (hg : Gl X x) (hm : X.mg x = some (.ref C)) (ha : PA X [e] ta)
    (hdb : (x == ("__debug__" : Str)) = false := by decide) (he : starEach [e] X.env = (false, eval e X.env) :: starEach [] X.env := by rfl) (hpl : (backTo pos (starEach [] X.env)).any (·.1) = false := by rfl) : PMk X (.Call (.Name x p) [e] [] pos) (tMkP C ta) := by
  intro pins s σ H Q I h
  obtain ⟨fI, iC, tI, run⟩ := rp
  obtain ⟨nm, q, N, bs, bm, sn, sub, ab, col, dd, k0, k1, k2, k3, k5, hC, hbm⟩ := T.cls
  refine wpAny_Call_Name_kw (ld_glob I hg hm ?_ hdb)
  refine PySem.W.callWith_K (h₀ := X.base) I.ok.mod.kin T.kC (thn (ha.run pos pins s σ H _ I h) fun us s1 ⟨vs, H1, I1, r1, y, ev, q1⟩ => ⟨I1.kIn, ?_⟩) he hpl
  subst ev
  obtain ⟨u, rfl, ru⟩ := vals1 r1
  show wpAny _ _ (call (.ref C) [u]) _ _ _
  obtain ⟨n1, n2, mb, n3, n4⟩ := nsX I1
  have I1k := I1.kIn
  obtain ⟨hp, g, dr, tk, os⟩ := s1
  have kk : ∀ b o, hp.get? b = some o → ((hp.push (PySem.W.kdv_tup [u])).push (PySem.HandSPX.excO C hp.objs.size)).get? b = some o := fun b o z => Heap.get?_push_of_some _ (Heap.get?_push_of_some _ z)
  have hget : ((hp.push (PySem.W.kdv_tup [u])).push (PySem.HandSPX.excO C hp.objs.size)).get? (hp.objs.size + 1) = some (PySem.HandSPX.excO C hp.objs.size) := by heap_get
  have hsz : ((hp.push (PySem.W.kdv_tup [u])).push (PySem.HandSPX.excO C hp.objs.size)).objs.size = hp.objs.size + 2 := by rw [Heap.size_push, Heap.size_push]
  have hKx : X.K.lookup (hp.objs.size + 1) = none := by
    cases z : X.K.lookup (hp.objs.size + 1) with
    | none => rfl
    | some o =>
      have z' : hp.objs.size + 1 < hp.objs.size := Heap.lt_size (show hp.get? (hp.objs.size + 1) = some o from I1k _ _ z)
      omega
  refine wpAny_call (PySem.HandSPX.call_own F.excBase_ValueError (fun Y => PySem.HandSPX.refsVE_contains Y bm hbm) (I1k _ _ hC) (PySem.W.looks_findIn I1k iC) (fun self => PySem.W.bind_fn I1k self tI) (by rw [sizeLine_eq]; show 1 ≤ _; decide)
    (run X.w _ _ g dr tk os mb (hp.objs.size + 1) hp.objs.size u _ (I1k.keeps kk) (n1.keeps kk) (n3.keeps kk) n4 (n2.keeps kk) hget (hr.make C [u] []).depth hKx fun h' dx t1 tk' k' dn dne e' hn => ?_))
  have hdn : hp.objs.size ≤ dx := Nat.le_trans (Nat.le_trans (Nat.le_add_right _ 2) (Nat.le_of_eq hsz.symm)) dn
  have old : ∀ b o, hp.get? b = some o → b ≠ hp.objs.size + 1 := fun b o z w => by
    have z' : hp.objs.size + 1 < hp.objs.size := Heap.lt_size (show hp.get? (hp.objs.size + 1) = some o from w ▸ z)
    omega
  obtain ⟨G, g1, g2⟩ := restrict h' fun b => decide (b ≠ hp.objs.size + 1)
  have gk : ∀ b, b ≠ hp.objs.size + 1 → G.get? b = h'.get? b := fun b hb => g1 b (decide_eq_true hb)
  have ge : G.get? (hp.objs.size + 1) = none := g2 _ (by simp)
  have xok : ObjOk X.prog X.w (upd H1 dx (.xd [("part", y)])) G dx (.xd [("part", y)]) := ⟨_, hn.at fun o z => (gk dx dne).trans z, fun f => by
    rw [lookup_put]
    by_cases hf : f = "part"
    · rw [if_pos hf, if_pos hf]; exact ru
    · rw [if_neg hf, if_neg hf]; exact True.intro⟩
  have J := I1.laid (t' := tk') (h' := G) (a := dx) (o := .xd [("part", y)]) (fun b o z => (gk b (old b o z)).trans (k' b o (old b o z) (kk b o z))) hdn xok
  have hn1 : H1 (hp.objs.size + 1) = none := I1.hok.fresh (Nat.le_succ _)
  refine ⟨rfl, hp.objs.size + 1, _, _, ⟨G, g, dr, tk', os⟩, upd H1 dx (.xd [("part", y)]), .ref C, some dx, rfl, J, fun b o z => ?_, ge, e', ⟨rfl, rfl⟩, rfl, rfl, ?_, rfl, I1.bare, raises_own T.exC T.tyC, q1 dx (I1.hok.fresh hdn)⟩
  · by_cases hb : b = hp.objs.size + 1
    · have z' : G.get? b = some o := z
      rw [hb, ge] at z'
      cases z'
    · exact (gk b hb).symm.trans z
  · rw [upd_ne (Ne.symm dne)]; exact hn1
theorem pmk_text (T : OexC X.K C) (rp : RunText X.prog X.K X.mg C) (hr : Room (k + 1) X.A) (hg : Gl X x) (hm : X.mg x = some (.ref C)) (ha : PA X [e] ta)
    (hdb : (x == ("__debug__" : Str)) = false := by decide) (he : starEach [e] X.env = (false, eval e X.env) :: starEach [] X.env := by rfl) (hpl : (backTo pos (starEach [] X.env)).any (·.1) = false := by rfl) : PMk X (.Call (.Name x p) [e] [] pos) (tMkT C ta) := by
  intro pins s σ H Q I h
  obtain ⟨fI, iC, tI, run⟩ := rp
  obtain ⟨nm, q, N, bs, bm, sn, sub, ab, col, dd, k0, k1, k2, k3, k5, hC, hbm⟩ := T.cls
  refine wpAny_Call_Name_kw (ld_glob I hg hm ?_ hdb)
  refine PySem.W.callWith_K (h₀ := X.base) I.ok.mod.kin T.kC (thn (ha.run pos pins s σ H _ I h) fun us s1 ⟨vs, H1, I1, r1, y, ev, q1⟩ => ⟨I1.kIn, ?_⟩) he hpl
  subst ev
  obtain ⟨u, rfl, ru⟩ := vals1 r1
  show wpAny _ _ (call (.ref C) [u]) _ _ _
  obtain ⟨n1, n2, mb, n3, n4⟩ := nsX I1
  have I1k := I1.kIn
  obtain ⟨hp, g, dr, tk, os⟩ := s1
  have kk : ∀ b o, hp.get? b = some o → ((hp.push (PySem.W.kdv_tup [u])).push (PySem.HandSPX.excO C hp.objs.size)).get? b = some o := fun b o z => Heap.get?_push_of_some _ (Heap.get?_push_of_some _ z)
  have hget : ((hp.push (PySem.W.kdv_tup [u])).push (PySem.HandSPX.excO C hp.objs.size)).get? (hp.objs.size + 1) = some (PySem.HandSPX.excO C hp.objs.size) := by heap_get
  refine wpAny_call (PySem.HandSPX.call_own F.excBase_ValueError (fun Y => PySem.HandSPX.refsVE_contains Y bm hbm) (I1k _ _ hC) (PySem.W.looks_findIn I1k iC) (fun self => PySem.W.bind_fn I1k self tI) (by rw [sizeLine_eq]; show 1 ≤ _; decide)
    (run X.w _ _ g dr tk os mb (hp.objs.size + 1) hp.objs.size u _ (I1k.keeps kk) (n1.keeps kk) (n3.keeps kk) n4 (n2.keeps kk) hget (hr.make C [u] []).depth fun h' t1 tk' k' e' => ?_))
  have old : ∀ b o, hp.get? b = some o → b ≠ hp.objs.size + 1 := fun b o z w => by
    have z' : hp.objs.size + 1 < hp.objs.size := Heap.lt_size (show hp.get? (hp.objs.size + 1) = some o from w ▸ z)
    omega
  refine ⟨rfl, hp.objs.size + 1, _, _, ⟨hp, g, dr, tk, os⟩, H1, .ref C, none, rfl, I1, fun b o z => k' b o (old b o z) (kk b o z), Heap.get?_none_of_le (Nat.le_succ _), e', ⟨rfl, rfl⟩, rfl, rfl, I1.hok.fresh (Nat.le_succ _), rfl, I1.bare, raises_own T.exC T.tyC, q1⟩
end
end Kw

/-! text K9 -/
/-! My layer, part 9: try with several clauses, some with a name. -/
namespace Kw
open PySem PySem.Spec PyProof.Rows L2 PySem.Calls

abbrev SuiteT := Addr → Value → Option Addr → TS
/-- the ends of a suite whose name stands in the slot i -/
def endsGone (D : Ends) : Option Nat → Ends
  | none => D
  | some i => ⟨fun τ J => D.nx (τ.set i none) J, D.rt, fun τ J => D.bk (τ.set i none) J, fun τ J => D.ct (τ.set i none) J⟩
def slotOf (σ : L2.St) (a : Addr) : Option Nat → L2.St
  | none => σ
  | some i => σ.set i (some (.ref a))
def wNames (K : PySem.W.Frag) (Wo : WX) (D : Ends) : List (Value × Option Nat × SuiteT) → WX
  | [] => Wo
  | (c, i, ts) :: r => fun cls d σ H => ∃ b, PySem.W.exmOne K cls c = some b ∧ (b = true → ∀ a, H a = none → ts a cls d (endsGone D i) (slotOf σ a i) H) ∧ (b = false → wNames K Wo D r cls d σ H)
inductive HdsN (X : Cx) : List ExceptHandler → List (Value × Option Nat × SuiteT) → Prop
  | nil : HdsN X [] []
  | cons {x : Str} {c : Value} {ts : SuiteT} {b₀ : Stmt} {su : List Stmt} {q1 q2 : Pos} {no : Option Str} {io : Option Nat} {hds : List ExceptHandler} {l : List (Value × Option Nat × SuiteT)} (hc : Names X x c)
      (hno : (no = none ∧ io = none) ∨ ∃ n i, no = some n ∧ io = some i ∧ X.N[i]? = some n ∧ X.env.kindOf n = some .local)
      (hsu : ∀ (a : Addr) (oe : Obj) (cls : Value) (d : Option Addr) (pn : List (Addr × Obj)), Zc cls d oe → (∃ vs, oe.data = .fields vs) → PSs (X.suite a ((a, oe) :: pn)) (b₀ :: su) (ts a cls d)) (r : HdsN X hds l) :
      HdsN X (.ExceptHandler (some (.Name x q1)) no (b₀ :: su) q2 :: hds) ((c, io, ts) :: l)
section
variable {X : Cx} {body : List Stmt} {hd₀ : ExceptHandler} {hds : List ExceptHandler} {l : List (Value × Option Nat × SuiteT)} {pos : Pos} {tb : WX → TS} {Wo : WX}
theorem ps_try_names (stk : X.stack = X.env :: X.outer) (fr : X.env.frame = some X.env.locals) (nd : X.N.Nodup) (tk : Takes X Wo)
    (hb : ∀ (W : WX) (pn : List (Addr × Obj)) (xe : Value → Shared → Prop), Takes (X.tr pn xe) W → PassesOwn (model X.prog X.w) X.A X.env xe → PSs (X.tr pn xe) body (tb W))
    (hh : HdsN X (hd₀ :: hds) l) : PS X (.Try body (hd₀ :: hds) [] [] pos) (fun D σ H => tb (wNames X.K Wo D l) D σ H) := by
  refine ⟨fun pins s σ H D I h => ?_⟩
  have ok := I.ok
  have frs' : X.A.frames = some (X.env :: X.outer) := ok.frames.trans (by rw [stk])
  let after : Value → Shared → Prop := fun e z => wpAny (model X.prog X.w) X.A (noteFrame e X.env) (fun _ z1 => wpAny (model X.prog X.w) X.A (setFlight e none)
    (fun _ z2 => wpAny (model X.prog X.w) X.A (handleBy e X.env (hd₀ :: hds)) (SP X pins D) X.xe z2) X.xe z1) X.xe z
  have caught : Takes (X.tr (X.pn ++ pins) after) (wNames X.K Wo D l) := by
    rintro u z ⟨a, B, zI, pins', τ, J, cls, d, rfl, J', nb, up, sky, na, os, ag, w⟩
    have I2 : Inv X pins τ J zI := J'.ofTry ok
    show wpAny (model X.prog X.w) X.A (noteFrame (.ref a) X.env) _ _ _
    refine Sky.land Zc.steady frs' fr (show Sky B (X.env :: X.outer) a (Zc cls d) X.env.locals z.heap by rw [← stk]; exact sky) fun h3 fl3 up3 => ?_
    have I3 : Inv X pins τ J { z with heap := h3 } := I2.landed nb fl3.1 (up.trans up3) os ag
    obtain ⟨oe3, vs3, he3, hz3, hd3⟩ := fl3.there
    have nfr : a ∉ frs (X.env :: X.outer) := fun hm => by
      obtain ⟨_, o', e', hnf⟩ := fl3.2.2.1.mem hm
      rw [he3] at e'
      cases e'
      exact hnf _ hd3
    have nL : a ≠ X.env.locals := fun y => nfr (List.mem_filterMap.mpr ⟨X.env, List.mem_cons_self, fr.trans (by rw [y])⟩)
    have nF : a ∉ X.fs := fun hm => by
      obtain ⟨e, he, q⟩ := List.mem_filterMap.mp hm
      exact nfr (List.mem_filterMap.mpr ⟨e, List.mem_cons_of_mem _ he, q⟩)
    have S3 := I3.suite he3 hd3 na nL nF
    suffices go : ∀ {hs' : List ExceptHandler} {l' : List (Value × Option Nat × SuiteT)}, HdsN X hs' l' → wNames X.K Wo D l' cls d τ J → wpAny (model X.prog X.w) X.A (handleBy (.ref a) X.env hs') (SP X pins D) X.xe { z with heap := h3 } from go hh w
    intro hs' l' hk
    induction hk with
    | nil =>
      intro w
      refine wpAny_handleBy_nil ?_
      have fin : wpAny (model X.prog X.w) X.A (setFlight (.ref a) X.env.frame) (fun _ z4 => wpAny (model X.prog X.w) X.A (throw (.ref a) : Sem Flow) (SP X pins D) X.xe z4) X.xe { z with heap := h3 } := by
        rw [fr]
        exact HandSPX.setFlight_upZ fl3 fun h4 hh4 up4 => wpAny_throw (tk _ _ ⟨a, B, zI, pins, τ, J, cls, d, rfl, I2, nb, (up.trans up3).trans up4, .inr (.inr (by rw [stk]; exact hh4)), na, os, ag, w⟩)
      obtain ⟨-, -, -, oe, vs, T, oT, ts', he, hz, hd, h1, hr⟩ := id fl3
      unfold PySem.passOn
      refine wpAny_bind (wpAny_field he hd h1 ?_)
      rw [if_neg (show ¬ ((Value.ref T == Value.none) = true) by simp)]
      first
        | exact wpAny_bind fin
        | exact wpAny_bind (wpAny_pure (wpAny_bind fin))
    | @cons x c ts b₀ su q1 q2 no io hds2 l2 hc hno hsu r ih =>
      rintro ⟨b, hb1, hyes, hn⟩
      refine wpAny_handleBy_cons (codeAny_handlers_test ?_) (by intro q; cases q)
      have LT : PySem.W.Looks (model X.prog X.w) h3 (typeOf (.ref a)) cls := fun A Q E s k q => wpAny_typeOf_ref (k _ _ he3) (by rw [hz3.1]; exact q)
      have test : ∀ {Q : Value → Shared → Prop} {E : Value → Shared → Prop}, Q c { z with heap := h3 } → wpAny (model X.prog X.w) (X.A.mark (some (.ref a))) (eval (.Name x q1) X.env) Q E { z with heap := h3 } := fun {Q E} q => by
        obtain ⟨hg, hdbg, hm | ⟨hm, hv, hnn⟩⟩ := hc
        · exact ld_glob (X := X.suite a ((a, oe3) :: (X.pn ++ pins))) S3 hg hm q hdbg
        · exact ld_blt (X := X.suite a ((a, oe3) :: (X.pn ++ pins))) S3 hg hm hv q hnn hdbg
      refine test ((PySem.W.exm_one (M := model X.prog X.w) I3.kIn LT hb1).here ?_)
      cases b with
      | false => exact ih (hn rfl)
      | true =>
        have hy := hyes rfl a na
        rcases hno with ⟨rfl, rfl⟩ | ⟨n, i, rfl, rfl, hi, hln⟩
        · refine codeAny_handlers_suite (HandSPX.lands_againZ fl3 fun h4 fl4 up4 => ?_)
          obtain ⟨oe4, vs4, he4, hz4, hd4⟩ := fl4.there
          have I4 : Inv X pins τ J { z with heap := h4 } := I2.landed nb fl4.1 ((up.trans up3).trans up4) os ag
          have S4 := I4.suite he4 hd4 na nL nF
          refine wpAny_mono ((hsu a oe4 cls d (X.pn ++ pins) hz4 ⟨_, hd4⟩).run [] _ _ J _ S4 hy) (fun f z6 sp => ?_) (fun _ _ y => False.elim y)
          match f, sp with
          | .next, ⟨_, _, S6, q6⟩ => exact ⟨_, _, S6.unsuite ok, q6⟩
          | .brk, ⟨_, _, S6, q6⟩ => exact ⟨_, _, S6.unsuite ok, q6⟩
          | .cont, ⟨_, _, S6, q6⟩ => exact ⟨_, _, S6.unsuite ok, q6⟩
          | .ret u, ⟨_, _, _, S6, r6, q6⟩ => exact ⟨_, _, _, S6.unsuite ok, r6, q6⟩
        · refine codeAny_handlers_suite_as (HandSPX.lands_againZ fl3 fun h4 fl4 up4 => ?_)
          obtain ⟨oe4, vs4, he4, hz4, hd4⟩ := fl4.there
          have I4 : Inv X pins τ J { z with heap := h4 } := I2.landed nb fl4.1 ((up.trans up3).trans up4) os ag
          have S4 := I4.suite he4 hd4 na nL nF
          refine store_ok (X := X.suite a ((a, oe4) :: (X.pn ++ pins))) (v := .ref a) S4 nd hi (.inl hln) rfl (fun z5 S5 => ?_) (.inr hln)
          refine wpAny_mono ((hsu a oe4 cls d (X.pn ++ pins) hz4 ⟨_, hd4⟩).run [] z5 _ J _ S5 hy) (fun f z6 sp => ?_) (fun _ _ y => False.elim y)
          have bye : ∀ {τ6 : L2.St} {H6 : Hp} {Q : Shared → Prop}, Inv (X.suite a ((a, oe4) :: (X.pn ++ pins))) [] τ6 H6 z6 → (∀ z7, Inv X pins (τ6.set i none) H6 z7 → Q z7) →
              wpAny (model X.prog X.w) X.A (do bindName X.env n .none; unbindBehindTheSuite X.env n q2) (fun _ z7 => Q z7) X.xe z6 := fun {τ6 H6 Q} S6 hq => gone_ok (S6.unsuite ok) nd hi hln hq
          match f, sp with
          | .next, ⟨_, _, S6, q6⟩ => exact bye S6 fun z7 J7 => ⟨_, _, J7, q6⟩
          | .brk, ⟨_, _, S6, q6⟩ => exact bye S6 fun z7 J7 => ⟨_, _, J7, q6⟩
          | .cont, ⟨_, _, S6, q6⟩ => exact bye S6 fun z7 J7 => ⟨_, _, J7, q6⟩
          | .ret u, ⟨_, _, _, S6, r6, q6⟩ => exact bye S6 fun z7 J7 => ⟨_, _, _, J7, r6, q6⟩
  refine wpAny_Try_except (wpAny_mono ((hb (wNames X.K Wo D l) (X.pn ++ pins) after caught PassesOwn.looking).run [] s σ H D (I.toTry _) h) (fun f z1 sp => ?_) (fun e z1 he => he))
  match f, sp with
  | .next, ⟨_, _, J, q⟩ => exact wpAny_execs_nil ⟨_, _, J.ofTry ok, q⟩
  | .brk, ⟨_, _, J, q⟩ => exact ⟨_, _, J.ofTry ok, q⟩
  | .cont, ⟨_, _, J, q⟩ => exact ⟨_, _, J.ofTry ok, q⟩
  | .ret u, ⟨_, _, _, J, r, q⟩ => exact ⟨_, _, _, J.ofTry ok, r, q⟩
end
end Kw

/-! text K10 -/
/-! My layer, part 10: enumerate of a tuple, tuple * 0, 1, tuple[::-1], a name that is one of two defs. -/
namespace Kw
open PySem PySem.Spec PyProof.Rows L2 PySem.Calls
open AutoSeq1 (wpAny_loadPart')

theorem enum_newT (a : Addr) (its : Array Value) :
    Meets (Builtin.«enumerate.__new__» ⟨[.type "enumerate", .ref a], []⟩) (fun _ R z => z.heap.IsTuple a its ∧
      R (.ok (.ret (.ref (z.heap.push { cls := .type "tuple_iterator", data := .fields #[.ref a, .int 0 0] }).objs.size)))
        { z with heap := (z.heap.push { cls := .type "tuple_iterator", data := .fields #[.ref a, .int 0 0] }).push { cls := .type "enumerate", data := .fields #[.none, .bool false, .ref z.heap.objs.size, rawInt 0, .none, .none] } }) :=
  .of_wp fun prog w A R z h => by
    obtain ⟨hp, g, d, tk, os⟩ := z; obtain ⟨hl, h⟩ := h
    have hsub := sub_enumerate
    have q1 : ∀ {A' : Around} {E : Value → Shared → Prop} {Q : Value → Shared → Prop}, Q (.ref hp.objs.size) ⟨hp.push { cls := .type "tuple_iterator", data := .fields #[.ref a, .int 0 0] }, g, d, tk, os⟩ → wpAny (model prog w) A' (pyIter (.ref a)) Q E ⟨hp, g, d, tk, os⟩ :=
      fun q => wpAny_pyIter_tuple (s := ⟨hp, g, d, tk, os⟩) hl q
    wp_walk using q1
    refine wpAny_stack_any fun st => wpAny_pure ?_
    split
    · rename_i c _ _ _ _ _
      cases (c == Value.type "enumerate") <;> (wp_walk using q1; exact ⟨_, rfl, h⟩)
    · wp_walk using q1
      exact ⟨_, rfl, h⟩
theorem call_enumT {prog : Program} {w : World} {A : Around} {E : Value → Shared → Prop} {z : Shared} {a : Addr} {its : Array Value} {Q : Value → Shared → Prop} (ht : z.heap.IsTuple a its)
    (h : ∀ h', IsEnum h' (z.heap.objs.size + 1) z.heap.objs.size 0 .none → h'.IsTupleIter z.heap.objs.size a 0 → (∀ b o, z.heap.get? b = some o → h'.get? b = some o) → Q (.ref (z.heap.objs.size + 1)) { z with heap := h' }) :
    wpAny (model prog w) A (call (.type "enumerate") [.ref a]) Q E z := by
  refine callType_new F.called_enumerate (by decide) (F.typeCall_enumerate_1 _) (F.newCall_enumerate_1 _) (fun obj => F.args_object_init_2 obj _) F.entry_enumerate_new (enum_newT a its) ⟨ht, ?_⟩
  have hz : (z.heap.push { cls := .type "tuple_iterator", data := .fields #[.ref a, .int 0 0] }).objs.size = z.heap.objs.size + 1 := Heap.size_push ..
  show _ ∧ _
  rw [hz]
  have he := Heap.get?_push_size (z.heap.push { cls := .type "tuple_iterator", data := .fields #[.ref a, .int 0 0] }) (o := { cls := .type "enumerate", data := .fields #[.none, .bool false, .ref z.heap.objs.size, rawInt 0, .none, .none] }) rfl
  rw [hz] at he
  exact ⟨⟨_, he, rfl⟩, h _ he ⟨_, Heap.get?_push_of_some _ (Heap.get?_push_size _ rfl), rfl, rfl⟩ fun b o x => Heap.get?_push_of_some _ (Heap.get?_push_of_some _ x)⟩
/-- the tuple at a as it stands, each item in a new pair with its place -/
def IteT (K : PySem.W.Frag) (a : Addr) : It :=
  ⟨fun i H => ∃ (xs : List V) (x : V), SqT K H a xs ∧ xs[i]? = some x, fun i H v H' => ∃ T x, v = .ref T ∧ H T = none ∧ H' = upd H T (.tup [.int (i : Nat), x]) ∧ ∀ xs, SqT K H a xs → xs[i]? = some x, fun i H => ∃ xs : List V, SqT K H a xs ∧ xs.length = i⟩
theorem turn_enumT {P : Program} {w : World} {K : PySem.W.Frag} {elts : List Expr} {kk : Nat} {tpos : Pos} (a e it : Addr) (hai : a ≠ it) (hae : a ≠ e) :
    Turn P w K (.Tuple elts kk tpos) (IteT K a) [e, it] e (fun i h => (∃ old, IsEnum h e it ((i : Nat) : Int) old) ∧ h.IsTupleIter it a i ∧ e ≠ it) where
  mem := List.mem_cons_self
  obj := fun i h st b hb => by
    obtain ⟨⟨old, he⟩, ⟨o, ho, hc, hd⟩, _⟩ := st
    rcases List.mem_cons.mp hb with rfl | hb
    · exact ⟨_, he, fun v q => nomatch q⟩
    · rw [List.mem_singleton.mp hb]
      exact ⟨o, ho, fun v q => by rw [hd] at q; cases q⟩
  keep := fun i h h' ⟨⟨old, he⟩, hi, hne⟩ k => ⟨⟨old, k e (by simp) _ he⟩, hi.at fun o q => k it (by simp) o q, hne⟩
  item := by
    rintro X rfl rfl rfl hc i pins z σ H E I hf ⟨⟨old, he⟩, hit, hne⟩ ⟨xs, x, hq, hx⟩
    obtain ⟨its, rv, p, hz⟩ := I.tuple hq
    obtain ⟨u, hu, ru⟩ := rv.get hx
    have hel : e < z.heap.objs.size := Heap.lt_size he
    have hil : it < z.heap.objs.size := by obtain ⟨_, q, _⟩ := hit; exact Heap.lt_size q
    have hn : i < its.toArray.size := by
      have := (List.getElem?_eq_some_iff.mp hu).1
      simpa using this
    have D := Draws.tuple (prog := X.prog) (w := X.w) (A := X.A.in1) (show X.A.in1.handled = none from I.ok.hd hc) it a hai its.toArray
    refine wpAny_pyNext_enum_itemD D he ⟨hit, p⟩ hn hne (by simp [hne, Ne.symm hae]) fun y h' tk hy ho hst hT hsz hk => ?_
    have ey : y = u := by
      have : its.toArray[i]? = some y := hy
      rw [List.getElem?_toArray, hu] at this
      exact (Option.some.inj this).symm
    subst ey
    refine ⟨_, rfl, wpAny_letOwnedTupleGo_enum (s := { z with heap := h', toks := tk + 1 }) ho fun h'' he' sb => ?_⟩
    have hT2 : h''.get? z.heap.objs.size = some { cls := .type "tuple", data := .seq #[.int i tk, y] } := (sb.2 _ (Nat.ne_of_gt hel)).trans hT
    have new : ObjOk X.prog X.w (upd H z.heap.objs.size (.tup [.int (i : Nat), x])) h'' z.heap.objs.size (.tup [.int (i : Nat), x]) :=
      ⟨by show 2 ≤ sizeLine; decide, [.int i tk, y], .cons ⟨_, rfl⟩ (.cons ru .nil), ⟨_, hT2, rfl, _, rfl⟩⟩
    have I1 := I.turnedNew (t' := tk + 1) (ch := [e, it]) (fun b ob hb q => (sb.2 b (fun z => hb (by simp [z]))).trans (hk b ob (fun z => hb (by simp [z])) (fun z => hb (by simp [z])) q)) hf (Nat.le_refl _) new
    refine ⟨.ref z.heap.objs.size, _, I1, rfl, ⟨_, x, rfl, I.hok.fresh (Nat.le_refl _), rfl, fun ys hy => by rw [I.tuple_inj hy hq]; exact hx⟩, ⟨⟨y, ?_⟩, hst.1.at fun o q => (sb.2 it (Ne.symm hne)).trans q, hne⟩, fun b hb => ?_⟩
    · rw [show ((i + 1 : Nat) : Int) = (i : Int) + 1 by omega]
      exact he'
    · have hb' : b < z.heap.objs.size := by
        rcases List.mem_cons.mp hb with rfl | hb
        · exact hel
        · rw [List.mem_singleton.mp hb]; exact hil
      rw [upd_ne (Nat.ne_of_lt hb')]
      exact (hf b hb).1
  done := by
    rintro X rfl rfl rfl hc i pins z σ H E I hf ⟨⟨old, he⟩, hit, hne⟩ ⟨xs, hq, hx⟩
    obtain ⟨its, rv, p, hz⟩ := I.tuple hq
    have hl : i = its.toArray.size := by rw [List.size_toArray, ← rv.length]; exact hx.symm
    subst hl
    obtain ⟨f0, f1, f2, f3, f4, f5⟩ := hf it (by simp)
    have D := Draws.tuple (prog := X.prog) (w := X.w) (A := X.A.in1) (show X.A.in1.handled = none from I.ok.hd hc) it a hai its.toArray
    exact wpAny_pyNext_enum_endD D he ⟨hit, p⟩ fun h' eb => ⟨rfl, I.turned (t' := z.toks) (fun b o hb q => eb b o hb q) f0 f1 f3 f4 f5⟩
  self := fun A i s Q E st h => let ⟨⟨_, he⟩, _⟩ := st; wpAny_pyIter_enum he h
def iEnumT (K : PySem.W.Frag) (ta : TA) : TI := fun σ H R => ta σ H fun vs H1 => ∃ a xs, vs = [.ref a] ∧ SqT K H1 a xs ∧ R (IteT K a) H1
theorem pi_enumT {X : Cx} {e : Expr} {ta : TA} {p pos tpos : Pos} {elts : List Expr} {kk : Nat} (hg : Gl X "enumerate") (hm : X.mg "enumerate" = none) (ha : PA X [e] ta) (hs : starEach [e] X.env = [(false, eval e X.env)] := by rfl) :
    PI X (.Tuple elts kk tpos) (.Call (.Name "enumerate" p) [e] [] pos) (iEnumT X.K ta) := by
  refine ⟨fun pins s σ H R I h => Call_ (ld_blt I hg hm boot_enumerate (PyProof.Rows.callWith_type1 (thn (ha.run pos pins s σ H _ I h) ?_) hs rfl))⟩
  rintro us s1 ⟨vs, H1, I1, r1, a, xs, rfl, hq, q⟩
  obtain ⟨u, rfl, ru⟩ := vals1 r1
  cases ru
  obtain ⟨its, rv, p', hz⟩ := I1.tuple hq
  have hat : a < s1.heap.objs.size := by
    obtain ⟨o, ho, _⟩ := p'
    exact Heap.lt_size ho
  refine call_enumT p' fun h' he hit hk => wpAny_pyIter_enum he ⟨s1.heap.objs.size + 1, [s1.heap.objs.size + 1, s1.heap.objs.size], _, _, H1, rfl, I1.kept (t' := s1.toks) hk,
    turn_enumT a (s1.heap.objs.size + 1) s1.heap.objs.size (Nat.ne_of_lt hat) (Nat.ne_of_lt (Nat.lt_succ_of_lt hat)), ⟨⟨.none, he⟩, hit, Nat.succ_ne_self _⟩, fun b hb => ?_, q⟩
  have hle : s1.heap.objs.size ≤ b := by
    rcases List.mem_cons.mp hb with rfl | hb
    · exact Nat.le_succ _
    · rw [List.mem_singleton.mp hb]; exact Nat.le_refl _
  exact I1.fpOk hle (I1.hok.fresh hle)
section
variable {C : Ct} {G G' H H' : Hp} {σ : L2.St} {Γ : List SV} {Δ : Dl} {ta te : TE} {d : PyData} {ds es : List PyData}
/-- enumerate(t) -/
def enumD (ds : List PyData) : List PyData := (List.range ds.length).zipWith (fun i d => .tuple [.int (i : Nat), d]) ds
theorem enumD_at {i : Nat} {d : PyData} (h : (enumD ds)[i]? = some d) : ∃ e, ds[i]? = some e ∧ d = .tuple [.int (i : Nat), e] := by
  unfold enumD at h
  rw [List.getElem?_zipWith] at h
  cases e : ds[i]? with
  | none =>
    rw [e] at h
    cases q : (List.range ds.length)[i]? <;> rw [q] at h <;> cases h
  | some x =>
    have hi := (List.getElem?_eq_some_iff.mp e).1
    rw [List.getElem?_range hi, e] at h
    exact ⟨x, rfl, (Option.some.inj h).symm⟩
theorem enumD_len : (enumD ds).length = ds.length := by simp [enumD]
theorem wd_enumT {ta : TA} (h : EVA C Γ Δ ta [.tuple ds]) : WD C Γ Δ (iEnumT C.K ta) (enumD ds) := fun G H σ S R q => h G H σ S _ fun vs G1 H1 s1 S1 r1 => by
  cases r1 with
  | cons a b =>
    cases b
    cases a with
    | @tup a xs _ sa da =>
      refine ⟨a, xs, rfl, sqT_mono S1.g sa, q _ [(a, .hd (.tuple ds))] G1 H1 s1 (S1.hold1 (.tup sa da)) ?_⟩
      have get : ∀ {G H σ Γ Δ}, ST C G H σ Γ (Δ ++ [(a, MO.hd (.tuple ds))]) → ∃ ys, SqT C.K H a ys ∧ DpAll C.K G ys ds := fun {G H σ Γ Δ} S => by
        have z := held S (d := .tuple ds) (p := a) (by simp)
        cases z with
        | tup a b => exact ⟨_, sqT_mono S.g a, b⟩
      refine ⟨fun i G H σ Γ Δ hi S => ?_, fun G H σ Γ Δ S => ?_, fun i G H σ Γ Δ x H' d S e y => ?_⟩
      · obtain ⟨ys, q1, q2⟩ := get S
        rw [enumD_len] at hi
        obtain ⟨v, e1, _⟩ := dpAll_get q2 (List.getElem?_eq_getElem hi)
        exact ⟨ys, v, q1, e1⟩
      · obtain ⟨ys, q1, q2⟩ := get S
        exact ⟨ys, q1, (dpAll_len q2).trans enumD_len.symm⟩
      · obtain ⟨ys, q1, q2⟩ := get S
        obtain ⟨T, x1, rfl, hT, rfl, hx⟩ := y
        obtain ⟨e1, e2, rfl⟩ := enumD_at e
        obtain ⟨v1, f1, f2⟩ := dpAll_get q2 e2
        rw [hx ys q1] at f1
        cases f1
        have n : G T = none := S.g.free hT
        exact ⟨_, same_new n, S.new hT, .tup (SqT.of upd_same) (.cons (.int _) (.cons (dp_mono (same_new n) _ _ f2) .nil))⟩
end
end Kw

/-! text K11 -/
/-! My layer, part 11: tuple * 0, 1; tuple[::-1]; list * int; pairs stored at once; a name that is one of two defs. -/
namespace Kw
open PySem PySem.Spec PyProof.Rows L2 PySem.Calls
open AutoSeq1 (wpAny_loadPart')

theorem tuple_mul0 (l : Addr) (items : Array Value) (n : Nat) (dd : Option Addr) (sl : Array (Option Value)) (u : Tok) (hne : items.isEmpty = false) :
    Meets (Builtin.«tuple.__mul__» ⟨[.ref l, .int 0 u], []⟩) (fun _ R s => s.heap.get? l = some { cls := .type "tuple", dict := dd, data := .seq items n, slots := sl } ∧
      R (.ok (.ret (Value.ref s.heap.objs.size))) { s with heap := s.heap.push { cls := Value.type "tuple", data := Data.seq #[] }, toks := s.toks }) :=
  .of_wp fun prog w A R s h => by
    obtain ⟨hp, g, d, tk, os⟩ := s
    obtain ⟨hl, h⟩ := h
    have f1 := AutoSeq1.idx_int
    have c0 : (decide ((0 : Int) < -(2 ^ 63)) || decide ((0 : Int) ≥ 2 ^ 63)) = false := by decide
    have c1 : (items.isEmpty || (0 : Int) == 1) = false := by rw [hne]; rfl
    wp_walk using wpAny_loadPart' hl
    repeat (first
      | (refine wpAny_ite_false (decide_eq_false (by rw [c0]; exact Bool.false_ne_true)) ?_; wp_walk using wpAny_loadPart' hl)
      | (refine wpAny_ite_false (decide_eq_false (by rw [c1]; exact Bool.false_ne_true)) ?_; wp_walk using wpAny_loadPart' hl))
    exact ⟨_, rfl, h⟩
theorem tuple_mul1 (l : Addr) (items : Array Value) (n : Nat) (dd : Option Addr) (sl : Array (Option Value)) (u : Tok) :
    Meets (Builtin.«tuple.__mul__» ⟨[.ref l, .int 1 u], []⟩) (fun _ R s => s.heap.get? l = some { cls := .type "tuple", dict := dd, data := .seq items n, slots := sl } ∧ R (.ok (.ret (Value.ref l))) s) :=
  .of_wp fun prog w A R s h => by
    obtain ⟨hp, g, d, tk, os⟩ := s
    obtain ⟨hl, h⟩ := h
    have f1 := AutoSeq1.idx_int
    have c0 : (decide ((1 : Int) < -(2 ^ 63)) || decide ((1 : Int) ≥ 2 ^ 63)) = false := by decide
    have c1 : (items.isEmpty || (1 : Int) == 1) = true := by cases items.isEmpty <;> rfl
    wp_walk using wpAny_loadPart' hl
    repeat (first
      | (refine wpAny_ite_false (decide_eq_false (by rw [c0]; exact Bool.false_ne_true)) ?_; wp_walk using wpAny_loadPart' hl)
      | (refine wpAny_ite_true (decide_eq_true (by rw [c1])) ?_; wp_walk using wpAny_loadPart' hl))
    exact ⟨_, rfl, h⟩
/-- t * k, t no empty tuple -/
def rRepA (K : PySem.W.Frag) : R2 := fun x y H Q => ∃ l k xs, x = .ref l ∧ y = .int k ∧ SqT K H l xs ∧ xs ≠ [] ∧ 0 ≤ k ∧ k ≤ 1000 ∧ xs.length ≤ 1000 ∧ (k = 1 → Q (.ref l) H) ∧ (k ≠ 1 → ∀ p, H p = none → Q (.ref p) (upd H p (.tup (List.replicate k.toNat xs).flatten)))
section
variable {X : Cx}
theorem op_repA : OpR X (binaryOp .Mult) (rRepA X.K) := by
  intro pins s σ H x y v u Q I rx ry h
  obtain ⟨l, k, xs, rfl, rfl, hT, hne, h1, h2, hz, q1, q2⟩ := h
  by_cases h3 : 2 ≤ k
  · exact op_repT pins s σ H _ _ v u Q I rx ry ⟨l, k, xs, rfl, rfl, hT, hne, h3, h2, hz, q2 (by omega)⟩
  cases rx
  obtain ⟨t, rfl⟩ := ry
  obtain ⟨its, r, ⟨⟨cls, dd, data, sl⟩, ho, hc, n, hd⟩, hs⟩ := I.tuple hT
  simp only at hc hd
  subst hc hd
  have hi : its.toArray.isEmpty = false := by
    cases its with
    | nil => exact absurd (List.eq_nil_of_length_eq_zero r.length) hne
    | cons a b => rfl
  have hk : k = 0 ∨ k = 1 := by omega
  rcases hk with rfl | rfl
  · refine wpAny_binaryOp_repeat_ref (T := "tuple") (U := "int") (by decide) ⟨_, ho, rfl⟩ (fun s' => typeIs_int s' 0 t) noFill_tuple_mul F.fills_int_mul F.slot_int_rmul repeat_tuple F.slot_int_index.lookup
      (call_meets F.slot_int_rmul (typeIs_int s 0 t) F.entry_int_rmul (F.args_int_rmul_2 _ _) (int_rmul_tuple 0 t l its.toArray n dd sl) ⟨ho, rfl, ⟨_, ho, rfl⟩, call_meets F.slot_tuple_mul ⟨_, ho, rfl⟩ F.entry_tuple_mul (F.args_tuple_mul_2 _ _) (tuple_mul0 l its.toArray n dd sl t hi) ⟨ho, ?_⟩⟩)
    refine ⟨.ref s.heap.objs.size, _, I.laid (t' := s.toks) (o := .tup []) (fun b ob q => Heap.get?_push_of_some _ q) (Nat.le_refl _) ⟨Nat.zero_le _, [], .nil, IsTup.new _ _⟩, rfl, q2 (by decide) _ (I.hok.fresh (Nat.le_refl _))⟩
  · refine wpAny_binaryOp_repeat_ref (T := "tuple") (U := "int") (by decide) ⟨_, ho, rfl⟩ (fun s' => typeIs_int s' 1 t) noFill_tuple_mul F.fills_int_mul F.slot_int_rmul repeat_tuple F.slot_int_index.lookup
      (call_meets F.slot_int_rmul (typeIs_int s 1 t) F.entry_int_rmul (F.args_int_rmul_2 _ _) (int_rmul_tuple 1 t l its.toArray n dd sl) ⟨ho, rfl, ⟨_, ho, rfl⟩, call_meets F.slot_tuple_mul ⟨_, ho, rfl⟩ F.entry_tuple_mul (F.args_tuple_mul_2 _ _) (tuple_mul1 l its.toArray n dd sl t) ⟨ho, ?_⟩⟩)
    exact ⟨.ref l, H, I, rfl, q1 rfl⟩
end

/-! ### t[::-1] -/
theorem rev_places (n : Nat) : Builtin.Slice.sliceAdjust none none (-1) (n : Int) = ((n : Int) - 1, -1) ∧ Builtin.Slice.slicePlaces ((n : Int) - 1) (-1) (-1) = n := by
  constructor
  · unfold Builtin.Slice.sliceAdjust
    simp
  · unfold Builtin.Slice.slicePlaces
    rw [if_neg (by decide)]
    by_cases h : n = 0
    · subst h; rfl
    · rw [if_pos (by omega)]
      have : ((n : Int) - 1 - -1 - 1) / (- -1) + 1 = (n : Int) := by
        have e : (- -1 : Int) = 1 := rfl
        rw [e, Int.ediv_one]; omega
      rw [this]; rfl
theorem fm_map {α β : Type} (f : α → Option β) (g : α → β) : ∀ l : List α, (∀ k ∈ l, f k = some (g k)) → l.filterMap f = l.map g
  | [], _ => rfl
  | k :: l, h => by
    rw [List.filterMap_cons, h k List.mem_cons_self, List.map_cons, fm_map f g l fun j hj => h j (List.mem_cons_of_mem _ hj)]
theorem rev_pick (xs : Array Value) : ((List.range xs.size).filterMap fun (k : Nat) => xs[(((xs.size : Int) - 1) + (k : Int) * -1).toNat]?).toArray = xs.toList.reverse.toArray := by
  congr 1
  refine List.ext_getElem? fun i => ?_
  have e : (List.range xs.size).filterMap (fun (k : Nat) => xs[(((xs.size : Int) - 1) + (k : Int) * -1).toNat]?) = (List.range xs.size).map fun k => xs.toList.reverse[k]?.getD .none := by
    refine fm_map _ _ _ fun k hk => ?_
    have hk' : k < xs.size := by simpa using hk
    have e1 : (((xs.size : Int) - 1) + (k : Int) * -1).toNat = xs.size - 1 - k := by omega
    rw [e1, List.getElem?_reverse (by simpa using hk')]
    have hlt : xs.size - 1 - k < xs.size := by omega
    simp [hlt]
  rw [e, List.getElem?_map]
  by_cases hi : i < xs.size
  · rw [List.getElem?_range hi]
    have hr : i < xs.toList.reverse.length := by simpa using hi
    rw [List.getElem?_eq_getElem hr]
    simp [hi]
  · rw [List.getElem?_eq_none (by simpa using hi), List.getElem?_eq_none (by simpa using hi)]
    rfl
theorem getItem_tuple_rev {prog : Program} {w : World} {A : Around} {E : Value → Shared → Prop} {s : Shared} {t sl : Addr} {items : Array Value} {vs : Value} {Q : Value → Shared → Prop} (ht : IsTup s.heap t items) (hs : s.heap.IsSliceOf sl .none .none vs) (ps : IsPart vs (some (-1)))
    (h : Q (.ref s.heap.objs.size) { s with heap := s.heap.push { cls := .type "tuple", data := .seq items.toList.reverse.toArray } }) (hz : items.size ≤ sizeLine) : wpAny (model prog w) A (getItem (.ref t) (.ref sl)) Q E s := by
  obtain ⟨os, hos, hcs, hds⟩ := id hs
  have hTs : s.TypeIs (.ref sl) "slice" := ⟨os, hos, hcs⟩
  have htake : sizeOk (.seq items.toList.reverse.toArray) := by
    show items.toList.reverse.toArray.size ≤ sizeLine
    simpa using hz
  have app : ∀ {Q : Int × Int × Nat → Shared → Prop}, Q ((items.size : Int) - 1, -1, items.size) s → wpAny (model prog w) A.in1 (Builtin.Slice.sliceApplied (.ref sl) (pure (items.size : Int))) Q E s := fun {Q} q => by
    unfold Builtin.Slice.sliceApplied Builtin.Slice.sliceFields
    refine wpAny_bind (wpAny_bind (wpAny_field hos hds (x := .none) rfl (wpAny_bind (wpAny_field hos hds (x := .none) rfl (wpAny_bind (wpAny_field hos hds (x := vs) rfl (wpAny_pure ?_)))))))
    refine wpAny_bind (HT.slicePart_ ps ?_)
    show wpAny _ _ (if ((-1 : Int) == 0) = true then _ else _) _ _ s
    rw [if_neg (by decide)]
    refine wpAny_bind (PyProof.Rows.slicePart_none (wpAny_bind (PyProof.Rows.slicePart_none (wpAny_bind (wpAny_pure ?_)))))
    show wpAny _ _ (match Builtin.Slice.sliceAdjust none none (-1) (items.size : Int) with | (lo, hi) => pure (lo, (-1 : Int), Builtin.Slice.slicePlaces lo hi (-1))) _ _ s
    rw [(rev_places items.size).1]
    show wpAny _ _ (pure ((items.size : Int) - 1, (-1 : Int), Builtin.Slice.slicePlaces ((items.size : Int) - 1) (-1) (-1))) _ _ s
    rw [(rev_places items.size).2]
    exact wpAny_pure q
  unfold getItem
  try with_reducible refine wpAny_holding ?_
  first | refine wpAny_bind (wpAny_pure ?_) | skip
  refine wpAny_bind (wpAny_sequenceKey ht.typeIs (by decide) (wpAny_bind (wpAny_callSpecial?_slot (name := Str.ofString "__getitem__") ht.typeIs PyProof.Rows.slot_tuple_getitem
    (wpAny_call_entry PyProof.Rows.slot_tuple_getitem ht.typeIs entry_tuple_getitem ?_ (args_tuple_getitem _ _)))))
  show wpAny _ _ (Builtin.Tuple.tupleItemsOf (.ref t) >>= _) _ _ s
  refine wpAny_bind (PyProof.Rows.tupleItemsOf_ ht (wpAny_bind (wpAny_typeOf hTs ?_)))
  rw [if_pos (by decide)]
  refine wpAny_bind (app ?_)
  have hno : ¬ ((((items.size : Int) - 1) == 0 && (-1 : Int) == 1 && items.size == items.size) = true) := by
    rw [show ((-1 : Int) == 1) = false from rfl, Bool.and_false, Bool.false_and]
    exact Bool.false_ne_true
  show wpAny _ _ (if (((items.size : Int) - 1) == 0 && (-1 : Int) == 1 && items.size == items.size) = true then _ else _) _ _ s
  rw [if_neg hno, rev_pick]
  first
    | exact wpAny_bind (m := Builtin.Tuple.tupleExact _) (wpAny_newObj_type (wpAny_pure ⟨_, rfl, wpAny_pure h⟩) htake)
    | exact wpAny_bind (m := Builtin.Tuple.tupleExact _) (wpAny_newObj_type (wpAny_bind (wpAny_pure (wpAny_pure ⟨_, rfl, wpAny_pure h⟩))) htake)
    | exact wpAny_bind (wpAny_bind (m := Builtin.Tuple.tupleExact _) (wpAny_newObj_type (wpAny_pure (wpAny_pure ⟨_, rfl, wpAny_pure h⟩)) htake))
    | exact wpAny_bind (wpAny_bind (m := Builtin.Tuple.tupleExact _) (wpAny_newObj_type (wpAny_pure ⟨_, rfl, wpAny_pure h⟩) htake))
def tRevT (K : PySem.W.Frag) (te : TE) : TE := fun σ H Q => te σ H fun x H1 => ∃ a xs, x = .ref a ∧ SqT K H1 a xs ∧ ∀ p, H1 p = none → Q (.ref p) (upd H1 p (.tup xs.reverse))
section
variable {X : Cx}
theorem pe_revT {e : Expr} {te : TE} {k : Nat} {p1 p2 p3 pos : Pos} (he : PE X e te) : PE X (.Subscript e (.Slice none none (some (.UnaryOp .USub (.Constant (.int 1) k p1) p2)) p3) pos) (tRevT X.K te) := by
  refine ⟨fun pins s σ H Q I h => Subscript_ (thn (he.run pins s σ H _ I h) ?_)⟩
  rintro v s1 ⟨x, H1, I1, r1, a, xs, rfl, hx, q⟩
  cases r1
  refine wpAny_Slice (thn (po_none.run pins s1 σ H1 (fun o J => o = none ∧ J = H1) I1 ⟨rfl, rfl⟩) ?_)
  rintro vl s2 ⟨_, J2, I2, pl, rfl, e2⟩
  rw [e2] at I2
  refine thn (po_none.run pins s2 σ _ (fun o J => o = none ∧ J = H1) I2 ⟨rfl, rfl⟩) ?_
  rintro vu s3 ⟨_, J3, I3, pu, rfl, e3⟩
  rw [e3] at I3
  have hst : PO X (some (.UnaryOp .USub (.Constant (.int 1) k p1) p2)) (tPart (tUn (rU fun i => .int (-i)) (tC (.int 1)))) := po_some (pe_un un_neg pe_int)
  refine thn (hst.run pins s3 σ _ (fun o J => o = some (-1) ∧ J = H1) I3 ⟨1, rfl, -1, rfl, rfl, rfl⟩) ?_
  rintro vs s4 ⟨_, J4, I4, ps, rfl, e4⟩
  rw [e4] at I4
  cases pl
  cases pu
  have I5 : Inv X pins σ H1 { s4 with heap := s4.heap.push { cls := .type "slice", data := .fields #[.none, .none, vs] } } := I4.kept (t' := s4.toks) fun b ob q => Heap.get?_push_of_some _ q
  obtain ⟨its, r, ht, hz⟩ := I5.tuple hx
  show wpAny (model X.prog X.w) X.A (subscriptTail e (.Slice none none (some (.UnaryOp .USub (.Constant (.int 1) k p1) p2)) p3) (.ref a) (.ref s4.heap.objs.size)) (EP X pins σ Q) X.xe { s4 with heap := s4.heap.push { cls := .type "slice", data := .fields #[.none, .none, vs] } }
  refine tail_any (ops := [.ref a, .ref s4.heap.objs.size]) ht.typeIs (PyProof.Rows.slot_tuple_getitem.lookup) ?_ (by with_unfolding_all rfl)
  have hlen := r.length
  refine getItem_tuple_rev ht (Heap.IsSliceOf.new _ .none .none vs) ps ?_ (by rw [List.size_toArray]; omega)
  refine ⟨.ref _, _, I5.laid (t' := s4.toks) (o := .tup xs.reverse) (fun b ob q => Heap.get?_push_of_some _ q) (Nat.le_refl _) ⟨by rw [List.length_reverse]; exact hz, _, r.reverse, IsTup.new _ _⟩, rfl, q _ (I5.hok.fresh (Nat.le_refl _))⟩
end
end Kw

/-! text K12 -/
/-! My layer, part 12: one reading a sign, whatever the operands are; what it evaluates to. -/
namespace Kw
open PySem PySem.Spec PyProof.Rows L2 PySem.Calls

/-! ### the readings -/
def uOr (a b : R2) : R2 := fun x y H Q => a x y H Q ∨ b x y H Q
theorem OpR.or {X : Cx} {f : Value → Value → Sem Value} {a b : R2} (h : OpR X f a) (g : OpR X f b) : OpR X f (uOr a b) := fun pins s σ H x y v u Q I rx ry z =>
  z.elim (h pins s σ H x y v u Q I rx ry) (g pins s σ H x y v u Q I rx ry)
abbrev iAdd : R2 := rI0 fun i j => .int (i + j)
abbrev iSub : R2 := rI0 fun i j => .int (i - j)
abbrev iMul : R2 := rI CMul fun i j => .int (i * j)
abbrev iMod : R2 := rI (fun _ j => 0 < j) fun i j => .int (i % j)
abbrev iDiv : R2 := rI CDiv fun i j => .int (i / j)
abbrev iLt : R2 := rI0 fun i j => .bl (decide (i < j))
abbrev iLe : R2 := rI0 fun i j => .bl (decide (i ≤ j))
abbrev iGt : R2 := rI0 fun i j => .bl (decide (j < i))
abbrev iGe : R2 := rI0 fun i j => .bl (decide (j ≤ i))
abbrev isN : R2 := fun x y H Q => y = .non ∧ Q (.bl (decide (x = .non))) H
abbrev notN : R2 := fun x y H Q => y = .non ∧ Q (.bl (!decide (x = .non))) H
def uAdd (K : PySem.W.Frag) : R2 := uOr iAdd (uOr (rCatA K) rCat)
def uMul (K : PySem.W.Frag) : R2 := uOr iMul (uOr (rRepA K) rRep)
def uLt (K : PySem.W.Frag) : R2 := uOr iLt (rLtD K)
def uIn (P : Program) (w : World) (K : PySem.W.Frag) : R2 := uOr (rInT K false) (rInN P w K false)
def uNin (P : Program) (w : World) (K : PySem.W.Frag) : R2 := uOr (rInT K true) (rInN P w K true)
def uIx (P : Program) (w : World) (K : PySem.W.Frag) : R2 := fun x y H Q => rIxT K x y H Q ∨ (rIxL K x y H Q ∨ rGetN P w K x y H Q)
def uSl (K : PySem.W.Frag) : V → Option Int → Option Int → Hp → VK → Prop := fun x lo hi H Q => rSlA K x lo hi H Q ∨ rSlL K x lo hi H Q
def uLen (P : Program) (w : World) (K : PySem.W.Frag) : List V → Hp → VK → Prop := fun xs H Q => rLen K xs H Q ∨ rLenN P w K xs H Q
def uLst (P : Program) (w : World) (K : PySem.W.Frag) : List V → Hp → VK → Prop := fun xs H Q => rListOf K xs H Q ∨ rListN P w K xs H Q
def uIt (K : PySem.W.Frag) (te : TE) : TI := fun σ H R => iList K te σ H R ∨ iTup K te σ H R
abbrev rMin2 : List V → Hp → VK → Prop := fun xs H Q => ∃ i j, xs = [.int i, .int j] ∧ Q (.int (if j < i then j else i)) H
abbrev rInt1 : List V → Hp → VK → Prop := fun xs H Q => (∃ i, xs = [.int i] ∧ Q (.int i) H) ∨ ∃ k, xs = [.bl k] ∧ Q (.int (if k then 1 else 0)) H
section
variable {X : Cx}
theorem oAdd : OpR X (binaryOp .Add) (uAdd X.K) := OpR.or op_add (OpR.or op_catA op_cat)
theorem oMul : OpR X (binaryOp .Mult) (uMul X.K) := OpR.or op_mul (OpR.or op_repA op_rep)
theorem oLt (hu : X.A.units + 65 < cLine) : OpR X (compareOp .Lt) (uLt X.K) := OpR.or op_lt (op_ltD (by omega))
theorem oIn (hu : X.A.units + 65 < cLine) : OpR X (compareOp .In) (uIn X.prog X.w X.K) := OpR.or (op_inT hu) (op_inN (by omega))
theorem oNin (hu : X.A.units + 65 < cLine) : OpR X (compareOp .NotIn) (uNin X.prog X.w X.K) := OpR.or (op_notInT hu) (op_notInN (by omega))
theorem oEq (hu : X.A.units + 65 < cLine) : OpR X (compareOp .Eq) (rEqD X.K) := op_eqD (by omega)
theorem oNe (hu : X.A.units + 65 < cLine) : OpR X (compareOp .NotEq) (rNeD X.K) := op_neD (by omega)
theorem oIx (hu : X.A.units + 65 < cLine) : IxR X (uIx X.prog X.w X.K) := ix_tup.or (ix_list.or (ix_N (by omega)))
theorem oSl : SlR X (uSl X.K) := sl_tupA.or sl_list
theorem CallR.or {f : Value} {a b : List V → Hp → VK → Prop} (h : CallR X f a) (g : CallR X f b) : CallR X f (fun xs H Q => a xs H Q ∨ b xs H Q) := fun pins s σ H xs us Q I r z =>
  z.elim (h pins s σ H xs us Q I r) (g pins s σ H xs us Q I r)
theorem oLen (hu : X.A.units + 65 < cLine) : CallR X (.builtin "len") (uLen X.prog X.w X.K) := CallR.or call_len_seq (cr_lenN (by omega))
theorem oLst (hc : X.calm = true) : CallR X (.type "list") (uLst X.prog X.w X.K) := CallR.or call_list_of (cr_listN hc)
theorem pi_it {tg e : Expr} {te : TE} (h : PE X e te) : PI X tg e (uIt X.K te) := ⟨fun pins s σ H R I z => z.elim ((pi_list h).run pins s σ H R I) ((pi_tup h).run pins s σ H R I)⟩
/-- {} -/
def tDisp0 (P : Program) (w : World) : TE := fun _ H Q => ∀ p, H p = none → (p == sysModules) = false → Q (.ref p) (upd H p (DN P w p []))
theorem pe_disp0 {pos : Pos} : PE X (.Dict [] [] pos) (tDisp0 X.prog X.w) := by
  refine ⟨fun pins s σ H Q I h => ?_⟩
  have z := h s.heap.objs.size (I.hok.fresh (Nat.le_refl _)) (dn_sys I)
  exact wpAny_Dict_empty ⟨.ref _, _, dn_new I, rfl, z⟩
/-- a local name that holds one of two defs -/
def tCallU (i : Nat) (f1 f2 : Addr) (sp1 sp2 : Sp) (W : WX) (t : TA) : TE := fun σ H Q => (σ[i]? = some (some (.ref f1)) ∧ t σ H fun vs H1 => sp1 vs H1 Q (WE W σ)) ∨ (σ[i]? = some (some (.ref f2)) ∧ t σ H fun vs H1 => sp2 vs H1 Q (WE W σ))
structure ClA (P : Program) (w : World) (K : PySem.W.Frag) (mg : Str → Option Value) (base : Heap) (k : Nat) (x : Str) (f : Addr) (sp : Sp) : Prop where
  ex : ∃ (fd : FuncData) (ps : List Str), FnG P w K mg base k f fd ps sp ∧ mg x = some (.ref f) ∧ PySem.W.keepIn K (.ref f) = true ∧ Binds K fd ps []
theorem pe_cu {i k : Nat} {f1 f2 : Addr} {sp1 sp2 : Sp} {x x1 x2 : Str} {W : WX} {e : Expr} {es : List Expr} {t : TA} {p pos : Pos} (c1 : ClA X.prog X.w X.K X.mg X.base k x1 f1 sp1) (c2 : ClA X.prog X.w X.K X.mg X.base k x2 f2 sp2) (hr : Room k X.A) (hgd : X.A.guards = some []) (tk : Takes X W)
    (hN : X.N[i]? = some x) (hv : Vis X.env.scope x) (ha : PA X (e :: es) t) (hd : (x == ("__debug__" : Str)) = false := by decide) (hcd : (x == ("__classdict__" : Str)) = false := by decide)
    (he : starEach (e :: es) X.env = (false, eval e X.env) :: starEach es X.env := by rfl) (hpl : (backTo pos (starEach es X.env)).any (·.1) = false := by rfl) : PE X (.Call (.Name x p) (e :: es) [] pos) (tCallU i f1 f2 sp1 sp2 W t) := by
  refine ⟨fun pins s σ H Q I h => ?_⟩
  have one : ∀ {f : Addr} {sp : Sp} {y : Str}, ClA X.prog X.w X.K X.mg X.base k y f sp → σ[i]? = some (some (.ref f)) → (t σ H fun vs H1 => sp vs H1 Q (WE W σ)) → wpAny (model X.prog X.w) X.A (eval (.Call (.Name x p) (e :: es) [] pos) X.env) (EP X pins σ Q) X.xe s := fun {f sp y} c hs ht => by
    obtain ⟨fd, ps, F, -, kp, b⟩ := c.ex
    refine wpAny_Call_Name_kw (thn ((pe_var (pos := p) hN hv hd hcd).run pins s σ H (fun v J => v = .ref f ∧ J = H) I ⟨.ref f, hs, rfl, rfl⟩) ?_)
    rintro u s1 ⟨v, J, I1, r1, rfl, e1⟩
    cases r1
    rw [e1] at I1
    exact PySem.W.callWith_K (h₀ := X.base) I.ok.mod.kin kp (thn (ha.run pos pins s1 σ _ _ I1 ht) fun us s2 ⟨vs, H2, I2, r, q⟩ => ⟨I2.kIn, run_g F hr hgd b tk I2 r q⟩) he hpl
  exact h.elim (fun z => one c1 z.1 z.2) (fun z => one c2 z.1 z.2)
end

/-! ### what they evaluate to -/
section
variable {C : Ct} {G G' H H' : Hp} {σ : L2.St} {Γ : List SV} {Δ : Dl}
variable {ta tb tc te : TE} {da db d : PyData} {ds es : List PyData} {t u : TT} {b c : Bool} {i j : Int}
theorem opd_l {r r' : R2} (h : OpD C Γ Δ r da db d) : OpD C Γ Δ (uOr r r') da db d := fun G H σ S x y rx ry Q q => .inl (h G H σ S x y rx ry Q q)
theorem opd_r {r r' : R2} (h : OpD C Γ Δ r' da db d) : OpD C Γ Δ (uOr r r') da db d := fun G H σ S x y rx ry Q q => .inr (h G H σ S x y rx ry Q q)
theorem e_add (ha : EV C Γ Δ ta (.int i)) (hb : EV C Γ Δ tb (.int j)) : EV C Γ Δ (tOp (uAdd C.K) ta tb) (.int (i + j)) := ev_op ha hb (opd_l (op_ints fun _ => .int _))
theorem e_mul (ha : EV C Γ Δ ta (.int i)) (hb : EV C Γ Δ tb (.int j)) (hc : CMul i j) : EV C Γ Δ (tOp (uMul C.K) ta tb) (.int (i * j)) := ev_op ha hb (opd_l (op_intsC hc fun _ => .int _))
theorem e_sub (ha : EV C Γ Δ ta (.int i)) (hb : EV C Γ Δ tb (.int j)) : EV C Γ Δ (tOp iSub ta tb) (.int (i - j)) := ev_sub ha hb
theorem e_div (ha : EV C Γ Δ ta (.int i)) (hb : EV C Γ Δ tb (.int j)) (hc : CDiv i j) : EV C Γ Δ (tOp iDiv ta tb) (.int (i / j)) := ev_op ha hb (op_intsC hc fun _ => .int _)
theorem e_lt (ha : EV C Γ Δ ta (.int i)) (hb : EV C Γ Δ tb (.int j)) : EV C Γ Δ (tOp (uLt C.K) ta tb) (.bool (decide (i < j))) := ev_op ha hb (opd_l (op_ints fun _ => .bl _))
theorem e_ltD (ha : EV C Γ Δ ta da) (hb : EV C Γ Δ tb db) (h1 : PySem.W.alike da db = true) (h2 : da ≠ .none) (h3 : da.depth ≤ 60) : EV C Γ Δ (tOp (uLt C.K) ta tb) (.bool (PySem.W.dataLt da db)) := ev_op ha hb (opd_r (.pure fun G H x y s rx ry Q q =>
  ⟨da, db, dp_mono s _ _ rx, dp_mono s _ _ ry, h1, h2, h3, q _ (.bl _)⟩))
theorem e_cat (ha : EV C Γ Δ ta (.tuple ds)) (hb : EV C Γ Δ tb (.tuple es)) (hl : ds.length + es.length ≤ 1000000) : EV C Γ Δ (tOp (uAdd C.K) ta tb) (.tuple (ds ++ es)) := ev_op ha hb (opd_r (opd_l fun G H σ S x y rx ry Q q => by
  cases rx with
  | tup a1 b1 =>
    cases ry with
    | tup a2 b2 =>
      refine ⟨_, _, _, _, rfl, rfl, sqT_mono S.g a1, sqT_mono S.g a2, by rw [dpAll_len b1, dpAll_len b2, sizeLine_eq]; omega, fun z => ?_, fun _ z => ?_, fun _ _ p hp => ?_⟩
      · subst z
        cases b1
        exact q _ G H (Same.refl _) S (.tup a2 b2)
      · subst z
        cases b2
        exact q _ G H (Same.refl _) S (by rw [List.append_nil]; exact .tup a1 b1)
      · have n : G p = none := S.g.free hp
        exact q _ _ _ (same_new n) (S.new hp) (.tup (SqT.of upd_same) (dpAll_mono (same_new n) _ _ (dpAll_app b1 b2)))))
/-- t * k -/
theorem e_rep (ha : EV C Γ Δ ta (.tuple ds)) (hb : EV C Γ Δ tb (.int j)) (h0 : ds ≠ []) (h1 : 0 ≤ j ∧ j ≤ 1000) (hl : ds.length ≤ 1000) : EV C Γ Δ (tOp (uMul C.K) ta tb) (.tuple (List.replicate j.toNat ds).flatten) := ev_op ha hb (opd_r (opd_l fun G H σ S x y rx ry Q q => by
  cases ry
  cases rx with
  | tup a1 b1 =>
    refine ⟨_, j, _, rfl, rfl, sqT_mono S.g a1, fun z => ?_, h1.1, h1.2, by rw [dpAll_len b1]; exact hl, fun e => ?_, fun _ p hp => ?_⟩
    · have := dpAll_len b1
      rw [z] at this
      exact h0 (List.eq_nil_of_length_eq_zero this.symm)
    · subst e
      refine q _ G H (Same.refl _) S ?_
      show Dp C.K G _ (.tuple (List.replicate 1 ds).flatten)
      rw [List.replicate_one, List.flatten_cons, List.flatten_nil, List.append_nil]
      exact .tup a1 b1
    · have n : G p = none := S.g.free hp
      exact q _ _ _ (same_new n) (S.new hp) (.tup (SqT.of upd_same) (dpAll_mono (same_new n) _ _ (dpAll_rep b1 _)))))
/-- xs + ys: xs new; xs local -/
theorem l_cat (ha : EVL C Γ Δ ta ds) (hb : ∀ p, EVL C Γ ((p, .ml ds) :: Δ) tb es) (hl : ds.length + es.length ≤ 1000000) : EVL C Γ Δ (tOp (uAdd C.K) ta tb) (ds ++ es) := fun G H σ S Q q =>
  ha G H σ S _ fun p1 vs1 G1 H1 s1 n1 a1 S1 e1 r1 => hb p1 G1 H1 σ (S1.loc n1 a1 ⟨vs1, e1, r1⟩) _ fun p2 vs2 G2 H2 s2 n2 a2 S2 e2 r2 => by
    obtain ⟨n, us, eu, ru⟩ := S2.mo p1 (.ml ds) List.mem_cons_self
    refine .inr (.inr ⟨p1, p2, us, vs2, rfl, rfl, eu, e2, by rw [dpAll_len ru, dpAll_len r2, sizeLine_eq]; omega, fun p hp => ?_⟩)
    have S3 := S2.sub (List.sublist_cons_self _ _)
    exact q p _ G2 _ (s1.trans s2) (S3.g.free hp) (S3.apart hp) (S3.new0 hp) upd_same (dpAll_app ru r2)
theorem l_catM {k : Nat} {p1 : Addr} (ha : EVM C Γ Δ ta p1) (hk : Δ[k]? = some (p1, .ml ds)) (hb : EVL C Γ Δ tb es) (hl : ds.length + es.length ≤ 1000000) : EVL C Γ Δ (tOp (uAdd C.K) ta tb) (ds ++ es) := fun G H σ S Q q =>
  ha G H σ S _ fun G1 H1 s1 S1 => hb G1 H1 σ S1 _ fun p2 vs2 G2 H2 s2 n2 a2 S2 e2 r2 => by
    obtain ⟨us, eu, ru⟩ := ml_at S2 hk
    exact .inr (.inr ⟨p1, p2, us, vs2, rfl, rfl, eu, e2, by rw [dpAll_len ru, dpAll_len r2, sizeLine_eq]; omega, fun p hp =>
      q p _ G2 _ (s1.trans s2) (S2.g.free hp) (S2.apart hp) (S2.new0 hp) upd_same (dpAll_app ru r2)⟩)
/-- xs * k, xs new -/
theorem l_rep (ha : EVL C Γ Δ ta ds) (hb : ∀ p, EV C Γ ((p, .ml ds) :: Δ) tb (.int j)) (h1 : 0 ≤ j ∧ j ≤ 1000) (hl : ds.length ≤ 1000) : EVL C Γ Δ (tOp (uMul C.K) ta tb) (List.replicate j.toNat ds).flatten := fun G H σ S Q q =>
  ha G H σ S _ fun p1 vs1 G1 H1 s1 n1 a1 S1 e1 r1 => hb p1 G1 H1 σ (S1.loc n1 a1 ⟨vs1, e1, r1⟩) _ fun v G2 H2 s2 S2 r2 => by
    cases r2
    obtain ⟨us, eu, ru⟩ := ml_at S2 (k := 0) rfl
    have l2 := dpAll_len ru
    refine .inr (.inr ⟨p1, j, us, rfl, rfl, eu, by omega, by omega, ?_, fun p hp => ?_⟩)
    · rw [l2, sizeLine_eq]
      have a1 : ds.length * j.toNat ≤ 1000 * 1000 := Nat.mul_le_mul hl (by omega)
      omega
    · have S3 := S2.sub (List.sublist_cons_self _ _)
      exact q p _ G2 _ (s1.trans s2) (S3.g.free hp) (S3.apart hp) (S3.new0 hp) upd_same (dpAll_rep ru _)
/-- in, not in -/
theorem e_inT {neg : Bool} (ha : EV C Γ Δ ta d) (hb : EV C Γ Δ tb (.tuple ds)) (h1 : SeqAt.shaped d = true) (h2 : SeqAt.shaped (.tuple ds) = true) {r : R2} (hr : r = if neg then uNin C.P C.w C.K else uIn C.P C.w C.K) :
    EV C Γ Δ (tOp r ta tb) (.bool (if neg then !(ds.any fun z => PyData.eqv z d) else ds.any fun z => PyData.eqv z d)) := ev_op ha hb fun G H σ S x y rx ry Q q => by
  have z : rInT C.K neg x y H Q := ⟨d, ds, dp_mono S.g _ _ rx, dp_mono S.g _ _ ry, h1, h2, q _ G H (Same.refl _) S (.bl _)⟩
  subst hr
  cases neg
  · exact .inl z
  · exact .inl z
theorem e_in (ha : EV C Γ Δ ta d) (hb : EV C Γ Δ tb (.tuple ds)) (h1 : SeqAt.shaped d = true) (h2 : SeqAt.shaped (.tuple ds) = true) : EV C Γ Δ (tOp (uIn C.P C.w C.K) ta tb) (.bool (ds.any fun z => PyData.eqv z d)) := e_inT (neg := false) ha hb h1 h2 rfl
theorem e_nin (ha : EV C Γ Δ ta d) (hb : EV C Γ Δ tb (.tuple ds)) (h1 : SeqAt.shaped d = true) (h2 : SeqAt.shaped (.tuple ds) = true) : EV C Γ Δ (tOp (uNin C.P C.w C.K) ta tb) (.bool (!ds.any fun z => PyData.eqv z d)) := e_inT (neg := true) ha hb h1 h2 rfl
theorem e_inN0 {neg : Bool} {k : Nat} {p : Addr} {kvs : List (NestedKey × PyData)} {ks : List NestedKey} (ha : EV C Γ Δ ta (NestedKey.tup ks).data) (hd : (NestedKey.tup ks).depth ≤ 8) (hb : EVM C Γ Δ tb p) (hk : Δ[k]? = some (p, .md kvs)) {r : R2} (hr : r = if neg then uNin C.P C.w C.K else uIn C.P C.w C.K) :
    EV C Γ Δ (tOp r ta tb) (.bool (if neg then !(lookN kvs (.tup ks)).isSome else (lookN kvs (.tup ks)).isSome)) := fun G H σ S Q q =>
  ha G H σ S _ fun x G1 H1 s1 S1 r1 => hb G1 H1 σ S1 _ fun G2 H2 s2 S2 => by
    obtain ⟨a, rfl⟩ := dp_ref r1
    obtain ⟨xs, e1, e2, e3⟩ := md_at S2 hk
    have z : rInN C.P C.w C.K neg (.ref a) (.ref p) H2 Q := ⟨a, p, _, kvs, xs, rfl, rfl, dp_mono (s2.trans S2.g) _ _ r1, hd, e1, e2, rows_mono S2.g e3, q _ G2 H2 (s1.trans s2) S2 (.bl _)⟩
    subst hr
    cases neg
    · exact .inr z
    · exact .inr z
theorem e_inN {k : Nat} {p : Addr} {kvs : List (NestedKey × PyData)} {ks : List NestedKey} (ha : EV C Γ Δ ta (NestedKey.tup ks).data) (hd : (NestedKey.tup ks).depth ≤ 8) (hb : EVM C Γ Δ tb p) (hk : Δ[k]? = some (p, .md kvs)) : EV C Γ Δ (tOp (uIn C.P C.w C.K) ta tb) (.bool (lookN kvs (.tup ks)).isSome) := e_inN0 (neg := false) ha hd hb hk rfl
theorem e_ninN {k : Nat} {p : Addr} {kvs : List (NestedKey × PyData)} {ks : List NestedKey} (ha : EV C Γ Δ ta (NestedKey.tup ks).data) (hd : (NestedKey.tup ks).depth ≤ 8) (hb : EVM C Γ Δ tb p) (hk : Δ[k]? = some (p, .md kvs)) : EV C Γ Δ (tOp (uNin C.P C.w C.K) ta tb) (.bool (!(lookN kvs (.tup ks)).isSome)) := e_inN0 (neg := true) ha hd hb hk rfl
/-- t[i], xs[i], d[k] -/
theorem e_ix (ha : EV C Γ Δ ta (.tuple ds)) (hb : EV C Γ Δ tb (.int i)) (e : atI ds i = some d) : EV C Γ Δ (tOp (uIx C.P C.w C.K) ta tb) d := ev_op ha hb (.pure fun G H x y s rx ry Q q => by
  cases ry
  cases rx with
  | tup a b =>
    obtain ⟨v, e1, r⟩ := atI_dp b e
    exact .inl ⟨_, _, i, v, rfl, rfl, sqT_mono s a, e1, q v r⟩)
theorem e_ixL (ha : EV C Γ Δ ta (.list ds)) (hb : EV C Γ Δ tb (.int i)) (e : atI ds i = some d) : EV C Γ Δ (tOp (uIx C.P C.w C.K) ta tb) d := ev_op ha hb (.pure fun G H x y s rx ry Q q => by
  cases ry
  cases rx with
  | lst a b =>
    obtain ⟨v, e1, r⟩ := atI_dp b e
    exact .inr (.inl ⟨_, _, i, v, rfl, rfl, s.seq a, e1, q v r⟩))
theorem e_get {k : Nat} {p : Addr} {kvs : List (NestedKey × PyData)} {ks : List NestedKey} (ha : EVM C Γ Δ ta p) (hb : EV C Γ Δ tb (NestedKey.tup ks).data) (hd : (NestedKey.tup ks).depth ≤ 8) (hk : Δ[k]? = some (p, .md kvs)) (hv : lookN kvs (.tup ks) = some d) :
    EV C Γ Δ (tOp (uIx C.P C.w C.K) ta tb) d := fun G H σ S Q q =>
  ha G H σ S _ fun G1 H1 s1 S1 => hb G1 H1 σ S1 _ fun x G2 H2 s2 S2 r2 => by
    obtain ⟨a, rfl⟩ := dp_ref r2
    obtain ⟨xs, e1, e2, e3⟩ := md_at S2 hk
    have z := rows_at e3 (.tup ks)
    rw [hv] at z
    obtain ⟨a', u', v', e', rv', dv'⟩ := z
    exact .inr (.inr ⟨a, p, _, kvs, xs, rfl, rfl, dp_mono S2.g _ _ r2, hd, e1, rows_mono S2.g e3, v', u', a', e', rv', q v' G2 H2 (s1.trans s2) S2 dv'⟩)
/-- slices -/
theorem e_sl {to th : TO} {lo hi : Option Int} (h : EV C Γ Δ te (.tuple ds)) (hl : EVO C Γ Δ to lo) (hh : EVO C Γ Δ th hi) : EV C Γ Δ (tSl (uSl C.K) te to th) (.tuple (cutL ds lo hi)) := fun G H σ S Q q =>
  h G H σ S _ fun v G1 H1 s1 S1 r1 => hl G1 H1 σ S1 _ fun G2 H2 s2 S2 => hh G2 H2 σ S2 _ fun G3 H3 s3 S3 => by
    cases r1 with
    | tup a b =>
      have a' := sqT_mono (s2.trans s3) a
      have b' := dpAll_mono (s2.trans s3) _ _ b
      refine .inl ⟨_, _, rfl, sqT_mono S3.g a', fun hw => ?_, fun hw p hp => ?_⟩
      · rw [dpAll_len b] at hw
        exact q _ G3 H3 ((s1.trans s2).trans s3) S3 (by rw [cutL_all hw]; exact .tup a' b')
      · have n : G3 p = none := S3.g.free hp
        exact q _ _ _ (((s1.trans s2).trans s3).trans (same_new n)) (S3.new hp) (.tup (SqT.of upd_same) (dpAll_mono (same_new n) _ _ (cut_dp b' lo hi)))
theorem l_sl {to th : TO} {lo hi : Option Int} (h : EV C Γ Δ te (.list ds)) (hl : EVO C Γ Δ to lo) (hh : EVO C Γ Δ th hi) : EVL C Γ Δ (tSl (uSl C.K) te to th) (cutL ds lo hi) := fun G H σ S Q q =>
  h G H σ S _ fun v G1 H1 s1 S1 r1 => hl G1 H1 σ S1 _ fun G2 H2 s2 S2 => hh G2 H2 σ S2 _ fun G3 H3 s3 S3 => by
    cases r1 with
    | lst a b =>
      have a' := (s2.trans s3).seq a
      have b' := dpAll_mono (s2.trans s3) _ _ b
      exact .inr ⟨_, _, rfl, S3.g.seq a', fun p hp => q p _ G3 _ ((s1.trans s2).trans s3) (S3.g.free hp) (S3.apart hp) (S3.new0 hp) upd_same (cut_dp b' lo hi)⟩
theorem e_rev (h : EV C Γ Δ te (.tuple ds)) : EV C Γ Δ (tRevT C.K te) (.tuple ds.reverse) := fun G H σ S Q q => h G H σ S _ fun v G1 H1 s1 S1 r1 => by
  cases r1 with
  | tup a b =>
    refine ⟨_, _, rfl, sqT_mono S1.g a, fun p hp => ?_⟩
    have n : G1 p = none := S1.g.free hp
    exact q _ _ _ (s1.trans (same_new n)) (S1.new hp) (.tup (SqT.of upd_same) (dpAll_mono (same_new n) _ _ (dpAll_rev b)))
/-- len, list -/
theorem e_len (h : EV C Γ Δ ta (.tuple ds)) : EV C Γ Δ (tCB (uLen C.P C.w C.K) (tCons ta tNil)) (.int (ds.length : Int)) := fun G H σ S Q q =>
  h G H σ S _ fun x G1 H1 s1 S1 r1 => by
    cases r1 with
    | tup a b => exact .inl ⟨_, _, rfl, .inr (sqT_mono S1.g a), by rw [dpAll_len b]; exact q _ G1 H1 s1 S1 (.int _)⟩
theorem e_lenL (h : EV C Γ Δ ta (.list ds)) : EV C Γ Δ (tCB (uLen C.P C.w C.K) (tCons ta tNil)) (.int (ds.length : Int)) := fun G H σ S Q q =>
  h G H σ S _ fun x G1 H1 s1 S1 r1 => by
    cases r1 with
    | lst a b => exact .inl ⟨_, _, rfl, .inl (S1.g.seq a), by rw [dpAll_len b]; exact q _ G1 H1 s1 S1 (.int _)⟩
theorem e_lenN {k : Nat} {p : Addr} {kvs : List (NestedKey × PyData)} (h : EVM C Γ Δ ta p) (hk : Δ[k]? = some (p, .md kvs)) (hz : kvs.length ≤ 1000000) : EV C Γ Δ (tCB (uLen C.P C.w C.K) (tCons ta tNil)) (.int (kvs.length : Int)) := fun G H σ S Q q =>
  h G H σ S _ fun G1 H1 s1 S1 => by
    obtain ⟨xs, e1, e2, e3⟩ := md_at S1 hk
    exact .inr ⟨p, kvs, xs, rfl, e1, e2, hz, rows_mono S1.g e3, q _ G1 H1 s1 S1 (.int _)⟩
theorem l_list (h : EV C Γ Δ ta (.tuple ds)) : EVL C Γ Δ (tCB (uLst C.P C.w C.K) (tCons ta tNil)) ds := fun G H σ S Q q =>
  h G H σ S _ fun x G1 H1 s1 S1 r1 => by
    cases r1 with
    | tup a b => exact .inl ⟨_, _, rfl, .inr (sqT_mono S1.g a), fun l hl => q l _ G1 _ s1 (S1.g.free hl) (S1.apart hl) (S1.new0 hl) upd_same b⟩
theorem l_listL (h : EV C Γ Δ ta (.list ds)) : EVL C Γ Δ (tCB (uLst C.P C.w C.K) (tCons ta tNil)) ds := fun G H σ S Q q =>
  h G H σ S _ fun x G1 H1 s1 S1 r1 => by
    cases r1 with
    | lst a b => exact .inl ⟨_, _, rfl, .inl (S1.g.seq a), fun l hl => q l _ G1 _ s1 (S1.g.free hl) (S1.apart hl) (S1.new0 hl) upd_same b⟩
theorem l_listN {k : Nat} {p : Addr} {kvs : List (NestedKey × PyData)} (h : EVM C Γ Δ ta p) (hk : Δ[k]? = some (p, .md kvs)) (hz : kvs.length ≤ 1000000) : EVL C Γ Δ (tCB (uLst C.P C.w C.K) (tCons ta tNil)) (kvs.map fun r => r.1.data) := fun G H σ S Q q =>
  h G H σ S _ fun G1 H1 s1 S1 => by
    obtain ⟨xs, e1, e2, e3⟩ := md_at S1 hk
    exact .inr ⟨p, kvs, xs, rfl, e1, e2, hz, rows_mono S1.g e3, fun l hl => q l _ G1 _ s1 (S1.g.free hl) (S1.apart hl) (S1.new0 hl) upd_same (rows_keys e3)⟩
/-- what is walked -/
theorem w_list (h : EV C Γ Δ te (.list ds)) : WD C Γ Δ (uIt C.K te) ds := fun G H σ S R q => .inl (wd_list h G H σ S R q)
theorem w_tup (h : EV C Γ Δ te (.tuple ds)) : WD C Γ Δ (uIt C.K te) ds := fun G H σ S R q => .inr (wd_tup h G H σ S R q)
/-- {} -/
theorem k_disp0 : EVK C Γ Δ (tDisp0 C.P C.w) [] := fun G H σ S Q q p hp hs => q p G _ (Same.refl _) (S.g.free hp) (S.apart hp) (S.new0 hp) ⟨[], upd_same, hs, .nil⟩
/-- a local list is taken as a datum from here on: its name stays -/
theorem nx_freeze {P : L2.St → Hp → Prop} {k m : Nat} {p : Addr} (hk : Δ[k]? = some (p, .ml ds)) (hm : Γ[m]? = some (.loc p)) (h : Nx C (Γ.set m (.dat (.list ds))) (Δ.eraseIdx k) P) : Nx C Γ Δ P := fun G H σ S => by
  obtain ⟨G', s, S', r⟩ := S.freeze hk
  obtain ⟨o, e, rfl⟩ := S'.sl m _ hm
  have z := S'.set (i := m) r
  rw [show σ.set m (some (.ref p)) = σ from by
    refine List.ext_getElem? fun n => ?_
    by_cases hn : m = n
    · subst hn; rw [List.getElem?_set_self (List.getElem?_eq_some_iff.mp e).1, e]
    · rw [List.getElem?_set_ne hn]] at z
  exact h G' H σ z
/-- a, b = x, y -/
theorem nx_par {D : Ends} {t1 t2 : TE} {i j : Nat} (h1 : EV C Γ Δ t1 da) (h2 : EV C Γ Δ t2 db) (k : Nx C ((Γ.set i (.dat da)).set j (.dat db)) Δ D.nx) : Nx C Γ Δ (tPar i j (tCons t1 (tCons t2 tNil)) D) := fun G H σ S =>
  h1 G H σ S _ fun v G1 H1 s1 S1 r1 => h2 G1 H1 σ S1 _ fun u G2 H2 s2 S2 r2 => ⟨v, u, rfl, k G2 H2 _ ((S2.set (dp_mono s2 _ _ r1)).set r2)⟩
theorem nx_parL {D : Ends} {t1 t2 : TE} {i j : Nat} (h1 : EV C Γ Δ t1 da) (h2 : EVL C Γ Δ t2 es) (k : ∀ p, Nx C ((Γ.set i (.dat da)).set j (.loc p)) ((p, .ml es) :: Δ) D.nx) : Nx C Γ Δ (tPar i j (tCons t1 (tCons t2 tNil)) D) := fun G H σ S =>
  h1 G H σ S _ fun v G1 H1 s1 S1 r1 => h2 G1 H1 σ S1 _ fun p vs G2 H2 s2 n a S2 e r2 => ⟨v, .ref p, rfl, k p G2 H2 _ (((S2.set (dp_mono s2 _ _ r1)).setLoc).loc n a ⟨vs, e, r2⟩)⟩
end
end Kw

/-! text D0 -/
/-! The law's text by places; what is asked of the module's names. -/
namespace Kw
open PySem PySem.Spec PyProof.Rows L2 PySem.Calls
def top (i : Nat) : Stmt := PySem.Challenge.pw_pumphouse_k12_whole_failing_judged.main.body.getD i (.Pass ⟨0, 0, 0, 0⟩)
structure Tx (P : Program) (K : PySem.W.Frag) (mg : Str → Option Value) (C1 C2 C3 : Addr) : Prop where
  b_len : mg "len" = none
  b_isinstance : mg "isinstance" = none
  b_sum : mg "sum" = none
  b_min : mg "min" = none
  b_int : mg "int" = none
  b_bool : mg "bool" = none
  b_str : mg "str" = none
  b_tuple : mg "tuple" = none
  b_list : mg "list" = none
  b_sorted : mg "sorted" = none
  b_all : mg "all" = none
  b_repr : mg "repr" = none
  b_range : mg "range" = none
  b_zip : mg "zip" = none
  b_enumerate : mg "enumerate" = none
  c_MOST_TOP : ∃ u, mg "MOST_TOP" = some u ∧ RelV (.int 200) u
  c_MOST_DRAIN : ∃ u, mg "MOST_DRAIN" = some u ∧ RelV (.int 50) u
  c_MOST_AGE : ∃ u, mg "MOST_AGE" = some u ∧ RelV (.int 5) u
  c_MOST_STARTS : ∃ u, mg "MOST_STARTS" = some u ∧ RelV (.int 5) u
  c_MOST_STEP : ∃ u, mg "MOST_STEP" = some u ∧ RelV (.int 20) u
  c_MOST_LAG : ∃ u, mg "MOST_LAG" = some u ∧ RelV (.int 3) u
  c_MOST_NUMBER : ∃ u, mg "MOST_NUMBER" = some u ∧ RelV (.int 50) u
  c_MOST_COUNT : ∃ u, mg "MOST_COUNT" = some u ∧ RelV (.int 1000) u
  c_OVER_wells : ∃ u, mg "OVER_wells" = some u ∧ RelV (.str "over") u
  c_DRY : ∃ u, mg "DRY" = some u ∧ RelV (.str "dry") u
  c_MOST_INFLOW : ∃ u, mg "MOST_INFLOW" = some u ∧ RelV (.int 300) u
  c_OVER_crews : ∃ u, mg "OVER_crews" = some u ∧ RelV (.str "over") u
  c_MOST_FAILS : ∃ u, mg "MOST_FAILS" = some u ∧ RelV (.int 4) u
  c_MOST_LIKE : ∃ u, mg "MOST_LIKE" = some u ∧ RelV (.int 12) u
  c_MOST_PAIRS : ∃ u, mg "MOST_PAIRS" = some u ∧ RelV (.int 20000) u
  c_SAFE : ∃ u, mg "SAFE" = some u ∧ RelV (.str "safe") u
  ox1 : OexC K C1
  ox2 : OexC K C2
  ox3 : OexC K C3
  rx1 : RunPart P K mg C1
  rx2 : RunPart P K mg C2
  rx3 : RunText P K mg C3
  mx1 : mg "BadWell" = some (.ref C1)
  mx2 : mg "BadPaper" = some (.ref C2)
  mx3 : mg "OutOfPlace" = some (.ref C3)
  ee : ∀ i j : Fin 3, PySem.W.exmOne K (.ref ([C1, C2, C3][i])) (.ref ([C1, C2, C3][j])) = some (decide (i = j))
  xf1 : XfC K C1
  xf2 : XfC K C2
  xp1 : PySem.W.findIn K (.ref C1) "part" = some none
  xp2 : PySem.W.findIn K (.ref C2) "part" = some none
theorem boot_ty_int : bootBuiltins "int" = some (.type "int") := by decide +kernel
theorem boot_ty_bool : bootBuiltins "bool" = some (.type "bool") := by decide +kernel
theorem boot_ty_str : bootBuiltins "str" = some (.type "str") := by decide +kernel
theorem boot_ty_tuple : bootBuiltins "tuple" = some (.type "tuple") := by decide +kernel
theorem boot_k_len : bootBuiltins "len" = some (.builtin "len") := by decide +kernel
theorem boot_k_sum : bootBuiltins "sum" = some (.builtin "sum") := by decide +kernel
theorem boot_k_min : bootBuiltins "min" = some (.builtin "min") := by decide +kernel
theorem boot_k_all : bootBuiltins "all" = some (.builtin "all") := by decide +kernel
theorem boot_k_sorted : bootBuiltins "sorted" = some (.builtin "sorted") := by decide +kernel
theorem boot_k_repr : bootBuiltins "repr" = some (.builtin "repr") := by decide +kernel
theorem boot_k_int : bootBuiltins "int" = some (.type "int") := by decide +kernel
theorem boot_k_tuple : bootBuiltins "tuple" = some (.type "tuple") := by decide +kernel
theorem boot_k_list : bootBuiltins "list" = some (.type "list") := by decide +kernel
theorem hu64 {k : Nat} {A : Around} (hr : Room k A) : A.units + 64 < cLine := by have := hr.un; omega
theorem hu65 {k : Nat} {A : Around} (hr : Room k A) : A.units + 65 < cLine := by have := hr.un; omega
theorem pe_k {X : Cx} {x : Str} {v : V} {pos : Pos} (hg : Gl X x) (h : ∃ u, X.mg x = some u ∧ RelV v u) (hd : (x == ("__debug__" : Str)) = false := by decide) : PE X (.Name x pos) (tC v) := by
  obtain ⟨u, e, r⟩ := h
  exact pe_glob hg e r hd
end Kw

/-! text K13 -/
/-! My layer, part 13: one rule a sign; what it gives is computed. -/
namespace Kw
open PySem PySem.Spec PyProof.Rows L2 PySem.Calls
section
variable {C : Ct} {G G' H H' : Hp} {σ : L2.St} {Γ : List SV} {Δ : Dl}
variable {ta tb tc te : TE} {da db d : PyData} {ds es : List PyData} {t u : TT} {b c : Bool} {i j : Int}
def addD : PyData → PyData → Option PyData
  | .int i, .int j => some (.int (i + j))
  | .tuple a, .tuple b => some (.tuple (a ++ b))
  | _, _ => none
def addOk : PyData → PyData → Prop
  | .tuple a, .tuple b => a.length + b.length ≤ 1000000
  | _, _ => True
theorem x_add (ha : EV C Γ Δ ta da) (hb : EV C Γ Δ tb db) (e : addD da db = some d) (o : addOk da db) : EV C Γ Δ (tOp (uAdd C.K) ta tb) d := by
  cases da <;> cases db <;> first | (cases e; done) | skip
  · cases e; exact e_add ha hb
  · cases e; exact e_cat ha hb o
def mulD : PyData → PyData → Option PyData
  | .int i, .int j => some (.int (i * j))
  | .tuple a, .int j => some (.tuple (List.replicate j.toNat a).flatten)
  | _, _ => none
def mulOk : PyData → PyData → Prop
  | .int i, .int j => CMul i j
  | .tuple a, .int j => a ≠ [] ∧ (0 ≤ j ∧ j ≤ 1000) ∧ a.length ≤ 1000
  | _, _ => True
theorem x_mul (ha : EV C Γ Δ ta da) (hb : EV C Γ Δ tb db) (e : mulD da db = some d) (o : mulOk da db) : EV C Γ Δ (tOp (uMul C.K) ta tb) d := by
  cases da <;> cases db <;> first | (cases e; done) | skip
  · cases e; exact e_mul ha hb o
  · cases e; exact e_rep ha hb o.1 o.2.1 o.2.2
def ixD : PyData → PyData → Option PyData
  | .tuple a, .int j => atI a j
  | .list a, .int j => atI a j
  | _, _ => none
theorem x_ix (ha : EV C Γ Δ ta da) (hb : EV C Γ Δ tb db) (e : ixD da db = some d) : EV C Γ Δ (tOp (uIx C.P C.w C.K) ta tb) d := by
  cases da <;> cases db <;> first | (cases e; done) | skip
  · exact e_ixL ha hb e
  · exact e_ix ha hb e
def lenD : PyData → Option PyData
  | .tuple a => some (.int (a.length : Int))
  | .list a => some (.int (a.length : Int))
  | _ => none
theorem x_len (ha : EV C Γ Δ ta da) (e : lenD da = some d) : EV C Γ Δ (tCB (uLen C.P C.w C.K) (tCons ta tNil)) d := by
  cases da <;> first | (cases e; done) | skip
  · cases e; exact e_lenL ha
  · cases e; exact e_len ha
def slD (lo hi : Option Int) : PyData → Option PyData
  | .tuple a => some (.tuple (cutL a lo hi))
  | _ => none
theorem x_sl {to th : TO} {lo hi : Option Int} (h : EV C Γ Δ te da) (hl : EVO C Γ Δ to lo) (hh : EVO C Γ Δ th hi) (e : slD lo hi da = some d) : EV C Γ Δ (tSl (uSl C.K) te to th) d := by
  cases da <;> first | (cases e; done) | skip
  · cases e; exact e_sl h hl hh
theorem x_eq (ha : EV C Γ Δ ta da) (hb : EV C Γ Δ tb db) (sa : SeqAt.shaped da = true) (sb : SeqAt.shaped db = true) : EV C Γ Δ (tOp (rEqD C.K) ta tb) (.bool (PyData.eqv da db)) := ev_eqD ha hb sa sb
theorem x_isi {T : String} {b : Bool} (h : EV C Γ Δ ta d) (k : noDict d = true → kitB (typ d) T = some b) : EV C Γ Δ (tCB (rIsi C.K) (tCons ta (tCons (tC (.ty T)) tNil))) (.bool b) := ev_isi h k
/-- a bool's two ways -/
theorem nx_ret2 {D : Ends} {d' : PyData} (h : EV C Γ Δ te d') (e : d' = d) (k : Rt C D d) : Nx C Γ Δ (tRet te D) := nx_ret (e ▸ h) k
/-- a call that gives a datum -/
theorem x_call {α : Type} {dom : α → List PyData} {ok : α → Prop} {f : α → PyData} {W : WX} {ta : TA} (a : α) (ha : EVA C Γ Δ ta (dom a)) (hp : ok a) (l : lfree (f a) = true) : EV C Γ Δ (tCallS (ASp C.P C.w C.K dom ok fun a r => r = .dat (f a)) (WE W) ta) (f a) :=
  ev_cl (cl_call a ha hp) (fun r h => h) l
theorem x_callL {α : Type} {dom : α → List PyData} {ok : α → Prop} {f : α → List PyData} {W : WX} {ta : TA} (a : α) (ha : EVA C Γ Δ ta (dom a)) (hp : ok a) (l : lfreeAll (f a) = true) : EVL C Γ Δ (tCallS (ASp C.P C.w C.K dom ok fun a r => r = .lst (f a)) (WE W) ta) (f a) :=
  evl_cl (cl_call a ha hp) (fun r h => h) l
end
end Kw

/-! text K14 -/
/-! My layer, part 14: the rules with the written part named. -/
namespace Kw
open PySem PySem.Spec PyProof.Rows L2 PySem.Calls
abbrev Is (X : Cx) (P : Program) (w : World) (K : PySem.W.Frag) : Prop := X.prog = P ∧ X.w = w ∧ X.K = K
section
variable {X : Cx} {P : Program} {w : World} {K : PySem.W.Frag} {a b e : Expr} {ta tb te : TE} {pos : Pos} {es : List Expr}
theorem gAdd (h : Is X P w K) : OpR X (binaryOp .Add) (uAdd K) := by obtain ⟨rfl, rfl, rfl⟩ := h; exact oAdd
theorem gMul (h : Is X P w K) : OpR X (binaryOp .Mult) (uMul K) := by obtain ⟨rfl, rfl, rfl⟩ := h; exact oMul
theorem gLt (h : Is X P w K) (hu : X.A.units + 65 < cLine) : OpR X (compareOp .Lt) (uLt K) := by obtain ⟨rfl, rfl, rfl⟩ := h; exact oLt hu
theorem gIn (h : Is X P w K) (hu : X.A.units + 65 < cLine) : OpR X (compareOp .In) (uIn P w K) := by obtain ⟨rfl, rfl, rfl⟩ := h; exact oIn hu
theorem gNin (h : Is X P w K) (hu : X.A.units + 65 < cLine) : OpR X (compareOp .NotIn) (uNin P w K) := by obtain ⟨rfl, rfl, rfl⟩ := h; exact oNin hu
theorem gEq (h : Is X P w K) (hu : X.A.units + 65 < cLine) : OpR X (compareOp .Eq) (rEqD K) := by obtain ⟨rfl, rfl, rfl⟩ := h; exact oEq hu
theorem gNe (h : Is X P w K) (hu : X.A.units + 65 < cLine) : OpR X (compareOp .NotEq) (rNeD K) := by obtain ⟨rfl, rfl, rfl⟩ := h; exact oNe hu
theorem gIx (h : Is X P w K) (hu : X.A.units + 65 < cLine) : IxR X (uIx P w K) := by obtain ⟨rfl, rfl, rfl⟩ := h; exact oIx hu
theorem gSl (h : Is X P w K) : SlR X (uSl K) := by obtain ⟨rfl, rfl, rfl⟩ := h; exact oSl
theorem gLen (h : Is X P w K) (hu : X.A.units + 65 < cLine) : CallR X (.builtin "len") (uLen P w K) := by obtain ⟨rfl, rfl, rfl⟩ := h; exact oLen hu
theorem gLst (h : Is X P w K) (hc : X.calm = true) : CallR X (.type "list") (uLst P w K) := by obtain ⟨rfl, rfl, rfl⟩ := h; exact oLst hc
theorem gSum (h : Is X P w K) (hc : X.calm = true) : CallR X (.builtin "sum") (rSumT K) := by obtain ⟨rfl, rfl, rfl⟩ := h; exact cr_sumT hc
theorem gAll (h : Is X P w K) (hc : X.calm = true) : CallR X (.builtin "all") (rAll K) := by obtain ⟨rfl, rfl, rfl⟩ := h; exact cr_all hc
theorem gSort (h : Is X P w K) (hu : X.A.units + 64 < cLine) : CallR X (.builtin "sorted") (rSortD K) := by obtain ⟨rfl, rfl, rfl⟩ := h; exact cr_sortD hu
theorem gRepr (h : Is X P w K) (hu : X.A.units + 64 < cLine) (hg : X.A.guards = some []) : CallR X (.builtin "repr") (rRepr K) := by obtain ⟨rfl, rfl, rfl⟩ := h; exact cr_repr hu hg
theorem gTupO (h : Is X P w K) : CallR X (.type "tuple") (rTupOf K) := by obtain ⟨rfl, rfl, rfl⟩ := h; exact call_tuple_of
theorem gIsi (h : Is X P w K) : CallR X (.builtin "isinstance") (rIsi K) := by obtain ⟨rfl, rfl, rfl⟩ := h; exact call_isi
theorem gIt (h : Is X P w K) {tg : Expr} (he : PE X e te) : PI X tg e (uIt K te) := by obtain ⟨rfl, rfl, rfl⟩ := h; exact pi_it he
theorem gRev (h : Is X P w K) {k : Nat} {p1 p2 p3 pos : Pos} (he : PE X e te) : PE X (.Subscript e (.Slice none none (some (.UnaryOp .USub (.Constant (.int 1) k p1) p2)) p3) pos) (tRevT K te) := by obtain ⟨rfl, rfl, rfl⟩ := h; exact pe_revT he
theorem gDisp0 (h : Is X P w K) : PE X (.Dict [] [] pos) (tDisp0 P w) := by obtain ⟨rfl, rfl, rfl⟩ := h; exact pe_disp0
theorem gDisp1 (h : Is X P w K) (hu : X.A.units + 64 < cLine) (ha : PE X a ta) (hb : PE X b tb) : PE X (.Dict [some a] [b] pos) (tDisp1 P w K ta tb) := by obtain ⟨rfl, rfl, rfl⟩ := h; exact pe_disp1 hu ha hb
theorem gTupT (h : Is X P w K) {k : Nat} {t : TGs} {n : Nat} (hc : X.calm = true) (hs : PGs X es t) (hn : (assignEach es X.env).length = n) (hst : (assignEach es X.env).findIdx? (·.1) = none) : PG X (.Tuple es k pos) (gTup K n t) := by obtain ⟨rfl, rfl, rfl⟩ := h; exact pg_tup hc hs hn hst
theorem gPut (h : Is X P w K) (hu : X.A.units + 64 < cLine) : PSet X (rPutN P w K) := by obtain ⟨rfl, rfl, rfl⟩ := h; exact put_N hu
theorem gZip (h : Is X P w K) {e2 : Expr} {ta : TA} {p tpos : Pos} {elts : List Expr} {kk : Nat} (hg : Gl X "zip") (hm : X.mg "zip" = none) (ha : PA X [e, e2] ta)
    (hs : starEach [e, e2] X.env = (false, eval e X.env) :: starEach [e2] X.env := by rfl) (hpl : (backTo pos (starEach [e2] X.env)).any (·.1) = false := by rfl) :
    PI X (.Tuple elts kk tpos) (.Call (.Name "zip" p) [e, e2] [] pos) (RZ.iZipA K ta) := by obtain ⟨rfl, rfl, rfl⟩ := h; exact RZ.pi_zipA hg hm ha hs hpl
theorem gEnum (h : Is X P w K) {ta : TA} {p tpos : Pos} {elts : List Expr} {kk : Nat} (hg : Gl X "enumerate") (hm : X.mg "enumerate" = none) (ha : PA X [e] ta) (hs : starEach [e] X.env = [(false, eval e X.env)] := by rfl) :
    PI X (.Tuple elts kk tpos) (.Call (.Name "enumerate" p) [e] [] pos) (iEnumT K ta) := by obtain ⟨rfl, rfl, rfl⟩ := h; exact pi_enumT hg hm ha hs
theorem gIsinst (h : Is X P w K) {c : Expr} {p : Pos} {tc : TE} (hg : Gl X "isinstance") (hm : X.mg "isinstance" = none) (he : PE X e te) (hc : PE X c tc) (hs : starEach [e, c] X.env = (false, eval e X.env) :: starEach [c] X.env := by rfl) (hs2 : starEach [c] X.env = (false, eval c X.env) :: starEach [] X.env := by rfl)
    (hpl : (backTo pos (starEach [c] X.env)).any (·.1) = false := by rfl) : PE X (.Call (.Name "isinstance" p) [e, c] [] pos) (tCB (rIsi K) (tCons te (tCons tc tNil))) := by obtain ⟨rfl, rfl, rfl⟩ := h; exact pe_isinst hg hm he hc hs hs2 hpl
/-- a call -/
theorem gCl (h : Is X P w K) {mg : Str → Option Value} {base : Heap} (hmg : X.mg = mg) (hb : X.base = base) {k : Nat} {x : Str} {sp : Sp} {W : WX} {p : Pos} {t : TA} (c : Cl P w K mg base k x sp) (hr : Room k X.A) (hgd : X.A.guards = some []) (hg : Gl X x) (tk : Takes X W) (ha : PA X (e :: es) t)
    (hdb : (x == ("__debug__" : Str)) = false := by decide) (he : starEach (e :: es) X.env = (false, eval e X.env) :: starEach es X.env := by rfl) (hpl : (backTo pos (starEach es X.env)).any (·.1) = false := by rfl) :
    PE X (.Call (.Name x p) (e :: es) [] pos) (tCallS sp (WE W) t) := by obtain ⟨rfl, rfl, rfl⟩ := h; subst hmg hb; exact pe_cl c hr hgd hg tk ha hdb he hpl
end
end Kw
namespace Kw
open PySem PySem.Spec PyProof.Rows L2 PySem.Calls
section
variable {X : Cx} {P : Program} {w : World} {K : PySem.W.Frag}
theorem gCu (h : Is X P w K) {mg : Str → Option Value} {base : Heap} (hmg : X.mg = mg) (hbs : X.base = base) {i k : Nat} {f1 f2 : Addr} {sp1 sp2 : Sp} {x x1 x2 : Str} {W : WX} {e : Expr} {es : List Expr} {t : TA} {p pos : Pos} (c1 : ClA P w K mg base k x1 f1 sp1) (c2 : ClA P w K mg base k x2 f2 sp2) (hr : Room k X.A) (hgd : X.A.guards = some []) (tk : Takes X W)
    (hN : X.N[i]? = some x) (hv : Vis X.env.scope x) (ha : PA X (e :: es) t) (hd : (x == ("__debug__" : Str)) = false := by decide) (hcd : (x == ("__classdict__" : Str)) = false := by decide)
    (he : starEach (e :: es) X.env = (false, eval e X.env) :: starEach es X.env := by rfl) (hpl : (backTo pos (starEach es X.env)).any (·.1) = false := by rfl) : PE X (.Call (.Name x p) (e :: es) [] pos) (tCallU i f1 f2 sp1 sp2 W t) := by
  obtain ⟨rfl, rfl, rfl⟩ := h; subst hmg hbs; exact pe_cu c1 c2 hr hgd tk hN hv ha hd hcd he hpl
end
end Kw
namespace Kw
open PySem PySem.Spec PyProof.Rows L2 PySem.Calls
section
variable {C : Ct} {Γ : List SV} {Δ : Dl} {t : TT} {ts tu : TS} {D : Ends} {b : Bool}
theorem nx_ifF (h : EVT C Γ Δ t b) (e : b = false) (k : Nx C Γ Δ (tu D)) : Nx C Γ Δ (tIfS t ts tu D) := nx_if h (fun z => by rw [e] at z; cases z) fun _ => k
theorem nx_ifT (h : EVT C Γ Δ t b) (e : b = true) (k : Nx C Γ Δ (ts D)) : Nx C Γ Δ (tIfS t ts tu D) := nx_if h (fun _ => k) fun z => by rw [e] at z; cases z
theorem nx_sq (h : Nx C Γ Δ (ts { D with nx := tu D })) : Nx C Γ Δ (tSeq ts tu D) := h
theorem nx_nx (k : Nx C Γ Δ D.nx) : Nx C Γ Δ (tNext D) := k
theorem nx_raiseP {P : Program} {w : World} {K : PySem.W.Frag} {H : Hp} {Q : VK} {E : XK} {te : TE} {c : Addr} {m : Str} (h : EV ⟨K, P, w, H⟩ Γ Δ te (.str m)) (k : RsOk P w K H Q E (.exc c (some m))) :
    Nx ⟨K, P, w, H⟩ Γ Δ fun σ H' => tMkP c (tCons te tNil) σ H' fun cls d H'' => E cls d H'' := fun G H1 σ S => h G H1 σ S _ fun v G2 H2 s2 S2 r2 => by
  cases r2
  exact ⟨_, rfl, fun dx hd => k (some dx) _ ((S2.g0.trans S2.g).trans (same_new hd)) ⟨dx, rfl, upd_same⟩⟩
theorem nx_raiseT {P : Program} {w : World} {K : PySem.W.Frag} {H : Hp} {Q : VK} {E : XK} {te : TE} {c : Addr} {d : PyData} (h : EV ⟨K, P, w, H⟩ Γ Δ te d) (k : RsOk P w K H Q E (.exc c none)) :
    Nx ⟨K, P, w, H⟩ Γ Δ fun σ H' => tMkT c (tCons te tNil) σ H' fun cls d H'' => E cls d H'' := fun G H1 σ S => h G H1 σ S _ fun v G2 H2 s2 S2 r2 =>
  ⟨_, rfl, k none _ (S2.g0.trans S2.g) True.intro⟩
theorem evt_orT {u : TT} (h : EVT C Γ Δ t b) (e : b = true) : EVT C Γ Δ (tOr t u) true := fun G H σ S Q q => h G H σ S _ fun G1 H1 s1 S1 => by
  subst e
  exact q G1 H1 s1 S1
theorem evt_orF {u : TT} {c : Bool} (h : EVT C Γ Δ t b) (e : b = false) (k : EVT C Γ Δ u c) : EVT C Γ Δ (tOr t u) c := fun G H σ S Q q => h G H σ S _ fun G1 H1 s1 S1 => by
  subst e
  exact k G1 H1 σ S1 Q fun G2 H2 s2 S2 => q G2 H2 (s1.trans s2) S2
theorem evt_andF {u : TT} (h : EVT C Γ Δ t b) (e : b = false) : EVT C Γ Δ (tAnd t u) false := fun G H σ S Q q => h G H σ S _ fun G1 H1 s1 S1 => by
  subst e
  exact q G1 H1 s1 S1
theorem evt_andT {u : TT} {c : Bool} (h : EVT C Γ Δ t b) (e : b = true) (k : EVT C Γ Δ u c) : EVT C Γ Δ (tAnd t u) c := fun G H σ S Q q => h G H σ S _ fun G1 H1 s1 S1 => by
  subst e
  exact k G1 H1 σ S1 Q fun G2 H2 s2 S2 => q G2 H2 (s1.trans s2) S2
theorem ev_andF {ta tb : TE} (h : EV C Γ Δ ta (.bool b)) (e : b = false) : EV C Γ Δ (tAndV ta tb) (.bool false) := fun G H σ S Q q => h G H σ S _ fun v G1 H1 s1 S1 r1 => by
  subst e
  cases r1
  exact ⟨false, rfl, q _ G1 H1 s1 S1 (.bl _)⟩
theorem ev_andT {ta tb : TE} {d : PyData} (h : EV C Γ Δ ta (.bool b)) (e : b = true) (k : EV C Γ Δ tb d) : EV C Γ Δ (tAndV ta tb) d := fun G H σ S Q q => h G H σ S _ fun v G1 H1 s1 S1 r1 => by
  subst e
  cases r1
  exact ⟨true, rfl, k G1 H1 σ S1 Q fun v G2 H2 s2 S2 r => q v G2 H2 (s1.trans s2) S2 r⟩
theorem ev_ifT {ta tb : TE} {d : PyData} (h : EVT C Γ Δ t b) (e : b = true) (k : EV C Γ Δ ta d) : EV C Γ Δ (tIf t ta tb) d := ev_if h (fun _ => k) fun z => by rw [e] at z; cases z
theorem ev_ifF {ta tb : TE} {d : PyData} (h : EVT C Γ Δ t b) (e : b = false) (k : EV C Γ Δ tb d) : EV C Γ Δ (tIf t ta tb) d := ev_if h (fun z => by rw [e] at z; cases z) fun _ => k
theorem evl_map {wi : TI} {g : TG} {vs : List Nat} {ds : List PyData} {te : TE} (v : PyData → PyData) (w : WD C Γ Δ wi ds) (hz : ds.length ≤ 1000000)
    (hs : ∀ D hs acc d, d ∈ ds → ∃ js fΓ, TG1 C g d js fΓ ∧ (∀ j ∈ js, j ∈ vs) ∧ EV C (fΓ (wipeS Γ vs)) ((D, .ml acc) :: (Δ ++ hs)) te (v d)) : EVL C Γ Δ (tLc wi g tYes te vs) (ds.map v) := by
  have e : (ds.filter fun _ => true).map v = ds.map v := by rw [List.filter_eq_self.mpr fun _ _ => rfl]
  rw [← e]
  exact evl_lc (f := fun _ => true) w hz fun D hs' acc d hd => by
    obtain ⟨js, fΓ, a, b, c⟩ := hs D hs' acc d hd
    exact ⟨js, fΓ, a, b, evt_yes, fun _ => c⟩
end
end Kw

/-! text M1 -/
/-! The data, in plain Lean: wells, states, beats, losses, what may follow. -/
namespace Kw
open PySem PySem.Spec PyProof.Rows L2 PySem.Calls

/-! ### slices and places -/
theorem cutL_map {α β : Type} (f : α → β) (xs : List α) (lo hi : Option Int) : cutL (xs.map f) lo hi = (cutL xs lo hi).map f := by
  unfold cutL
  rw [List.length_map, List.map_take, List.map_drop]
theorem atI_map {α β : Type} (f : α → β) (xs : List α) (i : Int) : atI (xs.map f) i = (atI xs i).map f := by
  unfold atI
  rw [List.length_map]
  cases ixN xs.length i with
  | none => rfl
  | some j => simp
theorem cutL_to {α : Type} (xs : List α) (k : Nat) : cutL xs none (some (k : Int)) = xs.take k := by
  unfold cutL
  rw [HT.sIx_nat]
  show (xs.drop 0).take (min k xs.length - 0) = _
  rw [List.drop_zero, Nat.sub_zero]
  by_cases h : k ≤ xs.length
  · rw [Nat.min_eq_left h]
  · rw [Nat.min_eq_right (by omega), List.take_length, List.take_of_length_le (by omega)]
theorem cutL_from {α : Type} (xs : List α) (k : Nat) : cutL xs (some (k : Int)) none = xs.drop k := by
  unfold cutL
  rw [HT.sIx_nat]
  show (xs.drop (min k xs.length)).take (xs.length - min k xs.length) = _
  by_cases h : k ≤ xs.length
  · rw [Nat.min_eq_left h, List.take_of_length_le (by rw [List.length_drop]; omega)]
  · rw [Nat.min_eq_right (by omega), List.drop_length, List.drop_of_length_le (by omega)]
    simp
theorem cutL_but {α : Type} (xs : List α) (k : Nat) (hk : 0 < k) : cutL xs none (some (-(k : Int))) = xs.take (xs.length - k) := by
  unfold cutL
  have e : HT.sIx xs.length xs.length (some (-(k : Int))) = xs.length - k := by
    show (if (-(k : Int)) < 0 then ((-(k : Int)) + (xs.length : Int)).toNat else min (-(k : Int)).toNat xs.length) = _
    rw [if_pos (by omega)]
    omega
  rw [e]
  show (xs.drop 0).take (xs.length - k - 0) = _
  rw [List.drop_zero, Nat.sub_zero]
theorem atI_nat {α : Type} (xs : List α) (k : Nat) : atI xs (k : Int) = xs[k]? := by
  unfold atI ixN
  rw [if_pos (by omega)]
  by_cases h : k < xs.length
  · rw [if_pos (by omega)]; simp
  · rw [if_neg (by omega), List.getElem?_eq_none (by omega)]; rfl
theorem atI_neg {α : Type} (xs : List α) (k : Nat) (hk : 0 < k) (h : k ≤ xs.length) : atI xs (-(k : Int)) = xs[xs.length - k]? := by
  unfold atI ixN
  rw [if_neg (by omega), if_pos (by omega)]
  have : (-(k : Int) + (xs.length : Int)).toNat = xs.length - k := by omega
  simp [this]

/-! ### wells, states -/
structure Wl where
  (top drain on off run rest starts step lag : Int)
def Wl.l (w : Wl) : List PyData := [.int w.top, .int w.drain, .int w.on, .int w.off, .int w.run, .int w.rest, .int w.starts, .int w.step, .int w.lag]
def Wl.d (w : Wl) : PyData := .tuple w.l
structure Wl.Ok (w : Wl) : Prop where
  top : 2 ≤ w.top ∧ w.top ≤ 4
  drain : 1 ≤ w.drain ∧ w.drain ≤ 3
  on : 1 ≤ w.on ∧ w.on ≤ w.top
  off : 0 ≤ w.off ∧ w.off < w.on
  run : 1 ≤ w.run ∧ w.run ≤ 3
  rest : 1 ≤ w.rest ∧ w.rest ≤ 3
  starts : 1 ≤ w.starts ∧ w.starts ≤ 2
  step : 1 ≤ w.step ∧ w.step ≤ 2
  lag : 0 ≤ w.lag ∧ w.lag ≤ 2
structure S where
  lev : Int
  past : List Int
  on : List Int
  off : List Int
  ready : Int
deriving DecidableEq
def intsD (l : List Int) : PyData := .tuple (l.map .int)
def S.l (s : S) : List PyData := [.int s.lev, intsD s.past, intsD s.on, intsD s.off, .int s.ready]
def S.d (s : S) : PyData := .tuple s.l
def S.num (s : S) : Int := s.on.sum + s.off.sum + s.ready
structure S.Ok (w : Wl) (s : S) : Prop where
  lev : 0 ≤ s.lev ∧ s.lev ≤ w.top
  past : (s.past.length : Int) = w.lag ∧ ∀ x ∈ s.past, 0 ≤ x ∧ x ≤ w.top
  on : (s.on.length : Int) = w.run ∧ ∀ x ∈ s.on, 0 ≤ x
  off : (s.off.length : Int) = w.rest - 1 ∧ ∀ x ∈ s.off, 0 ≤ x
  ready : 0 ≤ s.ready
  num : s.num ≤ 12
def kInts (l : List Int) : NestedKey := .tup (l.map .num)
def S.kl (s : S) : List NestedKey := [.num s.lev, kInts s.past, kInts s.on, kInts s.off, .num s.ready]
theorem datas_nums : ∀ l : List Int, NestedKey.datas (l.map .num) = l.map .int
  | [] => by simp [NestedKey.datas]
  | x :: l => by simp [NestedKey.datas, NestedKey.data, datas_nums l]
theorem kInts_data (l : List Int) : (kInts l).data = intsD l := by
  unfold kInts intsD
  simp [NestedKey.data, datas_nums]
theorem S.kl_data (s : S) : (NestedKey.tup s.kl).data = s.d := by
  unfold S.kl S.d S.l
  simp [NestedKey.data, NestedKey.datas, kInts_data]
theorem map_num_inj {l m : List Int} (h : l.map NestedKey.num = m.map NestedKey.num) : l = m := by
  induction l generalizing m with
  | nil => cases m with
    | nil => rfl
    | cons => simp at h
  | cons x l ih => cases m with
    | nil => simp at h
    | cons y m =>
      simp only [List.map_cons, List.cons.injEq, NestedKey.num.injEq] at h
      rw [h.1, ih h.2]
theorem S.kl_inj {s t : S} (h : s.kl = t.kl) : s = t := by
  obtain ⟨a, b, c, d, e⟩ := s
  obtain ⟨a', b', c', d', e'⟩ := t
  simp only [S.kl, kInts, List.cons.injEq, NestedKey.num.injEq, NestedKey.tup.injEq, and_true] at h
  obtain ⟨h1, h2, h3, h4, h5⟩ := h
  rw [h1, map_num_inj h2, map_num_inj h3, map_num_inj h4, h5]
/-- a state and what may still fail -/
abbrev Nd := S × Int
def Nd.d (n : Nd) : PyData := .tuple [n.1.d, .int n.2]
def Nd.kl (n : Nd) : List NestedKey := [.tup n.1.kl, .num n.2]
theorem Nd.kl_data (n : Nd) : (NestedKey.tup n.kl).data = n.d := by
  unfold Nd.kl Nd.d
  rw [← S.kl_data]
  simp [NestedKey.data, NestedKey.datas]
theorem Nd.kl_inj {n m : Nd} (h : n.kl = m.kl) : n = m := by
  obtain ⟨a, b⟩ := n
  obtain ⟨a', b'⟩ := m
  simp only [Nd.kl, List.cons.injEq, NestedKey.num.injEq, NestedKey.tup.injEq, and_true] at h
  rw [S.kl_inj h.1, h.2]
theorem kInts_depth (l : List Int) : (kInts l).depth ≤ 1 := by
  have h : ∀ l : List Int, NestedKey.depthAll (l.map .num) = 0 := fun l => by
    induction l with
    | nil => simp [NestedKey.depthAll]
    | cons x l ih => simp [NestedKey.depthAll, NestedKey.depth, ih]
  unfold kInts
  simp [NestedKey.depth, h]
theorem S.kl_depth (s : S) : (NestedKey.tup s.kl).depth ≤ 2 := by
  have h1 := kInts_depth s.past
  have h2 := kInts_depth s.on
  have h3 := kInts_depth s.off
  unfold S.kl
  simp only [NestedKey.depth, NestedKey.depthAll]
  omega
theorem Nd.kl_depth (n : Nd) : (NestedKey.tup n.kl).depth ≤ 3 := by
  have h := n.1.kl_depth
  unfold Nd.kl
  simp only [NestedKey.depth, NestedKey.depthAll]
  simp only [NestedKey.depth] at h
  omega

/-! ### one beat -/
def seenF (w : Wl) (s : S) : Int := (if 0 < w.lag then s.past.headD 0 else s.lev) - (if 0 < w.lag then s.past.headD 0 else s.lev) % w.step
def movesF (w : Wl) (s : S) : Int × Int :=
  if w.on ≤ seenF w s then (min w.starts s.ready, 0) else (0, if seenF w s ≤ w.off then (atI s.on (-1)).getD 0 else 0)
def agedOn (s : S) (a b : Int) : List Int := (a :: s.on).take (s.on.length - 1) ++ [(atI (a :: s.on) (-2)).getD 0 + (atI (a :: s.on) (-1)).getD 0 - b]
def agedOff (s : S) (b : Int) : List Int := (b :: s.off).take s.off.length
def agedRdy (s : S) (a b : Int) : Int := s.ready - a + (atI (b :: s.off) (-1)).getD 0
inductive Out where
  | over
  | dry
  | st (s : S)
def Out.d : Out → PyData
  | .over => .str "over"
  | .dry => .str "dry"
  | .st s => s.d
def ledF (w : Wl) (s : S) (a b i : Int) : Out :=
  if w.top < s.lev + i - w.drain * (agedOn s a b).sum then .over else if s.lev + i - w.drain * (agedOn s a b).sum < 0 then .dry else
    .st ⟨s.lev + i - w.drain * (agedOn s a b).sum, if 0 < w.lag then s.past.drop 1 ++ [s.lev] else [], agedOn s a b, agedOff s b, agedRdy s a b⟩
def stepF (w : Wl) (s : S) (i : Int) : Out := ledF w s (movesF w s).1 (movesF w s).2 i

/-! ### losses -/
def lessOne (xs : List Int) (p : Nat) : List Int := xs.take p ++ [(xs[p]?).getD 0 - 1] ++ xs.drop (p + 1)
def thOn (p : Nat) : PyData := .tuple [.str "on", .int ((p : Int) + 1)]
def thRest (p : Nat) : PyData := .tuple [.str "rest", .int ((p : Int) + 1)]
def thReady : PyData := .tuple [.str "ready"]
def thBeat (i : Int) : PyData := .tuple [.str "beat", .int i]
abbrev Ls := PyData × S
def Ls.d (x : Ls) : PyData := .tuple [x.1, x.2.d]
def lossOn (s : S) (p : Nat) : List Ls := if 0 < (s.on[p]?).getD 0 then [(thOn p, { s with on := lessOne s.on p })] else []
def lossOff (s : S) (p : Nat) : List Ls := if 0 < (s.off[p]?).getD 0 then [(thRest p, { s with off := lessOne s.off p })] else []
def lossRdy (s : S) : List Ls := if 0 < s.ready then [(thReady, { s with ready := s.ready - 1 })] else []
def losses (s : S) : List Ls := (List.range s.on.length).flatMap (lossOn s) ++ (List.range s.off.length).flatMap (lossOff s) ++ lossRdy s

/-! ### what may follow -/
abbrev Th := PyData × Option Nd
def ndO : Option Nd → PyData
  | none => .str "over"
  | some n => n.d
def Th.d (t : Th) : PyData := .tuple [t.1, ndO t.2]
def lossTh (n : Nd) : List Th := if 0 < n.2 then (losses n.1).map fun x => (x.1, some (x.2, n.2 - 1)) else []
def beat1 (w : Wl) (n : Nd) (i : Int) : List Th := match stepF w n.1 i with
  | .over => [(thBeat i, none)]
  | .dry => []
  | .st s => [(thBeat i, some (s, n.2))]
def rng (lo hi : Int) : List Int := (List.range (hi + 1 - lo).toNat).map fun i : Nat => lo + i
def thL (w : Wl) (lo hi : Int) (n : Nd) : List Th := lossTh n ++ (rng lo hi).flatMap (beat1 w n)
def beatP (w : Wl) (n : Nd) : List Int → List S → List Th
  | [], _ => []
  | i :: r, seen => match stepF w n.1 i with
    | .over => [(thBeat i, none)]
    | .dry => beatP w n r seen
    | .st s => if s ∈ seen then beatP w n r seen else (thBeat i, some (s, n.2)) :: beatP w n r (seen ++ [s])
def thP (w : Wl) (lo hi : Int) (n : Nd) : List Th := lossTh n ++ beatP w n (rng lo hi) []

/-! ### layers -/
abbrev KF := List Nd × List Nd
def visit : List Th → KF → Option KF
  | [], kf => some kf
  | (_, none) :: _, _ => none
  | (_, some n) :: r, kf => visit r (if n ∈ kf.1 then kf else (kf.1 ++ [n], kf.2 ++ [n]))
def layerF (th : Nd → List Th) : List Nd → KF → Option KF
  | [], kf => some kf
  | n :: r, kf => (visit (th n) kf).bind (layerF th r)
inductive Fine (th : Nd → List Th) : List Nd → List Nd → Prop
  | done (k : List Nd) : Fine th k []
  | over {k l : List Nd} (h : layerF th l (k, []) = none) : Fine th k l
  | next {k l k' f : List Nd} (h : layerF th l (k, []) = some (k', f)) (b : k'.length ≤ 80) (r : Fine th k' f) : Fine th k l
end Kw

/-! text D1 -/
/-! is_whole .. -/
namespace Kw
open PySem PySem.Spec PyProof.Rows L2 PySem.Calls
abbrev s_is_whole : Stmt := top 16
theorem sc_is_whole : FnScope ["thing", "least", "most"] ["thing", "least", "most"] (defScope s_is_whole) := ⟨rfl, rfl, rfl, by decide +kernel, rfl, by decide +kernel, by decide +kernel⟩
section
variable {P : Program} {w : World} {K : PySem.W.Frag} {mg : Str → Option Value} {base : Heap} {C1 C2 C3 : Addr}
def geD : PyData → Int → Bool
  | .int l, i => decide (l ≤ i)
  | _, _ => true
def leD : PyData → Int → Bool
  | .int l, i => decide (i ≤ l)
  | _, _ => true
def whole : PyData → PyData → PyData → Bool
  | .int i, lo, hi => geD lo i && leD hi i
  | _, _, _ => false
def isIN : PyData → Bool
  | .int _ => true
  | .none => true
  | _ => false
abbrev sp_is_whole (P : Program) (w : World) (K : PySem.W.Frag) : Sp := ASp (α := PyData × PyData × PyData) P w K (fun a => [a.1, a.2.1, a.2.2]) (fun a => isIN a.2.1 = true ∧ isIN a.2.2 = true) fun a r => r = .dat (.bool (whole a.1 a.2.1 a.2.2))
theorem ok_is_whole {f : Addr} {fd : FuncData} (T : Tx P K mg C1 C2 C3) (F : Fun K "is_whole" "is_whole" s_is_whole f fd) : FnG P w K mg base 1 f fd ["thing", "least", "most"] (sp_is_whole P w K) := by
  refine body_g F sc_is_whole (fun ds => rfl) (fun cdv ar up z H Q E hgd hr => ⟨_, (pss_cons (ps_if (PW.pt (pw_or (pt_not (pt_val (gIsinst (P := P) (w := w) (K := K) ⟨rfl, rfl, rfl⟩ (by rfl) T.b_isinstance (pv 0) (pe_bltn (v := .ty "int") (by rfl) T.b_int boot_ty_int rfl)))) (pw_or1 (pt_val (gIsinst (P := P) (w := w) (K := K) ⟨rfl, rfl, rfl⟩ (by rfl) T.b_isinstance (pv 0) (pe_bltn (v := .ty "bool") (by rfl) T.b_bool boot_ty_bool rfl)))))) (pss_one (ps_ret pe_bl)) pss_nil) (pss_one (ps_ret (pe_and (pe_or (pe_cmpR op_isN (pv 1) pe_non (nomark _)) (pe_one (pe_cmpR op_ge (pv 0) (pv 1) (nomark _)))) (pe_one (pe_or (pe_cmpR op_isN (pv 2) pe_non (nomark _)) (pe_one (pe_cmpR op_le (pv 0) (pv 2) (nomark _))))))))), fun a hp hq => ?_⟩)
  obtain ⟨d, lo, hi⟩ := a
  replace hq := hq _ rfl
  have key : ∀ i, d = .int i → whole d lo hi = ((isNone lo || geD lo i) && (isNone hi || leD hi i)) := fun i e => by
    subst e
    show (geD lo i && leD hi i) = _
    obtain ⟨h1, h2⟩ := hp
    cases lo <;> first | (cases h1; done) | skip
    all_goals cases hi <;> first | (cases h2; done) | rfl
  refine nx_seq (nx_if (b := !isInt d || isBool d) ?_ (fun hb => ?_) (fun hb => ?_))
  · (repeat' (first
      | exact hix | exact hix2 | exact hix3 | exact hix4
      | ((with_reducible apply ev_var) <;> rfl)
      | (with_reducible exact ev_int) | (with_reducible exact ev_bl) | (with_reducible exact ev_str) | (with_reducible exact ev_non) | (with_reducible exact eva_nil) | (with_reducible exact evo_none)
      | (with_reducible (first | apply eva_cons | apply ev_tup | apply evo_some | apply x_add | apply e_sub | apply x_mul | apply ev_mod | apply ev_neg | apply e_div))
      | refine e_lenN (evm_var rfl) rfl ?_
      | (with_reducible (first | apply x_len | apply x_ix | apply x_sl | apply ev_isN | apply ev_notN | apply ev_eqD | apply ev_neD | apply e_lt | apply ev_le | apply ev_gt | apply ev_ge | apply ev_isInt | apply ev_isBool | apply ev_isTup | apply ev_isStr | exact ⟨rfl, rfl⟩ | apply ev_min | apply ev_intc | apply ev_sumT | apply evt_B | apply evt_test | apply evt_not | apply evt_and | apply evt_or | apply ev_andV | apply ev_orV | apply ev_notV | apply ev_ite | intro _ | exact True.intro | rfl))
      | exact True.intro | exact ⟨rfl, rfl⟩ | exact Nat.le_of_ble_eq_true rfl | rfl))
  · refine nx_ret2 ev_bl ?_ (rt_of rfl hq)
    show PyData.bool false = .bool (whole d lo hi)
    cases d <;> first | rfl | (cases hb; done)
  · refine nx_next ?_
    obtain ⟨i, rfl⟩ : ∃ i, d = .int i := by cases d <;> first | exact ⟨_, rfl⟩ | (cases hb; done)
    refine nx_ret2 (ev_andV (b := isNone lo || geD lo i) (c := isNone hi || leD hi i) (ev_orV (ev_isN (ev_var rfl)) fun hn => ?_) fun _ => ev_orV (ev_isN (ev_var rfl)) fun hn => ?_) (by rw [key i rfl]) (rt_of rfl hq)
    · obtain ⟨l, rfl⟩ : ∃ l, lo = .int l := by
        obtain ⟨h1, h2⟩ := hp
        cases lo <;> first | exact ⟨_, rfl⟩ | (cases hn; done) | (cases h1; done)
      exact ev_ge (ev_var rfl) (ev_var rfl)
    · obtain ⟨l, rfl⟩ : ∃ l, hi = .int l := by
        obtain ⟨h1, h2⟩ := hp
        cases hi <;> first | exact ⟨_, rfl⟩ | (cases hn; done) | (cases h2; done)
      exact ev_le (ev_var rfl) (ev_var rfl)
theorem ec_whole {C : Ct} {Γ : List SV} {Δ : Dl} {W : WX} {t0 t1 t2 : TE} {d lo hi : PyData} (h0 : EV C Γ Δ t0 d) (h1 : EV C Γ Δ t1 lo) (h2 : EV C Γ Δ t2 hi) (o : isIN lo = true ∧ isIN hi = true) :
    EV C Γ Δ (tCallS (sp_is_whole C.P C.w C.K) (WE W) (tCons t0 (tCons t1 (tCons t2 tNil)))) (.bool (whole d lo hi)) := x_call (d, lo, hi) (eva_cons h0 (eva_cons h1 (eva_cons h2 eva_nil))) o rfl
end
end Kw

/-! text D2 -/
/-! wrong_part, need_well (EV-1) -/
namespace Kw
open PySem PySem.Spec PyProof.Rows L2 PySem.Calls
abbrev s_wrong_part : Stmt := top 17
theorem sc_wrong_part : FnScope ["thing", "top", "drain", "on", "off", "run", "rest", "starts", "step", "lag"] ["thing"] (defScope s_wrong_part) := ⟨rfl, rfl, rfl, by decide +kernel, rfl, by decide +kernel, by decide +kernel⟩
abbrev s_need_well : Stmt := top 18
theorem sc_need_well : FnScope ["thing", "part"] ["thing"] (defScope s_need_well) := ⟨rfl, rfl, rfl, by decide +kernel, rfl, by decide +kernel, by decide +kernel⟩
section
variable {P : Program} {w : World} {K : PySem.W.Frag} {mg : Str → Option Value} {base : Heap} {C1 C2 C3 : Addr}
abbrev sp_wrong_part (P : Program) (w : World) (K : PySem.W.Frag) : Sp := ASp (α := Wl) P w K (fun v => [v.d]) Wl.Ok fun v r => r = .dat .none
theorem ok_wrong_part {f : Addr} {fd : FuncData} (T : Tx P K mg C1 C2 C3) (F : Fun K "wrong_part" "wrong_part" s_wrong_part f fd) (c_is_whole : Cl P w K mg base 1 "is_whole" (sp_is_whole P w K)) : FnG P w K mg base 2 f fd ["thing"] (sp_wrong_part P w K) := by
  refine body_g F sc_wrong_part (fun a => rfl) (fun cdv ar up z H Q E hgd hr => ⟨_, (pss_cons (ps_asg (pv 0) (gTupT (n := 9) (P := P) (w := w) (K := K) ⟨rfl, rfl, rfl⟩ rfl (pgs_cons (pg_name (i := 1) sc_wrong_part.nd rfl (by first | exact Or.inl rfl | exact Or.inr rfl)) (pgs_cons (pg_name (i := 2) sc_wrong_part.nd rfl (by first | exact Or.inl rfl | exact Or.inr rfl)) (pgs_cons (pg_name (i := 3) sc_wrong_part.nd rfl (by first | exact Or.inl rfl | exact Or.inr rfl)) (pgs_cons (pg_name (i := 4) sc_wrong_part.nd rfl (by first | exact Or.inl rfl | exact Or.inr rfl)) (pgs_cons (pg_name (i := 5) sc_wrong_part.nd rfl (by first | exact Or.inl rfl | exact Or.inr rfl)) (pgs_cons (pg_name (i := 6) sc_wrong_part.nd rfl (by first | exact Or.inl rfl | exact Or.inr rfl)) (pgs_cons (pg_name (i := 7) sc_wrong_part.nd rfl (by first | exact Or.inl rfl | exact Or.inr rfl)) (pgs_cons (pg_name (i := 8) sc_wrong_part.nd rfl (by first | exact Or.inl rfl | exact Or.inr rfl)) (pgs_cons (pg_name (i := 9) sc_wrong_part.nd rfl (by first | exact Or.inl rfl | exact Or.inr rfl)) pgs_nil))))))))) rfl rfl)) (pss_cons (ps_if (pt_not (pt_val (gCl (P := P) (w := w) (K := K) ⟨rfl, rfl, rfl⟩ rfl rfl c_is_whole hr hgd (by rfl) takesF (pa_cons (pv 1) (pa_cons pe_int (pa_cons (pe_k (by rfl) T.c_MOST_TOP) pa_nil)))))) (pss_one (ps_ret pe_str)) pss_nil) (pss_cons (ps_if (pt_not (pt_val (gCl (P := P) (w := w) (K := K) ⟨rfl, rfl, rfl⟩ rfl rfl c_is_whole hr hgd (by rfl) takesF (pa_cons (pv 2) (pa_cons pe_int (pa_cons (pe_k (by rfl) T.c_MOST_DRAIN) pa_nil)))))) (pss_one (ps_ret pe_str)) pss_nil) (pss_cons (ps_if (pt_not (pt_val (gCl (P := P) (w := w) (K := K) ⟨rfl, rfl, rfl⟩ rfl rfl c_is_whole hr hgd (by rfl) takesF (pa_cons (pv 3) (pa_cons pe_int (pa_cons (pv 1) pa_nil)))))) (pss_one (ps_ret pe_str)) pss_nil) (pss_cons (ps_if (pt_not (pt_val (gCl (P := P) (w := w) (K := K) ⟨rfl, rfl, rfl⟩ rfl rfl c_is_whole hr hgd (by rfl) takesF (pa_cons (pv 4) (pa_cons pe_int (pa_cons (pe_op op_sub (pv 3) pe_int) pa_nil)))))) (pss_one (ps_ret pe_str)) pss_nil) (pss_cons (ps_if (pt_not (pt_val (gCl (P := P) (w := w) (K := K) ⟨rfl, rfl, rfl⟩ rfl rfl c_is_whole hr hgd (by rfl) takesF (pa_cons (pv 5) (pa_cons pe_int (pa_cons (pe_k (by rfl) T.c_MOST_AGE) pa_nil)))))) (pss_one (ps_ret pe_str)) pss_nil) (pss_cons (ps_if (pt_not (pt_val (gCl (P := P) (w := w) (K := K) ⟨rfl, rfl, rfl⟩ rfl rfl c_is_whole hr hgd (by rfl) takesF (pa_cons (pv 6) (pa_cons pe_int (pa_cons (pe_k (by rfl) T.c_MOST_AGE) pa_nil)))))) (pss_one (ps_ret pe_str)) pss_nil) (pss_cons (ps_if (pt_not (pt_val (gCl (P := P) (w := w) (K := K) ⟨rfl, rfl, rfl⟩ rfl rfl c_is_whole hr hgd (by rfl) takesF (pa_cons (pv 7) (pa_cons pe_int (pa_cons (pe_k (by rfl) T.c_MOST_STARTS) pa_nil)))))) (pss_one (ps_ret pe_str)) pss_nil) (pss_cons (ps_if (pt_not (pt_val (gCl (P := P) (w := w) (K := K) ⟨rfl, rfl, rfl⟩ rfl rfl c_is_whole hr hgd (by rfl) takesF (pa_cons (pv 8) (pa_cons pe_int (pa_cons (pe_k (by rfl) T.c_MOST_STEP) pa_nil)))))) (pss_one (ps_ret pe_str)) pss_nil) (pss_one (ps_ret (pe_ifExp (pt_val (gCl (P := P) (w := w) (K := K) ⟨rfl, rfl, rfl⟩ rfl rfl c_is_whole hr hgd (by rfl) takesF (pa_cons (pv 9) (pa_cons pe_int (pa_cons (pe_k (by rfl) T.c_MOST_LAG) pa_nil))))) pe_non pe_str)))))))))))), fun v hv hq => ?_⟩)
  replace hq := hq _ rfl
  obtain ⟨⟨h1, h2⟩, ⟨h3, h4⟩, ⟨h5, h6⟩, ⟨h7, h8⟩, ⟨h9, h10⟩, ⟨h11, h12⟩, ⟨h13, h14⟩, ⟨h15, h16⟩, ⟨h17, h18⟩⟩ := hv
  refine nx_sq (nx_unpack (js := [1, 2, 3, 4, 5, 6, 7, 8, 9]) (ds := [.int v.top, .int v.drain, .int v.on, .int v.off, .int v.run, .int v.rest, .int v.starts, .int v.step, .int v.lag]) (ev_var rfl) rfl rfl ?_)
  iterate 8
    (try dsimp only [List.set, setAll])
    refine nx_sq ?_
    apply nx_ifF
    · (repeat' (first
      | exact hix | exact hix2 | exact hix3 | exact hix4
      | ((with_reducible apply ev_var) <;> rfl)
      | (with_reducible exact ev_int) | (with_reducible exact ev_bl) | (with_reducible exact ev_str) | (with_reducible exact ev_non) | (with_reducible exact eva_nil) | (with_reducible exact evo_none)
      | (with_reducible (first | apply eva_cons | apply ev_tup | apply evo_some | apply x_add | apply e_sub | apply x_mul | apply ev_mod | apply ev_neg | apply e_div))
      | refine e_lenN (evm_var rfl) rfl ?_
      | (with_reducible (first | apply x_len | apply x_ix | apply x_sl | apply ev_isN | apply ev_notN | apply ev_eqD | apply ev_neD | apply e_lt | apply ev_le | apply ev_gt | apply ev_ge | apply ev_isInt | apply ev_isBool | apply ev_isTup | apply ev_isStr | apply ec_whole | exact ⟨rfl, rfl⟩ | apply ev_min | apply ev_intc | apply ev_sumT | apply evt_B | apply evt_test | apply evt_not | apply evt_and | apply evt_or | apply ev_andV | apply ev_orV | apply ev_notV | apply ev_ite | intro _ | exact True.intro | rfl))
      | exact True.intro | exact ⟨rfl, rfl⟩ | exact Nat.le_of_ble_eq_true rfl | rfl))
    · (simp [whole, geD, leD]; omega)
    refine nx_nx ?_
  (try dsimp only [List.set, setAll])
  apply nx_ret2 (k := rt_of rfl hq)
  · (repeat' (first
      | exact hix | exact hix2 | exact hix3 | exact hix4
      | ((with_reducible apply ev_var) <;> rfl)
      | (with_reducible exact ev_int) | (with_reducible exact ev_bl) | (with_reducible exact ev_str) | (with_reducible exact ev_non) | (with_reducible exact eva_nil) | (with_reducible exact evo_none)
      | (with_reducible (first | apply eva_cons | apply ev_tup | apply evo_some | apply x_add | apply e_sub | apply x_mul | apply ev_mod | apply ev_neg | apply e_div))
      | refine e_lenN (evm_var rfl) rfl ?_
      | (with_reducible (first | apply x_len | apply x_ix | apply x_sl | apply ev_isN | apply ev_notN | apply ev_eqD | apply ev_neD | apply e_lt | apply ev_le | apply ev_gt | apply ev_ge | apply ev_isInt | apply ev_isBool | apply ev_isTup | apply ev_isStr | apply ec_whole | exact ⟨rfl, rfl⟩ | apply ev_min | apply ev_intc | apply ev_sumT | apply evt_B | apply evt_test | apply evt_not | apply evt_and | apply evt_or | apply ev_andV | apply ev_orV | apply ev_notV | apply ev_ite | intro _ | exact True.intro | rfl))
      | exact True.intro | exact ⟨rfl, rfl⟩ | exact Nat.le_of_ble_eq_true rfl | rfl))
  · (simp [whole, geD, leD]; omega)
abbrev sp_need_well (C1 : Addr) (P : Program) (w : World) (K : PySem.W.Frag) : Sp := ASp (α := Wl × Bool) P w K (fun a => [if a.2 then a.1.d else .tuple (a.1.l.take 8)]) (fun a => a.1.Ok) fun a r => r = if a.2 then .dat a.1.d else .exc C1 (some "form")
theorem ok_need_well {f : Addr} {fd : FuncData} (T : Tx P K mg C1 C2 C3) (F : Fun K "need_well" "need_well" s_need_well f fd) (c_wrong_part : Cl P w K mg base 2 "wrong_part" (sp_wrong_part P w K)) : FnG P w K mg base 3 f fd ["thing"] (sp_need_well C1 P w K) := by
  refine body_g F sc_need_well (fun a => rfl) (fun cdv ar up z H Q E hgd hr => ⟨_, (pss_cons (ps_if (PW.pt (pw_or (pt_not (pt_val (gIsinst (P := P) (w := w) (K := K) ⟨rfl, rfl, rfl⟩ (by rfl) T.b_isinstance (pv 0) (pe_bltn (v := .ty "tuple") (by rfl) T.b_tuple boot_ty_tuple rfl)))) (pw_or1 (pt_cmpR (gNe (P := P) (w := w) (K := K) ⟨rfl, rfl, rfl⟩ (hu65 hr)) (pe_callB (gLen (P := P) (w := w) (K := K) ⟨rfl, rfl, rfl⟩ (hu65 hr)) (by rfl) T.b_len boot_k_len (pa_cons (pv 0) pa_nil)) pe_int (nomark _))))) (pss_one (ps_raise rfl (takes_of rfl rfl rfl rfl) (pmk_part (k := 0) T.ox1 T.rx1 (hr.mono (by decide)) (by rfl) T.mx1 (pa_cons pe_str pa_nil)))) pss_nil) (pss_cons (ps_set (i := 1) sc_need_well.nd rfl (by first | exact Or.inl rfl | exact Or.inr rfl) (gCl (P := P) (w := w) (K := K) ⟨rfl, rfl, rfl⟩ rfl rfl c_wrong_part hr hgd (by rfl) (takes_of rfl rfl rfl rfl) (pa_cons (pv 0) pa_nil))) (pss_cons (ps_if (pt_cmpR op_notN (pv 1) pe_non (nomark _)) (pss_one (ps_raise rfl (takes_of rfl rfl rfl rfl) (pmk_part (k := 0) T.ox1 T.rx1 (hr.mono (by decide)) (by rfl) T.mx1 (pa_cons (pv 1) pa_nil)))) pss_nil) (pss_one (ps_ret (pv 0)))))), fun v hv hq => ?_⟩)
  obtain ⟨v, b⟩ := v
  replace hq := hq _ rfl
  replace hv : v.Ok := hv
  cases b with
  | true =>
    show Nx _ [.dat v.d, .any] _ _
    replace hq : RsOk P w K H Q E (.dat v.d) := hq
    (try dsimp only [List.set, setAll])
    refine nx_sq ?_
    apply nx_ifF
    · (repeat' (first
      | exact hix | exact hix2 | exact hix3 | exact hix4
      | ((with_reducible apply ev_var) <;> rfl)
      | (with_reducible exact ev_int) | (with_reducible exact ev_bl) | (with_reducible exact ev_str) | (with_reducible exact ev_non) | (with_reducible exact eva_nil) | (with_reducible exact evo_none)
      | (with_reducible (first | apply eva_cons | apply ev_tup | apply evo_some | apply x_add | apply e_sub | apply x_mul | apply ev_mod | apply ev_neg | apply e_div))
      | refine e_lenN (evm_var rfl) rfl ?_
      | (with_reducible (first | apply x_len | apply x_ix | apply x_sl | apply ev_isN | apply ev_notN | apply ev_eqD | apply ev_neD | apply e_lt | apply ev_le | apply ev_gt | apply ev_ge | apply ev_isInt | apply ev_isBool | apply ev_isTup | apply ev_isStr | apply ec_whole | exact ⟨rfl, rfl⟩ | apply ev_min | apply ev_intc | apply ev_sumT | apply evt_B | apply evt_test | apply evt_not | apply evt_and | apply evt_or | apply ev_andV | apply ev_orV | apply ev_notV | apply ev_ite | intro _ | exact True.intro | rfl))
      | exact True.intro | exact ⟨rfl, rfl⟩ | exact Nat.le_of_ble_eq_true rfl | rfl))
    · rfl
    refine nx_nx ?_
    (try dsimp only [List.set, setAll])
    refine nx_sq ?_
    refine nx_asgC (cl_call (α := Wl) v ?_ hv) fun r hr => ?_
    · (repeat' (first
      | exact hix | exact hix2 | exact hix3 | exact hix4
      | ((with_reducible apply ev_var) <;> rfl)
      | (with_reducible exact ev_int) | (with_reducible exact ev_bl) | (with_reducible exact ev_str) | (with_reducible exact ev_non) | (with_reducible exact eva_nil) | (with_reducible exact evo_none)
      | (with_reducible (first | apply eva_cons | apply ev_tup | apply evo_some | apply x_add | apply e_sub | apply x_mul | apply ev_mod | apply ev_neg | apply e_div))
      | refine e_lenN (evm_var rfl) rfl ?_
      | (with_reducible (first | apply x_len | apply x_ix | apply x_sl | apply ev_isN | apply ev_notN | apply ev_eqD | apply ev_neD | apply e_lt | apply ev_le | apply ev_gt | apply ev_ge | apply ev_isInt | apply ev_isBool | apply ev_isTup | apply ev_isStr | apply ec_whole | exact ⟨rfl, rfl⟩ | apply ev_min | apply ev_intc | apply ev_sumT | apply evt_B | apply evt_test | apply evt_not | apply evt_and | apply evt_or | apply ev_andV | apply ev_orV | apply ev_notV | apply ev_ite | intro _ | exact True.intro | rfl))
      | exact True.intro | exact ⟨rfl, rfl⟩ | exact Nat.le_of_ble_eq_true rfl | rfl))
    subst hr
    refine nxc_dat rfl ?_
    (try dsimp only [List.set, setAll])
    refine nx_sq ?_
    apply nx_ifF
    · (repeat' (first
      | exact hix | exact hix2 | exact hix3 | exact hix4
      | ((with_reducible apply ev_var) <;> rfl)
      | (with_reducible exact ev_int) | (with_reducible exact ev_bl) | (with_reducible exact ev_str) | (with_reducible exact ev_non) | (with_reducible exact eva_nil) | (with_reducible exact evo_none)
      | (with_reducible (first | apply eva_cons | apply ev_tup | apply evo_some | apply x_add | apply e_sub | apply x_mul | apply ev_mod | apply ev_neg | apply e_div))
      | refine e_lenN (evm_var rfl) rfl ?_
      | (with_reducible (first | apply x_len | apply x_ix | apply x_sl | apply ev_isN | apply ev_notN | apply ev_eqD | apply ev_neD | apply e_lt | apply ev_le | apply ev_gt | apply ev_ge | apply ev_isInt | apply ev_isBool | apply ev_isTup | apply ev_isStr | apply ec_whole | exact ⟨rfl, rfl⟩ | apply ev_min | apply ev_intc | apply ev_sumT | apply evt_B | apply evt_test | apply evt_not | apply evt_and | apply evt_or | apply ev_andV | apply ev_orV | apply ev_notV | apply ev_ite | intro _ | exact True.intro | rfl))
      | exact True.intro | exact ⟨rfl, rfl⟩ | exact Nat.le_of_ble_eq_true rfl | rfl))
    · rfl
    refine nx_nx ?_
    (try dsimp only [List.set, setAll])
    refine nx_ret ?_ (rt_of rfl hq)
    (repeat' (first
      | exact hix | exact hix2 | exact hix3 | exact hix4
      | ((with_reducible apply ev_var) <;> rfl)
      | (with_reducible exact ev_int) | (with_reducible exact ev_bl) | (with_reducible exact ev_str) | (with_reducible exact ev_non) | (with_reducible exact eva_nil) | (with_reducible exact evo_none)
      | (with_reducible (first | apply eva_cons | apply ev_tup | apply evo_some | apply x_add | apply e_sub | apply x_mul | apply ev_mod | apply ev_neg | apply e_div))
      | refine e_lenN (evm_var rfl) rfl ?_
      | (with_reducible (first | apply x_len | apply x_ix | apply x_sl | apply ev_isN | apply ev_notN | apply ev_eqD | apply ev_neD | apply e_lt | apply ev_le | apply ev_gt | apply ev_ge | apply ev_isInt | apply ev_isBool | apply ev_isTup | apply ev_isStr | apply ec_whole | exact ⟨rfl, rfl⟩ | apply ev_min | apply ev_intc | apply ev_sumT | apply evt_B | apply evt_test | apply evt_not | apply evt_and | apply evt_or | apply ev_andV | apply ev_orV | apply ev_notV | apply ev_ite | intro _ | exact True.intro | rfl))
      | exact True.intro | exact ⟨rfl, rfl⟩ | exact Nat.le_of_ble_eq_true rfl | rfl))
  | false =>
    show Nx _ [.dat (.tuple (v.l.take 8)), .any] _ _
    replace hq : RsOk P w K H Q E (.exc C1 (some "form")) := hq
    (try dsimp only [List.set, setAll])
    refine nx_sq ?_
    apply nx_ifT
    · (repeat' (first
      | exact hix | exact hix2 | exact hix3 | exact hix4
      | ((with_reducible apply ev_var) <;> rfl)
      | (with_reducible exact ev_int) | (with_reducible exact ev_bl) | (with_reducible exact ev_str) | (with_reducible exact ev_non) | (with_reducible exact eva_nil) | (with_reducible exact evo_none)
      | (with_reducible (first | apply eva_cons | apply ev_tup | apply evo_some | apply x_add | apply e_sub | apply x_mul | apply ev_mod | apply ev_neg | apply e_div))
      | refine e_lenN (evm_var rfl) rfl ?_
      | (with_reducible (first | apply x_len | apply x_ix | apply x_sl | apply ev_isN | apply ev_notN | apply ev_eqD | apply ev_neD | apply e_lt | apply ev_le | apply ev_gt | apply ev_ge | apply ev_isInt | apply ev_isBool | apply ev_isTup | apply ev_isStr | apply ec_whole | exact ⟨rfl, rfl⟩ | apply ev_min | apply ev_intc | apply ev_sumT | apply evt_B | apply evt_test | apply evt_not | apply evt_and | apply evt_or | apply ev_andV | apply ev_orV | apply ev_notV | apply ev_ite | intro _ | exact True.intro | rfl))
      | exact True.intro | exact ⟨rfl, rfl⟩ | exact Nat.le_of_ble_eq_true rfl | rfl))
    · rfl
    exact nx_raiseP ev_str hq
end
end Kw

/-! text D3 -/
/-! are_counts, are_levels, number_of, is_state_of, is_state, number_in, is_few -/
namespace Kw
open PySem PySem.Spec PyProof.Rows L2 PySem.Calls
abbrev s_are_counts : Stmt := top 19
theorem sc_are_counts : FnScope ["thing", "many", "count"] ["thing", "many"] (defScope s_are_counts) := ⟨rfl, rfl, rfl, by decide +kernel, rfl, by decide +kernel, by decide +kernel⟩
abbrev s_are_levels : Stmt := top 20
theorem sc_are_levels : FnScope ["well", "thing", "many", "level"] ["well", "thing", "many"] (defScope s_are_levels) := ⟨rfl, rfl, rfl, by decide +kernel, rfl, by decide +kernel, by decide +kernel⟩
abbrev s_number_of : Stmt := top 22
theorem sc_number_of : FnScope ["state"] ["state"] (defScope s_number_of) := ⟨rfl, rfl, rfl, by decide +kernel, rfl, by decide +kernel, by decide +kernel⟩
abbrev s_is_state_of : Stmt := top 21
theorem sc_is_state_of : FnScope ["well", "thing"] ["well", "thing"] (defScope s_is_state_of) := ⟨rfl, rfl, rfl, by decide +kernel, rfl, by decide +kernel, by decide +kernel⟩
abbrev s_is_state : Stmt := top 23
theorem sc_is_state : FnScope ["well", "value"] ["well", "value"] (defScope s_is_state) := ⟨rfl, rfl, rfl, by decide +kernel, rfl, by decide +kernel, by decide +kernel⟩
abbrev s_number_in : Stmt := top 36
theorem sc_number_in : FnScope ["state"] ["state"] (defScope s_number_in) := ⟨rfl, rfl, rfl, by decide +kernel, rfl, by decide +kernel, by decide +kernel⟩
abbrev s_is_few : Stmt := top 37
theorem sc_is_few : FnScope ["well", "thing"] ["well", "thing"] (defScope s_is_few) := ⟨rfl, rfl, rfl, by decide +kernel, rfl, by decide +kernel, by decide +kernel⟩
def counts (d : PyData) (n : Int) : Bool := match d with
  | .tuple ds => decide ((ds.length : Int) = n) && ds.all fun c => whole c (.int 0) (.int 1000)
  | _ => false
def levels (v : Wl) (d : PyData) (n : Int) : Bool := match d with
  | .tuple ds => decide ((ds.length : Int) = n) && ds.all fun c => whole c (.int 0) (.int v.top)
  | _ => false
def sm : PyData → Prop
  | .tuple ds => ds.length ≤ 1000
  | _ => True
theorem eqv_ints (i j : Int) : PyData.eqv (.int i) (.int j) = decide (i = j) := by
  rw [PyData.eqv]
  rw [Bool.eq_iff_iff]
  simp
section
variable {P : Program} {w : World} {K : PySem.W.Frag} {mg : Str → Option Value} {base : Heap} {C1 C2 C3 : Addr}
abbrev sp_are_counts (P : Program) (w : World) (K : PySem.W.Frag) : Sp := ASp (α := PyData × Int) P w K (fun a => [a.1, .int a.2]) (fun a => sm a.1) fun a r => r = .dat (.bool (counts a.1 a.2))
theorem ok_are_counts {f : Addr} {fd : FuncData} (T : Tx P K mg C1 C2 C3) (F : Fun K "are_counts" "are_counts" s_are_counts f fd) (c_is_whole : Cl P w K mg base 1 "is_whole" (sp_is_whole P w K)) : FnG P w K mg base 2 f fd ["thing", "many"] (sp_are_counts P w K) := by
  refine body_g F sc_are_counts (fun a => rfl) (fun cdv ar up z H Q E hgd hr => ⟨_, (pss_cons (ps_if (PW.pt (pw_or (pt_not (pt_val (gIsinst (P := P) (w := w) (K := K) ⟨rfl, rfl, rfl⟩ (by rfl) T.b_isinstance (pv 0) (pe_bltn (v := .ty "tuple") (by rfl) T.b_tuple boot_ty_tuple rfl)))) (pw_or1 (pt_cmpR (gNe (P := P) (w := w) (K := K) ⟨rfl, rfl, rfl⟩ (hu65 hr)) (pe_callB (gLen (P := P) (w := w) (K := K) ⟨rfl, rfl, rfl⟩ (hu65 hr)) (by rfl) T.b_len boot_k_len (pa_cons (pv 0) pa_nil)) (pv 1) (nomark _))))) (pss_one (ps_ret pe_bl)) pss_nil) (pss_one (ps_ret (pe_callB (gAll (P := P) (w := w) (K := K) ⟨rfl, rfl, rfl⟩ rfl) (by rfl) T.b_all boot_k_all (pa_cons (pe_lc (own := [("count", 2)]) rfl sc_are_counts.nd (gIt (P := P) (w := w) (K := K) ⟨rfl, rfl, rfl⟩ (pv 0)) (blkOk_by (N := ["thing", "many", "count"]) (sc := defScope s_are_counts) (by decide +kernel)) (fun _ _ _ _ _ => (pg_name (i := 2) sc_are_counts.nd rfl (by first | exact Or.inl rfl | exact Or.inr rfl))) (fun _ _ _ _ _ => pts_nil) (fun _ _ _ _ _ => (gCl (P := P) (w := w) (K := K) ⟨rfl, rfl, rfl⟩ rfl rfl c_is_whole hr hgd (by rfl) takesF (pa_cons (pv 2) (pa_cons pe_int (pa_cons (pe_k (by rfl) T.c_MOST_COUNT) pa_nil)))))) pa_nil))))), fun v hv hq => ?_⟩)
  obtain ⟨d, n⟩ := v
  replace hq := hq _ rfl
  replace hv : sm d := hv
  replace hq : RsOk P w K H Q E (.dat (.bool (counts d n))) := hq
  show Nx _ [.dat d, .dat (.int n), .any] _ _
  by_cases ht : isTup d = true
  · obtain ⟨ds, rfl⟩ : ∃ ds, d = .tuple ds := by cases d <;> first | exact ⟨_, rfl⟩ | cases ht
    replace hv : ds.length ≤ 1000 := hv
    by_cases hl : (ds.length : Int) = n
    · skip
      (try dsimp only [List.set, setAll])
      refine nx_sq ?_
      apply nx_ifF
      · (repeat' (first
      | exact hix | exact hix2 | exact hix3 | exact hix4
      | ((with_reducible apply ev_var) <;> rfl)
      | (with_reducible exact ev_int) | (with_reducible exact ev_bl) | (with_reducible exact ev_str) | (with_reducible exact ev_non) | (with_reducible exact eva_nil) | (with_reducible exact evo_none)
      | (with_reducible (first | apply eva_cons | apply ev_tup | apply evo_some | apply x_add | apply e_sub | apply x_mul | apply ev_mod | apply ev_neg | apply e_div))
      | refine e_lenN (evm_var rfl) rfl ?_
      | (with_reducible (first | apply x_len | apply x_ix | apply x_sl | apply ev_isN | apply ev_notN | apply ev_eqD | apply ev_neD | apply e_lt | apply ev_le | apply ev_gt | apply ev_ge | apply ev_isInt | apply ev_isBool | apply ev_isTup | apply ev_isStr | apply ec_whole | apply eca_counts | apply eca_levels | exact ⟨rfl, rfl⟩ | apply ev_min | apply ev_intc | apply ev_sumT | apply evt_B | apply evt_test | apply evt_not | apply evt_and | apply evt_or | apply ev_andV | apply ev_orV | apply ev_notV | apply ev_ite | intro _ | exact True.intro | rfl))
      | exact True.intro | exact ⟨rfl, rfl⟩ | exact Nat.le_of_ble_eq_true rfl | rfl))
      · (simp [isTup, eqv_ints, hl])
      refine nx_nx ?_
      (try dsimp only [List.set, setAll])
      refine nx_ret2 (ev_all (bs := ds.map fun c => whole c (.int 0) (.int 1000)) (EV.to (evl_ev (evl_map (fun c => .bool (whole c (.int 0) (.int 1000))) (w_tup (ev_var rfl)) (by omega) fun D hs acc c hc => ⟨[2], _, tg_name, by simp, ?_⟩)) ?_)) ?_ (rt_of rfl hq)
      · (repeat' (first
      | exact hix | exact hix2 | exact hix3 | exact hix4
      | ((with_reducible apply ev_var) <;> rfl)
      | (with_reducible exact ev_int) | (with_reducible exact ev_bl) | (with_reducible exact ev_str) | (with_reducible exact ev_non) | (with_reducible exact eva_nil) | (with_reducible exact evo_none)
      | (with_reducible (first | apply eva_cons | apply ev_tup | apply evo_some | apply x_add | apply e_sub | apply x_mul | apply ev_mod | apply ev_neg | apply e_div))
      | refine e_lenN (evm_var rfl) rfl ?_
      | (with_reducible (first | apply x_len | apply x_ix | apply x_sl | apply ev_isN | apply ev_notN | apply ev_eqD | apply ev_neD | apply e_lt | apply ev_le | apply ev_gt | apply ev_ge | apply ev_isInt | apply ev_isBool | apply ev_isTup | apply ev_isStr | apply ec_whole | apply eca_counts | apply eca_levels | exact ⟨rfl, rfl⟩ | apply ev_min | apply ev_intc | apply ev_sumT | apply evt_B | apply evt_test | apply evt_not | apply evt_and | apply evt_or | apply ev_andV | apply ev_orV | apply ev_notV | apply ev_ite | intro _ | exact True.intro | rfl))
      | exact True.intro | exact ⟨rfl, rfl⟩ | exact Nat.le_of_ble_eq_true rfl | rfl))
      · simp [Function.comp_def]
      · show PyData.bool _ = .bool (counts (.tuple ds) n)
        simp [counts, hl, List.all_map, Function.comp_def]
    · skip
      (try dsimp only [List.set, setAll])
      refine nx_sq ?_
      apply nx_ifT
      · (repeat' (first
      | exact hix | exact hix2 | exact hix3 | exact hix4
      | ((with_reducible apply ev_var) <;> rfl)
      | (with_reducible exact ev_int) | (with_reducible exact ev_bl) | (with_reducible exact ev_str) | (with_reducible exact ev_non) | (with_reducible exact eva_nil) | (with_reducible exact evo_none)
      | (with_reducible (first | apply eva_cons | apply ev_tup | apply evo_some | apply x_add | apply e_sub | apply x_mul | apply ev_mod | apply ev_neg | apply e_div))
      | refine e_lenN (evm_var rfl) rfl ?_
      | (with_reducible (first | apply x_len | apply x_ix | apply x_sl | apply ev_isN | apply ev_notN | apply ev_eqD | apply ev_neD | apply e_lt | apply ev_le | apply ev_gt | apply ev_ge | apply ev_isInt | apply ev_isBool | apply ev_isTup | apply ev_isStr | apply ec_whole | apply eca_counts | apply eca_levels | exact ⟨rfl, rfl⟩ | apply ev_min | apply ev_intc | apply ev_sumT | apply evt_B | apply evt_test | apply evt_not | apply evt_and | apply evt_or | apply ev_andV | apply ev_orV | apply ev_notV | apply ev_ite | intro _ | exact True.intro | rfl))
      | exact True.intro | exact ⟨rfl, rfl⟩ | exact Nat.le_of_ble_eq_true rfl | rfl))
      · (simp [isTup, eqv_ints, hl])
      exact nx_ret2 ev_bl (by simp [counts, hl]) (rt_of rfl hq)
  · (try dsimp only [List.set, setAll])
    refine nx_sq ?_
    apply nx_ifT (b := true)
    · apply evt_orT
      · (repeat' (first
      | exact hix | exact hix2 | exact hix3 | exact hix4
      | ((with_reducible apply ev_var) <;> rfl)
      | (with_reducible exact ev_int) | (with_reducible exact ev_bl) | (with_reducible exact ev_str) | (with_reducible exact ev_non) | (with_reducible exact eva_nil) | (with_reducible exact evo_none)
      | (with_reducible (first | apply eva_cons | apply ev_tup | apply evo_some | apply x_add | apply e_sub | apply x_mul | apply ev_mod | apply ev_neg | apply e_div))
      | refine e_lenN (evm_var rfl) rfl ?_
      | (with_reducible (first | apply x_len | apply x_ix | apply x_sl | apply ev_isN | apply ev_notN | apply ev_eqD | apply ev_neD | apply e_lt | apply ev_le | apply ev_gt | apply ev_ge | apply ev_isInt | apply ev_isBool | apply ev_isTup | apply ev_isStr | apply ec_whole | apply eca_counts | apply eca_levels | exact ⟨rfl, rfl⟩ | apply ev_min | apply ev_intc | apply ev_sumT | apply evt_B | apply evt_test | apply evt_not | apply evt_and | apply evt_or | apply ev_andV | apply ev_orV | apply ev_notV | apply ev_ite | intro _ | exact True.intro | rfl))
      | exact True.intro | exact ⟨rfl, rfl⟩ | exact Nat.le_of_ble_eq_true rfl | rfl))
      · simp at ht; simp [ht]
    · rfl
    · exact nx_ret2 ev_bl (by cases d <;> first | rfl | (exact absurd rfl ht)) (rt_of rfl hq)
abbrev sp_are_levels (P : Program) (w : World) (K : PySem.W.Frag) : Sp := ASp (α := Wl × PyData × Int) P w K (fun a => [a.1.d, a.2.1, .int a.2.2]) (fun a => sm a.2.1) fun a r => r = .dat (.bool (levels a.1 a.2.1 a.2.2))
theorem ok_are_levels {f : Addr} {fd : FuncData} (T : Tx P K mg C1 C2 C3) (F : Fun K "are_levels" "are_levels" s_are_levels f fd) (c_is_whole : Cl P w K mg base 1 "is_whole" (sp_is_whole P w K)) : FnG P w K mg base 2 f fd ["well", "thing", "many"] (sp_are_levels P w K) := by
  refine body_g F sc_are_levels (fun a => rfl) (fun cdv ar up z H Q E hgd hr => ⟨_, (pss_cons (ps_if (PW.pt (pw_or (pt_not (pt_val (gIsinst (P := P) (w := w) (K := K) ⟨rfl, rfl, rfl⟩ (by rfl) T.b_isinstance (pv 1) (pe_bltn (v := .ty "tuple") (by rfl) T.b_tuple boot_ty_tuple rfl)))) (pw_or1 (pt_cmpR (gNe (P := P) (w := w) (K := K) ⟨rfl, rfl, rfl⟩ (hu65 hr)) (pe_callB (gLen (P := P) (w := w) (K := K) ⟨rfl, rfl, rfl⟩ (hu65 hr)) (by rfl) T.b_len boot_k_len (pa_cons (pv 1) pa_nil)) (pv 2) (nomark _))))) (pss_one (ps_ret pe_bl)) pss_nil) (pss_one (ps_ret (pe_callB (gAll (P := P) (w := w) (K := K) ⟨rfl, rfl, rfl⟩ rfl) (by rfl) T.b_all boot_k_all (pa_cons (pe_lc (own := [("level", 3)]) rfl sc_are_levels.nd (gIt (P := P) (w := w) (K := K) ⟨rfl, rfl, rfl⟩ (pv 1)) (blkOk_by (N := ["well", "thing", "many", "level"]) (sc := defScope s_are_levels) (by decide +kernel)) (fun _ _ _ _ _ => (pg_name (i := 3) sc_are_levels.nd rfl (by first | exact Or.inl rfl | exact Or.inr rfl))) (fun _ _ _ _ _ => pts_nil) (fun _ _ _ _ _ => (gCl (P := P) (w := w) (K := K) ⟨rfl, rfl, rfl⟩ rfl rfl c_is_whole hr hgd (by rfl) takesF (pa_cons (pv 3) (pa_cons pe_int (pa_cons (pe_ix (gIx (P := P) (w := w) (K := K) ⟨rfl, rfl, rfl⟩ (hu65 hr)) (pv 0) pe_int (fun _ _ => rfl)) pa_nil)))))) pa_nil))))), fun v hv hq => ?_⟩)
  obtain ⟨v, d, n⟩ := v
  replace hq := hq _ rfl
  replace hv : sm d := hv
  replace hq : RsOk P w K H Q E (.dat (.bool (levels v d n))) := hq
  show Nx _ [.dat v.d, .dat d, .dat (.int n), .any] _ _
  by_cases ht : isTup d = true
  · obtain ⟨ds, rfl⟩ : ∃ ds, d = .tuple ds := by cases d <;> first | exact ⟨_, rfl⟩ | cases ht
    replace hv : ds.length ≤ 1000 := hv
    by_cases hl : (ds.length : Int) = n
    · skip
      (try dsimp only [List.set, setAll])
      refine nx_sq ?_
      apply nx_ifF
      · (repeat' (first
      | exact hix | exact hix2 | exact hix3 | exact hix4
      | ((with_reducible apply ev_var) <;> rfl)
      | (with_reducible exact ev_int) | (with_reducible exact ev_bl) | (with_reducible exact ev_str) | (with_reducible exact ev_non) | (with_reducible exact eva_nil) | (with_reducible exact evo_none)
      | (with_reducible (first | apply eva_cons | apply ev_tup | apply evo_some | apply x_add | apply e_sub | apply x_mul | apply ev_mod | apply ev_neg | apply e_div))
      | refine e_lenN (evm_var rfl) rfl ?_
      | (with_reducible (first | apply x_len | apply x_ix | apply x_sl | apply ev_isN | apply ev_notN | apply ev_eqD | apply ev_neD | apply e_lt | apply ev_le | apply ev_gt | apply ev_ge | apply ev_isInt | apply ev_isBool | apply ev_isTup | apply ev_isStr | apply ec_whole | apply eca_counts | apply eca_levels | exact ⟨rfl, rfl⟩ | apply ev_min | apply ev_intc | apply ev_sumT | apply evt_B | apply evt_test | apply evt_not | apply evt_and | apply evt_or | apply ev_andV | apply ev_orV | apply ev_notV | apply ev_ite | intro _ | exact True.intro | rfl))
      | exact True.intro | exact ⟨rfl, rfl⟩ | exact Nat.le_of_ble_eq_true rfl | rfl))
      · (simp [isTup, eqv_ints, hl])
      refine nx_nx ?_
      (try dsimp only [List.set, setAll])
      refine nx_ret2 (ev_all (bs := ds.map fun c => whole c (.int 0) (.int v.top)) (EV.to (evl_ev (evl_map (fun c => .bool (whole c (.int 0) (.int v.top))) (w_tup (ev_var rfl)) (by omega) fun D hs acc c hc => ⟨[3], _, tg_name, by simp, ?_⟩)) ?_)) ?_ (rt_of rfl hq)
      · (repeat' (first
      | exact hix | exact hix2 | exact hix3 | exact hix4
      | ((with_reducible apply ev_var) <;> rfl)
      | (with_reducible exact ev_int) | (with_reducible exact ev_bl) | (with_reducible exact ev_str) | (with_reducible exact ev_non) | (with_reducible exact eva_nil) | (with_reducible exact evo_none)
      | (with_reducible (first | apply eva_cons | apply ev_tup | apply evo_some | apply x_add | apply e_sub | apply x_mul | apply ev_mod | apply ev_neg | apply e_div))
      | refine e_lenN (evm_var rfl) rfl ?_
      | (with_reducible (first | apply x_len | apply x_ix | apply x_sl | apply ev_isN | apply ev_notN | apply ev_eqD | apply ev_neD | apply e_lt | apply ev_le | apply ev_gt | apply ev_ge | apply ev_isInt | apply ev_isBool | apply ev_isTup | apply ev_isStr | apply ec_whole | apply eca_counts | apply eca_levels | exact ⟨rfl, rfl⟩ | apply ev_min | apply ev_intc | apply ev_sumT | apply evt_B | apply evt_test | apply evt_not | apply evt_and | apply evt_or | apply ev_andV | apply ev_orV | apply ev_notV | apply ev_ite | intro _ | exact True.intro | rfl))
      | exact True.intro | exact ⟨rfl, rfl⟩ | exact Nat.le_of_ble_eq_true rfl | rfl))
      · simp [Function.comp_def]
      · show PyData.bool _ = .bool (levels v (.tuple ds) n)
        simp [levels, hl, List.all_map, Function.comp_def]
    · skip
      (try dsimp only [List.set, setAll])
      refine nx_sq ?_
      apply nx_ifT
      · (repeat' (first
      | exact hix | exact hix2 | exact hix3 | exact hix4
      | ((with_reducible apply ev_var) <;> rfl)
      | (with_reducible exact ev_int) | (with_reducible exact ev_bl) | (with_reducible exact ev_str) | (with_reducible exact ev_non) | (with_reducible exact eva_nil) | (with_reducible exact evo_none)
      | (with_reducible (first | apply eva_cons | apply ev_tup | apply evo_some | apply x_add | apply e_sub | apply x_mul | apply ev_mod | apply ev_neg | apply e_div))
      | refine e_lenN (evm_var rfl) rfl ?_
      | (with_reducible (first | apply x_len | apply x_ix | apply x_sl | apply ev_isN | apply ev_notN | apply ev_eqD | apply ev_neD | apply e_lt | apply ev_le | apply ev_gt | apply ev_ge | apply ev_isInt | apply ev_isBool | apply ev_isTup | apply ev_isStr | apply ec_whole | apply eca_counts | apply eca_levels | exact ⟨rfl, rfl⟩ | apply ev_min | apply ev_intc | apply ev_sumT | apply evt_B | apply evt_test | apply evt_not | apply evt_and | apply evt_or | apply ev_andV | apply ev_orV | apply ev_notV | apply ev_ite | intro _ | exact True.intro | rfl))
      | exact True.intro | exact ⟨rfl, rfl⟩ | exact Nat.le_of_ble_eq_true rfl | rfl))
      · (simp [isTup, eqv_ints, hl])
      exact nx_ret2 ev_bl (by simp [levels, hl]) (rt_of rfl hq)
  · (try dsimp only [List.set, setAll])
    refine nx_sq ?_
    apply nx_ifT (b := true)
    · apply evt_orT
      · (repeat' (first
      | exact hix | exact hix2 | exact hix3 | exact hix4
      | ((with_reducible apply ev_var) <;> rfl)
      | (with_reducible exact ev_int) | (with_reducible exact ev_bl) | (with_reducible exact ev_str) | (with_reducible exact ev_non) | (with_reducible exact eva_nil) | (with_reducible exact evo_none)
      | (with_reducible (first | apply eva_cons | apply ev_tup | apply evo_some | apply x_add | apply e_sub | apply x_mul | apply ev_mod | apply ev_neg | apply e_div))
      | refine e_lenN (evm_var rfl) rfl ?_
      | (with_reducible (first | apply x_len | apply x_ix | apply x_sl | apply ev_isN | apply ev_notN | apply ev_eqD | apply ev_neD | apply e_lt | apply ev_le | apply ev_gt | apply ev_ge | apply ev_isInt | apply ev_isBool | apply ev_isTup | apply ev_isStr | apply ec_whole | apply eca_counts | apply eca_levels | exact ⟨rfl, rfl⟩ | apply ev_min | apply ev_intc | apply ev_sumT | apply evt_B | apply evt_test | apply evt_not | apply evt_and | apply evt_or | apply ev_andV | apply ev_orV | apply ev_notV | apply ev_ite | intro _ | exact True.intro | rfl))
      | exact True.intro | exact ⟨rfl, rfl⟩ | exact Nat.le_of_ble_eq_true rfl | rfl))
      · simp at ht; simp [ht]
    · rfl
    · exact nx_ret2 ev_bl (by cases d <;> first | rfl | (exact absurd rfl ht)) (rt_of rfl hq)
abbrev St5 := PyData × PyData × List Int × List Int × Int
def St5.d (a : St5) : PyData := .tuple [a.1, a.2.1, intsD a.2.2.1, intsD a.2.2.2.1, .int a.2.2.2.2]
def St5.n (a : St5) : Int := a.2.2.1.sum + a.2.2.2.1.sum + a.2.2.2.2
abbrev sp_number (P : Program) (w : World) (K : PySem.W.Frag) : Sp := ASp (α := St5) P w K (fun a => [a.d]) (fun _ => True) fun a r => r = .dat (.int a.n)
theorem ok_number_of {f : Addr} {fd : FuncData} (T : Tx P K mg C1 C2 C3) (F : Fun K "number_of" "number_of" s_number_of f fd) : FnG P w K mg base 1 f fd ["state"] (sp_number P w K) := by
  refine body_g F sc_number_of (fun a => rfl) (fun cdv ar up z H Q E hgd hr => ⟨_, (pss_one (ps_ret (pe_ifExp (pt_cmpR op_isN (pe_ix (gIx (P := P) (w := w) (K := K) ⟨rfl, rfl, rfl⟩ (hu65 hr)) (pv 0) pe_int (fun _ _ => rfl)) pe_non (nomark _)) pe_non (pe_op (gAdd (P := P) (w := w) (K := K) ⟨rfl, rfl, rfl⟩) (pe_op (gAdd (P := P) (w := w) (K := K) ⟨rfl, rfl, rfl⟩) (pe_callB (gSum (P := P) (w := w) (K := K) ⟨rfl, rfl, rfl⟩ rfl) (by rfl) T.b_sum boot_k_sum (pa_cons (pe_ix (gIx (P := P) (w := w) (K := K) ⟨rfl, rfl, rfl⟩ (hu65 hr)) (pv 0) pe_int (fun _ _ => rfl)) pa_nil)) (pe_callB (gSum (P := P) (w := w) (K := K) ⟨rfl, rfl, rfl⟩ rfl) (by rfl) T.b_sum boot_k_sum (pa_cons (pe_ix (gIx (P := P) (w := w) (K := K) ⟨rfl, rfl, rfl⟩ (hu65 hr)) (pv 0) pe_int (fun _ _ => rfl)) pa_nil))) (pe_ix (gIx (P := P) (w := w) (K := K) ⟨rfl, rfl, rfl⟩ (hu65 hr)) (pv 0) pe_int (fun _ _ => rfl)))))), fun v hv hq => ?_⟩)
  replace hq := hq _ rfl
  (try dsimp only [List.set, setAll])
  apply nx_ret2 (k := rt_of rfl hq)
  · (repeat' (first
      | exact hix | exact hix2 | exact hix3 | exact hix4
      | ((with_reducible apply ev_var) <;> rfl)
      | (with_reducible exact ev_int) | (with_reducible exact ev_bl) | (with_reducible exact ev_str) | (with_reducible exact ev_non) | (with_reducible exact eva_nil) | (with_reducible exact evo_none)
      | (with_reducible (first | apply eva_cons | apply ev_tup | apply evo_some | apply x_add | apply e_sub | apply x_mul | apply ev_mod | apply ev_neg | apply e_div))
      | refine e_lenN (evm_var rfl) rfl ?_
      | (with_reducible (first | apply x_len | apply x_ix | apply x_sl | apply ev_isN | apply ev_notN | apply ev_eqD | apply ev_neD | apply e_lt | apply ev_le | apply ev_gt | apply ev_ge | apply ev_isInt | apply ev_isBool | apply ev_isTup | apply ev_isStr | apply ec_whole | apply eca_counts | apply eca_levels | exact ⟨rfl, rfl⟩ | apply ev_min | apply ev_intc | apply ev_sumT | apply evt_B | apply evt_test | apply evt_not | apply evt_and | apply evt_or | apply ev_andV | apply ev_orV | apply ev_notV | apply ev_ite | intro _ | exact True.intro | rfl))
      | exact True.intro | exact ⟨rfl, rfl⟩ | exact Nat.le_of_ble_eq_true rfl | rfl))
  · rfl
theorem ok_number_in {f : Addr} {fd : FuncData} (T : Tx P K mg C1 C2 C3) (F : Fun K "number_in" "number_in" s_number_in f fd) : FnG P w K mg base 1 f fd ["state"] (sp_number P w K) := by
  refine body_g F sc_number_in (fun a => rfl) (fun cdv ar up z H Q E hgd hr => ⟨_, (pss_one (ps_ret (pe_op (gAdd (P := P) (w := w) (K := K) ⟨rfl, rfl, rfl⟩) (pe_op (gAdd (P := P) (w := w) (K := K) ⟨rfl, rfl, rfl⟩) (pe_callB (gSum (P := P) (w := w) (K := K) ⟨rfl, rfl, rfl⟩ rfl) (by rfl) T.b_sum boot_k_sum (pa_cons (pe_ix (gIx (P := P) (w := w) (K := K) ⟨rfl, rfl, rfl⟩ (hu65 hr)) (pv 0) pe_int (fun _ _ => rfl)) pa_nil)) (pe_callB (gSum (P := P) (w := w) (K := K) ⟨rfl, rfl, rfl⟩ rfl) (by rfl) T.b_sum boot_k_sum (pa_cons (pe_ix (gIx (P := P) (w := w) (K := K) ⟨rfl, rfl, rfl⟩ (hu65 hr)) (pv 0) pe_int (fun _ _ => rfl)) pa_nil))) (pe_ix (gIx (P := P) (w := w) (K := K) ⟨rfl, rfl, rfl⟩ (hu65 hr)) (pv 0) pe_int (fun _ _ => rfl))))), fun v hv hq => ?_⟩)
  replace hq := hq _ rfl
  (try dsimp only [List.set, setAll])
  apply nx_ret2 (k := rt_of rfl hq)
  · (repeat' (first
      | exact hix | exact hix2 | exact hix3 | exact hix4
      | ((with_reducible apply ev_var) <;> rfl)
      | (with_reducible exact ev_int) | (with_reducible exact ev_bl) | (with_reducible exact ev_str) | (with_reducible exact ev_non) | (with_reducible exact eva_nil) | (with_reducible exact evo_none)
      | (with_reducible (first | apply eva_cons | apply ev_tup | apply evo_some | apply x_add | apply e_sub | apply x_mul | apply ev_mod | apply ev_neg | apply e_div))
      | refine e_lenN (evm_var rfl) rfl ?_
      | (with_reducible (first | apply x_len | apply x_ix | apply x_sl | apply ev_isN | apply ev_notN | apply ev_eqD | apply ev_neD | apply e_lt | apply ev_le | apply ev_gt | apply ev_ge | apply ev_isInt | apply ev_isBool | apply ev_isTup | apply ev_isStr | apply ec_whole | apply eca_counts | apply eca_levels | exact ⟨rfl, rfl⟩ | apply ev_min | apply ev_intc | apply ev_sumT | apply evt_B | apply evt_test | apply evt_not | apply evt_and | apply evt_or | apply ev_andV | apply ev_orV | apply ev_notV | apply ev_ite | intro _ | exact True.intro | rfl))
      | exact True.intro | exact ⟨rfl, rfl⟩ | exact Nat.le_of_ble_eq_true rfl | rfl))
  · rfl
theorem eca_counts {C : Ct} {Γ : List SV} {Δ : Dl} {W : WX} {t0 t1 : TE} {d : PyData} {n : Int} (h0 : EV C Γ Δ t0 d) (h1 : EV C Γ Δ t1 (.int n)) (o : sm d) : EV C Γ Δ (tCallS (sp_are_counts C.P C.w C.K) (WE W) (tCons t0 (tCons t1 tNil))) (.bool (counts d n)) :=
  x_call (d, n) (eva_cons h0 (eva_cons h1 eva_nil)) o rfl
theorem eca_levels {C : Ct} {Γ : List SV} {Δ : Dl} {W : WX} {t0 t1 t2 : TE} {v : Wl} {d : PyData} {n : Int} (h0 : EV C Γ Δ t0 v.d) (h1 : EV C Γ Δ t1 d) (h2 : EV C Γ Δ t2 (.int n)) (o : sm d) : EV C Γ Δ (tCallS (sp_are_levels C.P C.w C.K) (WE W) (tCons t0 (tCons t1 (tCons t2 tNil)))) (.bool (levels v d n)) :=
  x_call (v, d, n) (eva_cons h0 (eva_cons h1 (eva_cons h2 eva_nil))) o rfl
theorem eca_num {C : Ct} {Γ : List SV} {Δ : Dl} {W : WX} {t0 : TE} (a : St5) (h0 : EV C Γ Δ t0 a.d) : EV C Γ Δ (tCallS (sp_number C.P C.w C.K) (WE W) (tCons t0 tNil)) (.int a.n) :=
  x_call a (eva_cons h0 eva_nil) True.intro rfl
theorem counts_ints {d : PyData} {n : Int} (h : counts d n = true) : ∃ xs : List Int, d = intsD xs ∧ (xs.length : Int) = n ∧ ∀ x ∈ xs, 0 ≤ x ∧ x ≤ 1000 := by
  cases d with
  | tuple ds =>
    simp only [counts, Bool.and_eq_true, decide_eq_true_eq, List.all_eq_true] at h
    obtain ⟨h1, h2⟩ := h
    have : ∀ ds : List PyData, (∀ c ∈ ds, whole c (.int 0) (.int 1000) = true) → ∃ xs : List Int, ds = xs.map .int ∧ ∀ x ∈ xs, 0 ≤ x ∧ x ≤ 1000 := by
      intro ds
      induction ds with
      | nil => exact fun _ => ⟨[], rfl, by simp⟩
      | cons c ds ih =>
        intro h
        obtain ⟨xs, e, hx⟩ := ih fun c hc => h c (List.mem_cons_of_mem _ hc)
        have hc := h c List.mem_cons_self
        cases c <;> first | (simp [whole] at hc; done) | skip
        rename_i i
        simp [whole, geD, leD] at hc
        exact ⟨i :: xs, by rw [e]; rfl, by simpa using ⟨hc, hx⟩⟩
    obtain ⟨xs, rfl, hx⟩ := this ds h2
    exact ⟨xs, rfl, by simpa using h1, hx⟩
  | _ => simp [counts] at h
/-- a state, or a state whose ready pumps are not counted -/
def tail5 (a b c e f : PyData) (v : Wl) : Bool := whole a (.int 0) (.int v.top) && (levels v b v.lag && (counts c v.run && (counts e (v.rest - 1) && (isNone f || whole f (.int 0) (.int 50)))))
def isState (v : Wl) (d : PyData) : Bool := match d with
  | .tuple [a, b, c, e, f] => tail5 a b c e f v && (isNone f || (match c, e, f with
    | .tuple c, .tuple e, .int i => decide ((c.map fun x => match x with | .int j => j | _ => 0).sum + (e.map fun x => match x with | .int j => j | _ => 0).sum + i ≤ 50)
    | _, _, _ => false))
  | _ => false
def sm5 : PyData → Prop
  | .tuple ds => ds.length ≤ 1000 ∧ ∀ d ∈ ds, sm d
  | _ => True
theorem sum_ints (xs : List Int) : ((xs.map PyData.int).map fun x => match x with | .int j => j | _ => 0).sum = xs.sum := by
  rw [List.map_map]
  congr 1
  induction xs with
  | nil => rfl
  | cons x xs ih => rw [List.map_cons, ih]; rfl
theorem five {ds : List PyData} (h : (ds.length : Int) = 5) : ∃ a b c e f, ds = [a, b, c, e, f] := by
  match ds, h with
  | [a, b, c, e, f], _ => exact ⟨a, b, c, e, f, rfl⟩
  | [], h => simp at h
  | [_], h => simp at h
  | [_, _], h => simp at h
  | [_, _, _], h => simp at h
  | [_, _, _, _], h => simp at h
  | _ :: _ :: _ :: _ :: _ :: _ :: r, h => simp at h; omega
abbrev sp_is_state_of (P : Program) (w : World) (K : PySem.W.Frag) : Sp := ASp (α := Wl × PyData) P w K (fun a => [a.1.d, a.2]) (fun a => sm5 a.2) fun a r => r = .dat (.bool (isState a.1 a.2))
theorem ok_is_state_of {f : Addr} {fd : FuncData} (T : Tx P K mg C1 C2 C3) (F : Fun K "is_state_of" "is_state_of" s_is_state_of f fd) (c_is_whole : Cl P w K mg base 2 "is_whole" (sp_is_whole P w K)) (c_are_counts : Cl P w K mg base 2 "are_counts" (sp_are_counts P w K)) (c_are_levels : Cl P w K mg base 2 "are_levels" (sp_are_levels P w K)) (c_number_of : Cl P w K mg base 2 "number_of" (sp_number P w K)) : FnG P w K mg base 3 f fd ["well", "thing"] (sp_is_state_of P w K) := by
  refine body_g F sc_is_state_of (fun a => rfl) (fun cdv ar up z H Q E hgd hr => ⟨_, (pss_cons (ps_if (PW.pt (pw_or (pt_not (pt_val (gIsinst (P := P) (w := w) (K := K) ⟨rfl, rfl, rfl⟩ (by rfl) T.b_isinstance (pv 1) (pe_bltn (v := .ty "tuple") (by rfl) T.b_tuple boot_ty_tuple rfl)))) (pw_or (pt_cmpR (gNe (P := P) (w := w) (K := K) ⟨rfl, rfl, rfl⟩ (hu65 hr)) (pe_callB (gLen (P := P) (w := w) (K := K) ⟨rfl, rfl, rfl⟩ (hu65 hr)) (by rfl) T.b_len boot_k_len (pa_cons (pv 1) pa_nil)) pe_int (nomark _)) (pw_or1 (pt_not (pt_val (gCl (P := P) (w := w) (K := K) ⟨rfl, rfl, rfl⟩ rfl rfl c_is_whole hr hgd (by rfl) takesF (pa_cons (pe_ix (gIx (P := P) (w := w) (K := K) ⟨rfl, rfl, rfl⟩ (hu65 hr)) (pv 1) pe_int (fun _ _ => rfl)) (pa_cons pe_int (pa_cons (pe_ix (gIx (P := P) (w := w) (K := K) ⟨rfl, rfl, rfl⟩ (hu65 hr)) (pv 0) pe_int (fun _ _ => rfl)) pa_nil)))))))))) (pss_one (ps_ret pe_bl)) pss_nil) (pss_cons (ps_if (PW.pt (pw_or (pt_not (pt_val (gCl (P := P) (w := w) (K := K) ⟨rfl, rfl, rfl⟩ rfl rfl c_are_levels hr hgd (by rfl) takesF (pa_cons (pv 0) (pa_cons (pe_ix (gIx (P := P) (w := w) (K := K) ⟨rfl, rfl, rfl⟩ (hu65 hr)) (pv 1) pe_int (fun _ _ => rfl)) (pa_cons (pe_ix (gIx (P := P) (w := w) (K := K) ⟨rfl, rfl, rfl⟩ (hu65 hr)) (pv 0) pe_int (fun _ _ => rfl)) pa_nil)))))) (pw_or1 (pt_not (pt_val (gCl (P := P) (w := w) (K := K) ⟨rfl, rfl, rfl⟩ rfl rfl c_are_counts hr hgd (by rfl) takesF (pa_cons (pe_ix (gIx (P := P) (w := w) (K := K) ⟨rfl, rfl, rfl⟩ (hu65 hr)) (pv 1) pe_int (fun _ _ => rfl)) (pa_cons (pe_ix (gIx (P := P) (w := w) (K := K) ⟨rfl, rfl, rfl⟩ (hu65 hr)) (pv 0) pe_int (fun _ _ => rfl)) pa_nil)))))))) (pss_one (ps_ret pe_bl)) pss_nil) (pss_cons (ps_if (pt_not (pt_val (gCl (P := P) (w := w) (K := K) ⟨rfl, rfl, rfl⟩ rfl rfl c_are_counts hr hgd (by rfl) takesF (pa_cons (pe_ix (gIx (P := P) (w := w) (K := K) ⟨rfl, rfl, rfl⟩ (hu65 hr)) (pv 1) pe_int (fun _ _ => rfl)) (pa_cons (pe_op op_sub (pe_ix (gIx (P := P) (w := w) (K := K) ⟨rfl, rfl, rfl⟩ (hu65 hr)) (pv 0) pe_int (fun _ _ => rfl)) pe_int) pa_nil))))) (pss_one (ps_ret pe_bl)) pss_nil) (pss_cons (ps_if (pt_cmpR op_isN (pe_ix (gIx (P := P) (w := w) (K := K) ⟨rfl, rfl, rfl⟩ (hu65 hr)) (pv 1) pe_int (fun _ _ => rfl)) pe_non (nomark _)) (pss_one (ps_ret pe_bl)) pss_nil) (pss_one (ps_ret (pe_and (gCl (P := P) (w := w) (K := K) ⟨rfl, rfl, rfl⟩ rfl rfl c_is_whole hr hgd (by rfl) takesF (pa_cons (pe_ix (gIx (P := P) (w := w) (K := K) ⟨rfl, rfl, rfl⟩ (hu65 hr)) (pv 1) pe_int (fun _ _ => rfl)) (pa_cons pe_int (pa_cons (pe_k (by rfl) T.c_MOST_NUMBER) pa_nil)))) (pe_one (pe_cmpR op_le (gCl (P := P) (w := w) (K := K) ⟨rfl, rfl, rfl⟩ rfl rfl c_number_of hr hgd (by rfl) takesF (pa_cons (pv 1) pa_nil)) (pe_k (by rfl) T.c_MOST_NUMBER) (nomark _)))))))))), fun v hv hq => ?_⟩)
  obtain ⟨v, d⟩ := v
  replace hq := hq _ rfl
  replace hv : sm5 d := hv
  replace hq : RsOk P w K H Q E (.dat (.bool (isState v d))) := hq
  show Nx _ [.dat v.d, .dat d] _ _
  by_cases ht : isTup d = true
  · obtain ⟨ds, rfl⟩ : ∃ ds, d = .tuple ds := by cases d <;> first | exact ⟨_, rfl⟩ | cases ht
    by_cases hl : (ds.length : Int) = 5
    · obtain ⟨a, b, c, e, f, rfl⟩ := five hl
      have sb := hv.2 b (by simp)
      have sc := hv.2 c (by simp)
      have se := hv.2 e (by simp)
      cases h1 : whole a (.int 0) (.int v.top) with
      | false =>
        (try dsimp only [List.set, setAll])
        refine nx_sq ?_
        apply nx_ifT
        · (repeat' (first
      | exact hix | exact hix2 | exact hix3 | exact hix4
      | ((with_reducible apply ev_var) <;> rfl)
      | (with_reducible exact ev_int) | (with_reducible exact ev_bl) | (with_reducible exact ev_str) | (with_reducible exact ev_non) | (with_reducible exact eva_nil) | (with_reducible exact evo_none)
      | (with_reducible (first | apply eva_cons | apply ev_tup | apply evo_some | apply x_add | apply e_sub | apply x_mul | apply ev_mod | apply ev_neg | apply e_div))
      | refine e_lenN (evm_var rfl) rfl ?_
      | (with_reducible (first | apply x_len | apply x_ix | apply x_sl | apply ev_isN | apply ev_notN | apply ev_eqD | apply ev_neD | apply e_lt | apply ev_le | apply ev_gt | apply ev_ge | apply ev_isInt | apply ev_isBool | apply ev_isTup | apply ev_isStr | apply ec_whole | apply eca_counts | apply eca_levels | exact ⟨rfl, rfl⟩ | apply ev_min | apply ev_intc | apply ev_sumT | apply evt_B | apply evt_test | apply evt_not | apply evt_and | apply evt_or | apply ev_andV | apply ev_orV | apply ev_notV | apply ev_ite | intro _ | exact True.intro | rfl))
      | exact True.intro | exact ⟨rfl, rfl⟩ | exact Nat.le_of_ble_eq_true rfl | rfl))
        · (simp [isTup, eqv_ints, h1])
        exact nx_ret2 ev_bl (by simp [isState, tail5, h1]) (rt_of rfl hq)
      | true =>
      (try dsimp only [List.set, setAll])
      refine nx_sq ?_
      apply nx_ifF
      · (repeat' (first
      | exact hix | exact hix2 | exact hix3 | exact hix4
      | ((with_reducible apply ev_var) <;> rfl)
      | (with_reducible exact ev_int) | (with_reducible exact ev_bl) | (with_reducible exact ev_str) | (with_reducible exact ev_non) | (with_reducible exact eva_nil) | (with_reducible exact evo_none)
      | (with_reducible (first | apply eva_cons | apply ev_tup | apply evo_some | apply x_add | apply e_sub | apply x_mul | apply ev_mod | apply ev_neg | apply e_div))
      | refine e_lenN (evm_var rfl) rfl ?_
      | (with_reducible (first | apply x_len | apply x_ix | apply x_sl | apply ev_isN | apply ev_notN | apply ev_eqD | apply ev_neD | apply e_lt | apply ev_le | apply ev_gt | apply ev_ge | apply ev_isInt | apply ev_isBool | apply ev_isTup | apply ev_isStr | apply ec_whole | apply eca_counts | apply eca_levels | exact ⟨rfl, rfl⟩ | apply ev_min | apply ev_intc | apply ev_sumT | apply evt_B | apply evt_test | apply evt_not | apply evt_and | apply evt_or | apply ev_andV | apply ev_orV | apply ev_notV | apply ev_ite | intro _ | exact True.intro | rfl))
      | exact True.intro | exact ⟨rfl, rfl⟩ | exact Nat.le_of_ble_eq_true rfl | rfl))
      · (simp [isTup, eqv_ints, h1])
      refine nx_nx ?_
      cases h2 : levels v b v.lag && counts c v.run with
      | false =>
        (try dsimp only [List.set, setAll])
        refine nx_sq ?_
        apply nx_ifT (b := !(levels v b v.lag) || !(counts c v.run))
        · (repeat' (first
      | exact hix | exact hix2 | exact hix3 | exact hix4
      | ((with_reducible apply ev_var) <;> rfl)
      | (with_reducible exact ev_int) | (with_reducible exact ev_bl) | (with_reducible exact ev_str) | (with_reducible exact ev_non) | (with_reducible exact eva_nil) | (with_reducible exact evo_none)
      | (with_reducible (first | apply eva_cons | apply ev_tup | apply evo_some | apply x_add | apply e_sub | apply x_mul | apply ev_mod | apply ev_neg | apply e_div))
      | refine e_lenN (evm_var rfl) rfl ?_
      | (with_reducible (first | apply x_len | apply x_ix | apply x_sl | apply ev_isN | apply ev_notN | apply ev_eqD | apply ev_neD | apply e_lt | apply ev_le | apply ev_gt | apply ev_ge | apply ev_isInt | apply ev_isBool | apply ev_isTup | apply ev_isStr | apply ec_whole | apply eca_counts | apply eca_levels | exact ⟨rfl, rfl⟩ | apply ev_min | apply ev_intc | apply ev_sumT | apply evt_B | apply evt_test | apply evt_not | apply evt_and | apply evt_or | apply ev_andV | apply ev_orV | apply ev_notV | apply ev_ite | intro _ | exact True.intro | rfl))
      | exact True.intro | exact ⟨rfl, rfl⟩ | exact Nat.le_of_ble_eq_true rfl | rfl))
          all_goals assumption
        · cases q1 : levels v b v.lag <;> cases q2 : counts c v.run <;> simp_all
        exact nx_ret2 ev_bl (by cases q1 : levels v b v.lag <;> cases q2 : counts c v.run <;> simp_all [isState, tail5]) (rt_of rfl hq)
      | true =>
      obtain ⟨h3, h4⟩ := Bool.and_eq_true_iff.mp h2
      (try dsimp only [List.set, setAll])
      refine nx_sq ?_
      apply nx_ifF (b := !(levels v b v.lag) || !(counts c v.run))
      · (repeat' (first
      | exact hix | exact hix2 | exact hix3 | exact hix4
      | ((with_reducible apply ev_var) <;> rfl)
      | (with_reducible exact ev_int) | (with_reducible exact ev_bl) | (with_reducible exact ev_str) | (with_reducible exact ev_non) | (with_reducible exact eva_nil) | (with_reducible exact evo_none)
      | (with_reducible (first | apply eva_cons | apply ev_tup | apply evo_some | apply x_add | apply e_sub | apply x_mul | apply ev_mod | apply ev_neg | apply e_div))
      | refine e_lenN (evm_var rfl) rfl ?_
      | (with_reducible (first | apply x_len | apply x_ix | apply x_sl | apply ev_isN | apply ev_notN | apply ev_eqD | apply ev_neD | apply e_lt | apply ev_le | apply ev_gt | apply ev_ge | apply ev_isInt | apply ev_isBool | apply ev_isTup | apply ev_isStr | apply ec_whole | apply eca_counts | apply eca_levels | exact ⟨rfl, rfl⟩ | apply ev_min | apply ev_intc | apply ev_sumT | apply evt_B | apply evt_test | apply evt_not | apply evt_and | apply evt_or | apply ev_andV | apply ev_orV | apply ev_notV | apply ev_ite | intro _ | exact True.intro | rfl))
      | exact True.intro | exact ⟨rfl, rfl⟩ | exact Nat.le_of_ble_eq_true rfl | rfl))
        all_goals assumption
      · simp [h3, h4]
      refine nx_nx ?_
      cases h5 : counts e (v.rest - 1) with
      | false =>
        (try dsimp only [List.set, setAll])
        refine nx_sq ?_
        apply nx_ifT (b := !(counts e (v.rest - 1)))
        · (repeat' (first
      | exact hix | exact hix2 | exact hix3 | exact hix4
      | ((with_reducible apply ev_var) <;> rfl)
      | (with_reducible exact ev_int) | (with_reducible exact ev_bl) | (with_reducible exact ev_str) | (with_reducible exact ev_non) | (with_reducible exact eva_nil) | (with_reducible exact evo_none)
      | (with_reducible (first | apply eva_cons | apply ev_tup | apply evo_some | apply x_add | apply e_sub | apply x_mul | apply ev_mod | apply ev_neg | apply e_div))
      | refine e_lenN (evm_var rfl) rfl ?_
      | (with_reducible (first | apply x_len | apply x_ix | apply x_sl | apply ev_isN | apply ev_notN | apply ev_eqD | apply ev_neD | apply e_lt | apply ev_le | apply ev_gt | apply ev_ge | apply ev_isInt | apply ev_isBool | apply ev_isTup | apply ev_isStr | apply ec_whole | apply eca_counts | apply eca_levels | exact ⟨rfl, rfl⟩ | apply ev_min | apply ev_intc | apply ev_sumT | apply evt_B | apply evt_test | apply evt_not | apply evt_and | apply evt_or | apply ev_andV | apply ev_orV | apply ev_notV | apply ev_ite | intro _ | exact True.intro | rfl))
      | exact True.intro | exact ⟨rfl, rfl⟩ | exact Nat.le_of_ble_eq_true rfl | rfl))
          all_goals assumption
        · simp [h5]
        exact nx_ret2 ev_bl (by simp [isState, tail5, h5]) (rt_of rfl hq)
      | true =>
      (try dsimp only [List.set, setAll])
      refine nx_sq ?_
      apply nx_ifF (b := !(counts e (v.rest - 1)))
      · (repeat' (first
      | exact hix | exact hix2 | exact hix3 | exact hix4
      | ((with_reducible apply ev_var) <;> rfl)
      | (with_reducible exact ev_int) | (with_reducible exact ev_bl) | (with_reducible exact ev_str) | (with_reducible exact ev_non) | (with_reducible exact eva_nil) | (with_reducible exact evo_none)
      | (with_reducible (first | apply eva_cons | apply ev_tup | apply evo_some | apply x_add | apply e_sub | apply x_mul | apply ev_mod | apply ev_neg | apply e_div))
      | refine e_lenN (evm_var rfl) rfl ?_
      | (with_reducible (first | apply x_len | apply x_ix | apply x_sl | apply ev_isN | apply ev_notN | apply ev_eqD | apply ev_neD | apply e_lt | apply ev_le | apply ev_gt | apply ev_ge | apply ev_isInt | apply ev_isBool | apply ev_isTup | apply ev_isStr | apply ec_whole | apply eca_counts | apply eca_levels | exact ⟨rfl, rfl⟩ | apply ev_min | apply ev_intc | apply ev_sumT | apply evt_B | apply evt_test | apply evt_not | apply evt_and | apply evt_or | apply ev_andV | apply ev_orV | apply ev_notV | apply ev_ite | intro _ | exact True.intro | rfl))
      | exact True.intro | exact ⟨rfl, rfl⟩ | exact Nat.le_of_ble_eq_true rfl | rfl))
        all_goals assumption
      · simp [h5]
      refine nx_nx ?_
      cases h6 : isNone f with
      | true =>
        (try dsimp only [List.set, setAll])
        refine nx_sq ?_
        apply nx_ifT
        · (repeat' (first
      | exact hix | exact hix2 | exact hix3 | exact hix4
      | ((with_reducible apply ev_var) <;> rfl)
      | (with_reducible exact ev_int) | (with_reducible exact ev_bl) | (with_reducible exact ev_str) | (with_reducible exact ev_non) | (with_reducible exact eva_nil) | (with_reducible exact evo_none)
      | (with_reducible (first | apply eva_cons | apply ev_tup | apply evo_some | apply x_add | apply e_sub | apply x_mul | apply ev_mod | apply ev_neg | apply e_div))
      | refine e_lenN (evm_var rfl) rfl ?_
      | (with_reducible (first | apply x_len | apply x_ix | apply x_sl | apply ev_isN | apply ev_notN | apply ev_eqD | apply ev_neD | apply e_lt | apply ev_le | apply ev_gt | apply ev_ge | apply ev_isInt | apply ev_isBool | apply ev_isTup | apply ev_isStr | apply ec_whole | apply eca_counts | apply eca_levels | exact ⟨rfl, rfl⟩ | apply ev_min | apply ev_intc | apply ev_sumT | apply evt_B | apply evt_test | apply evt_not | apply evt_and | apply evt_or | apply ev_andV | apply ev_orV | apply ev_notV | apply ev_ite | intro _ | exact True.intro | rfl))
      | exact True.intro | exact ⟨rfl, rfl⟩ | exact Nat.le_of_ble_eq_true rfl | rfl))
        · (simp [h6])
        exact nx_ret2 ev_bl (by simp [isState, tail5, h1, h3, h4, h5, h6]) (rt_of rfl hq)
      | false =>
      (try dsimp only [List.set, setAll])
      refine nx_sq ?_
      apply nx_ifF
      · (repeat' (first
      | exact hix | exact hix2 | exact hix3 | exact hix4
      | ((with_reducible apply ev_var) <;> rfl)
      | (with_reducible exact ev_int) | (with_reducible exact ev_bl) | (with_reducible exact ev_str) | (with_reducible exact ev_non) | (with_reducible exact eva_nil) | (with_reducible exact evo_none)
      | (with_reducible (first | apply eva_cons | apply ev_tup | apply evo_some | apply x_add | apply e_sub | apply x_mul | apply ev_mod | apply ev_neg | apply e_div))
      | refine e_lenN (evm_var rfl) rfl ?_
      | (with_reducible (first | apply x_len | apply x_ix | apply x_sl | apply ev_isN | apply ev_notN | apply ev_eqD | apply ev_neD | apply e_lt | apply ev_le | apply ev_gt | apply ev_ge | apply ev_isInt | apply ev_isBool | apply ev_isTup | apply ev_isStr | apply ec_whole | apply eca_counts | apply eca_levels | exact ⟨rfl, rfl⟩ | apply ev_min | apply ev_intc | apply ev_sumT | apply evt_B | apply evt_test | apply evt_not | apply evt_and | apply evt_or | apply ev_andV | apply ev_orV | apply ev_notV | apply ev_ite | intro _ | exact True.intro | rfl))
      | exact True.intro | exact ⟨rfl, rfl⟩ | exact Nat.le_of_ble_eq_true rfl | rfl))
      · (simp [h6])
      refine nx_nx ?_
      (try dsimp only [List.set, setAll])
      cases h7 : whole f (.int 0) (.int 50) with
      | false =>
        refine nx_ret2 (ev_andF (b := whole f (.int 0) (.int 50)) ?_ h7) (by simp [isState, tail5, h6, h7]) (rt_of rfl hq)
        (repeat' (first
      | exact hix | exact hix2 | exact hix3 | exact hix4
      | ((with_reducible apply ev_var) <;> rfl)
      | (with_reducible exact ev_int) | (with_reducible exact ev_bl) | (with_reducible exact ev_str) | (with_reducible exact ev_non) | (with_reducible exact eva_nil) | (with_reducible exact evo_none)
      | (with_reducible (first | apply eva_cons | apply ev_tup | apply evo_some | apply x_add | apply e_sub | apply x_mul | apply ev_mod | apply ev_neg | apply e_div))
      | refine e_lenN (evm_var rfl) rfl ?_
      | (with_reducible (first | apply x_len | apply x_ix | apply x_sl | apply ev_isN | apply ev_notN | apply ev_eqD | apply ev_neD | apply e_lt | apply ev_le | apply ev_gt | apply ev_ge | apply ev_isInt | apply ev_isBool | apply ev_isTup | apply ev_isStr | apply ec_whole | apply eca_counts | apply eca_levels | exact ⟨rfl, rfl⟩ | apply ev_min | apply ev_intc | apply ev_sumT | apply evt_B | apply evt_test | apply evt_not | apply evt_and | apply evt_or | apply ev_andV | apply ev_orV | apply ev_notV | apply ev_ite | intro _ | exact True.intro | rfl))
      | exact True.intro | exact ⟨rfl, rfl⟩ | exact Nat.le_of_ble_eq_true rfl | rfl))
      | true =>
        obtain ⟨xs, rfl, _⟩ := counts_ints h4
        obtain ⟨ys, rfl, _⟩ := counts_ints h5
        obtain ⟨i, rfl⟩ : ∃ i, f = .int i := by cases f <;> first | exact ⟨_, rfl⟩ | (simp [whole] at h7; done)
        refine nx_ret2 (ev_andT (b := whole (.int i) (.int 0) (.int 50)) ?_ h7 (ev_le (eca_num (a, b, xs, ys, i) (ev_var rfl)) ev_int)) ?_ (rt_of rfl hq)
        · (repeat' (first
      | exact hix | exact hix2 | exact hix3 | exact hix4
      | ((with_reducible apply ev_var) <;> rfl)
      | (with_reducible exact ev_int) | (with_reducible exact ev_bl) | (with_reducible exact ev_str) | (with_reducible exact ev_non) | (with_reducible exact eva_nil) | (with_reducible exact evo_none)
      | (with_reducible (first | apply eva_cons | apply ev_tup | apply evo_some | apply x_add | apply e_sub | apply x_mul | apply ev_mod | apply ev_neg | apply e_div))
      | refine e_lenN (evm_var rfl) rfl ?_
      | (with_reducible (first | apply x_len | apply x_ix | apply x_sl | apply ev_isN | apply ev_notN | apply ev_eqD | apply ev_neD | apply e_lt | apply ev_le | apply ev_gt | apply ev_ge | apply ev_isInt | apply ev_isBool | apply ev_isTup | apply ev_isStr | apply ec_whole | apply eca_counts | apply eca_levels | exact ⟨rfl, rfl⟩ | apply ev_min | apply ev_intc | apply ev_sumT | apply evt_B | apply evt_test | apply evt_not | apply evt_and | apply evt_or | apply ev_andV | apply ev_orV | apply ev_notV | apply ev_ite | intro _ | exact True.intro | rfl))
      | exact True.intro | exact ⟨rfl, rfl⟩ | exact Nat.le_of_ble_eq_true rfl | rfl))
        · unfold intsD at h4 h5
          simp only [isState, tail5, h1, h3, h4, h5, h6, h7, intsD, sum_ints, Bool.true_and, Bool.and_true, Bool.false_or]
          rfl
    · (try dsimp only [List.set, setAll])
      refine nx_sq ?_
      apply nx_ifT (b := true)
      · apply evt_orF
        · (repeat' (first
      | exact hix | exact hix2 | exact hix3 | exact hix4
      | ((with_reducible apply ev_var) <;> rfl)
      | (with_reducible exact ev_int) | (with_reducible exact ev_bl) | (with_reducible exact ev_str) | (with_reducible exact ev_non) | (with_reducible exact eva_nil) | (with_reducible exact evo_none)
      | (with_reducible (first | apply eva_cons | apply ev_tup | apply evo_some | apply x_add | apply e_sub | apply x_mul | apply ev_mod | apply ev_neg | apply e_div))
      | refine e_lenN (evm_var rfl) rfl ?_
      | (with_reducible (first | apply x_len | apply x_ix | apply x_sl | apply ev_isN | apply ev_notN | apply ev_eqD | apply ev_neD | apply e_lt | apply ev_le | apply ev_gt | apply ev_ge | apply ev_isInt | apply ev_isBool | apply ev_isTup | apply ev_isStr | apply ec_whole | apply eca_counts | apply eca_levels | exact ⟨rfl, rfl⟩ | apply ev_min | apply ev_intc | apply ev_sumT | apply evt_B | apply evt_test | apply evt_not | apply evt_and | apply evt_or | apply ev_andV | apply ev_orV | apply ev_notV | apply ev_ite | intro _ | exact True.intro | rfl))
      | exact True.intro | exact ⟨rfl, rfl⟩ | exact Nat.le_of_ble_eq_true rfl | rfl))
        · rfl
        · apply evt_orT
          · (repeat' (first
      | exact hix | exact hix2 | exact hix3 | exact hix4
      | ((with_reducible apply ev_var) <;> rfl)
      | (with_reducible exact ev_int) | (with_reducible exact ev_bl) | (with_reducible exact ev_str) | (with_reducible exact ev_non) | (with_reducible exact eva_nil) | (with_reducible exact evo_none)
      | (with_reducible (first | apply eva_cons | apply ev_tup | apply evo_some | apply x_add | apply e_sub | apply x_mul | apply ev_mod | apply ev_neg | apply e_div))
      | refine e_lenN (evm_var rfl) rfl ?_
      | (with_reducible (first | apply x_len | apply x_ix | apply x_sl | apply ev_isN | apply ev_notN | apply ev_eqD | apply ev_neD | apply e_lt | apply ev_le | apply ev_gt | apply ev_ge | apply ev_isInt | apply ev_isBool | apply ev_isTup | apply ev_isStr | apply ec_whole | apply eca_counts | apply eca_levels | exact ⟨rfl, rfl⟩ | apply ev_min | apply ev_intc | apply ev_sumT | apply evt_B | apply evt_test | apply evt_not | apply evt_and | apply evt_or | apply ev_andV | apply ev_orV | apply ev_notV | apply ev_ite | intro _ | exact True.intro | rfl))
      | exact True.intro | exact ⟨rfl, rfl⟩ | exact Nat.le_of_ble_eq_true rfl | rfl))
          · simp [eqv_ints, hl]
      · rfl
      refine nx_ret2 ev_bl ?_ (rt_of rfl hq)
      match ds, hl with
      | [], _ => rfl
      | [_], _ => rfl
      | [_, _], _ => rfl
      | [_, _, _], _ => rfl
      | [_, _, _, _], _ => rfl
      | [_, _, _, _, _], hl => exact absurd rfl hl
      | _ :: _ :: _ :: _ :: _ :: _ :: _, _ => rfl
  · (try dsimp only [List.set, setAll])
    refine nx_sq ?_
    apply nx_ifT (b := true)
    · apply evt_orT
      · (repeat' (first
      | exact hix | exact hix2 | exact hix3 | exact hix4
      | ((with_reducible apply ev_var) <;> rfl)
      | (with_reducible exact ev_int) | (with_reducible exact ev_bl) | (with_reducible exact ev_str) | (with_reducible exact ev_non) | (with_reducible exact eva_nil) | (with_reducible exact evo_none)
      | (with_reducible (first | apply eva_cons | apply ev_tup | apply evo_some | apply x_add | apply e_sub | apply x_mul | apply ev_mod | apply ev_neg | apply e_div))
      | refine e_lenN (evm_var rfl) rfl ?_
      | (with_reducible (first | apply x_len | apply x_ix | apply x_sl | apply ev_isN | apply ev_notN | apply ev_eqD | apply ev_neD | apply e_lt | apply ev_le | apply ev_gt | apply ev_ge | apply ev_isInt | apply ev_isBool | apply ev_isTup | apply ev_isStr | apply ec_whole | apply eca_counts | apply eca_levels | exact ⟨rfl, rfl⟩ | apply ev_min | apply ev_intc | apply ev_sumT | apply evt_B | apply evt_test | apply evt_not | apply evt_and | apply evt_or | apply ev_andV | apply ev_orV | apply ev_notV | apply ev_ite | intro _ | exact True.intro | rfl))
      | exact True.intro | exact ⟨rfl, rfl⟩ | exact Nat.le_of_ble_eq_true rfl | rfl))
      · simp at ht; simp [ht]
    · rfl
    · exact nx_ret2 ev_bl (by cases d <;> first | rfl | (exact absurd rfl ht)) (rt_of rfl hq)
theorem eca_state {C : Ct} {Γ : List SV} {Δ : Dl} {W : WX} {t0 t1 : TE} {v : Wl} {d : PyData} (h0 : EV C Γ Δ t0 v.d) (h1 : EV C Γ Δ t1 d) (o : sm5 d) : EV C Γ Δ (tCallS (sp_is_state_of C.P C.w C.K) (WE W) (tCons t0 (tCons t1 tNil))) (.bool (isState v d)) :=
  x_call (v, d) (eva_cons h0 (eva_cons h1 eva_nil)) o rfl
theorem eca_needT {C : Ct} {Γ : List SV} {Δ : Dl} {W : WX} {t0 : TE} {C1 : Addr} {v : Wl} (hv : v.Ok) (h0 : EV C Γ Δ t0 v.d) : EV C Γ Δ (tCallS (sp_need_well C1 C.P C.w C.K) (WE W) (tCons t0 tNil)) v.d :=
  ev_cl (cl_call (α := Wl × Bool) (v, true) (eva_cons h0 eva_nil) hv) (fun r h => h) rfl
abbrev sp_is_state (P : Program) (w : World) (K : PySem.W.Frag) : Sp := ASp (α := Wl × PyData) P w K (fun a => [a.1.d, a.2]) (fun a => a.1.Ok ∧ sm5 a.2) fun a r => r = .dat (.bool (isState a.1 a.2))
theorem ok_is_state {f : Addr} {fd : FuncData} (T : Tx P K mg C1 C2 C3) (F : Fun K "is_state" "is_state" s_is_state f fd) (c_is_state_of : Cl P w K mg base 3 "is_state_of" (sp_is_state_of P w K)) (c_need_well : Cl P w K mg base 3 "need_well" (sp_need_well C1 P w K)) : FnG P w K mg base 4 f fd ["well", "value"] (sp_is_state P w K) := by
  refine body_g F sc_is_state (fun a => rfl) (fun cdv ar up z H Q E hgd hr => ⟨_, (pss_one (ps_ret (gCl (P := P) (w := w) (K := K) ⟨rfl, rfl, rfl⟩ rfl rfl c_is_state_of hr hgd (by rfl) takesF (pa_cons (gCl (P := P) (w := w) (K := K) ⟨rfl, rfl, rfl⟩ rfl rfl c_need_well hr hgd (by rfl) takesF (pa_cons (pv 0) pa_nil)) (pa_cons (pv 1) pa_nil))))), fun v hv hq => ?_⟩)
  obtain ⟨v, d⟩ := v
  replace hq := hq _ rfl
  exact nx_ret (eca_state (eca_needT hv.1 (ev_var rfl)) (ev_var rfl) hv.2) (rt_of rfl hq)
/-- few pumps -/
def isFew (v : Wl) (d : PyData) : Bool := isState v d && (match d with
  | .tuple [_, _, .tuple c, .tuple e, .int i] => decide ((c.map fun x => match x with | .int j => j | _ => 0).sum + (e.map fun x => match x with | .int j => j | _ => 0).sum + i ≤ 12)
  | _ => false)
theorem isState_shape {v : Wl} {d : PyData} (h : isState v d = true) : ∃ (a b : PyData) (xs ys : List Int) (f : PyData), d = .tuple [a, b, intsD xs, intsD ys, f] ∧ (f = .none ∨ ∃ i, f = .int i ∧ xs.sum + ys.sum + i ≤ 50) ∧ tail5 a b (intsD xs) (intsD ys) f v = true := by
  unfold isState at h
  split at h
  · rename_i a b c e f
    rw [Bool.and_eq_true] at h
    obtain ⟨h1, h2⟩ := h
    have h1' := h1
    simp only [tail5, Bool.and_eq_true] at h1
    obtain ⟨_, _, h4, h5, h6⟩ := h1
    obtain ⟨xs, rfl, _⟩ := counts_ints h4
    obtain ⟨ys, rfl, _⟩ := counts_ints h5
    refine ⟨a, b, xs, ys, f, rfl, ?_, h1'⟩
    cases f with
    | none => exact .inl rfl
    | int i =>
      refine .inr ⟨i, rfl, ?_⟩
      simp only [isNone, Bool.false_or, intsD] at h2
      rw [sum_ints, sum_ints] at h2
      simpa using h2
    | _ => simp [isNone, whole] at h6
  · cases h
abbrev sp_is_few (P : Program) (w : World) (K : PySem.W.Frag) : Sp := ASp (α := Wl × PyData) P w K (fun a => [a.1.d, a.2]) (fun a => sm5 a.2) fun a r => r = .dat (.bool (isFew a.1 a.2))
theorem ok_is_few {f : Addr} {fd : FuncData} (T : Tx P K mg C1 C2 C3) (F : Fun K "is_few" "is_few" s_is_few f fd) (c_is_state_of : Cl P w K mg base 3 "is_state_of" (sp_is_state_of P w K)) (c_number_in : Cl P w K mg base 3 "number_in" (sp_number P w K)) : FnG P w K mg base 4 f fd ["well", "thing"] (sp_is_few P w K) := by
  refine body_g F sc_is_few (fun a => rfl) (fun cdv ar up z H Q E hgd hr => ⟨_, (pss_one (ps_ret (pe_and (gCl (P := P) (w := w) (K := K) ⟨rfl, rfl, rfl⟩ rfl rfl c_is_state_of hr hgd (by rfl) takesF (pa_cons (pv 0) (pa_cons (pv 1) pa_nil))) (pe_and (pe_cmpR op_notN (pe_ix (gIx (P := P) (w := w) (K := K) ⟨rfl, rfl, rfl⟩ (hu65 hr)) (pv 1) pe_int (fun _ _ => rfl)) pe_non (nomark _)) (pe_one (pe_cmpR op_le (gCl (P := P) (w := w) (K := K) ⟨rfl, rfl, rfl⟩ rfl rfl c_number_in hr hgd (by rfl) takesF (pa_cons (pv 1) pa_nil)) (pe_k (by rfl) T.c_MOST_LIKE) (nomark _))))))), fun v hv hq => ?_⟩)
  obtain ⟨v, d⟩ := v
  replace hq := hq _ rfl
  replace hv : sm5 d := hv
  replace hq : RsOk P w K H Q E (.dat (.bool (isFew v d))) := hq
  show Nx _ [.dat v.d, .dat d] _ _
  cases h1 : isState v d with
  | false =>
    exact nx_ret2 (ev_andF (eca_state (ev_var rfl) (ev_var rfl) hv) h1) (by simp [isFew, h1]) (rt_of rfl hq)
  | true =>
    obtain ⟨a, b, xs, ys, f, rfl, hf, _⟩ := isState_shape h1
    rcases hf with rfl | ⟨i, rfl, _⟩
    · refine nx_ret2 (ev_andT (eca_state (ev_var rfl) (ev_var rfl) hv) h1 (ev_andF (b := !isNone .none) ?_ rfl)) (by simp [isFew]) (rt_of rfl hq)
      (repeat' (first
      | exact hix | exact hix2 | exact hix3 | exact hix4
      | ((with_reducible apply ev_var) <;> rfl)
      | (with_reducible exact ev_int) | (with_reducible exact ev_bl) | (with_reducible exact ev_str) | (with_reducible exact ev_non) | (with_reducible exact eva_nil) | (with_reducible exact evo_none)
      | (with_reducible (first | apply eva_cons | apply ev_tup | apply evo_some | apply x_add | apply e_sub | apply x_mul | apply ev_mod | apply ev_neg | apply e_div))
      | refine e_lenN (evm_var rfl) rfl ?_
      | (with_reducible (first | apply x_len | apply x_ix | apply x_sl | apply ev_isN | apply ev_notN | apply ev_eqD | apply ev_neD | apply e_lt | apply ev_le | apply ev_gt | apply ev_ge | apply ev_isInt | apply ev_isBool | apply ev_isTup | apply ev_isStr | apply ec_whole | apply eca_counts | apply eca_levels | exact ⟨rfl, rfl⟩ | apply ev_min | apply ev_intc | apply ev_sumT | apply evt_B | apply evt_test | apply evt_not | apply evt_and | apply evt_or | apply ev_andV | apply ev_orV | apply ev_notV | apply ev_ite | intro _ | exact True.intro | rfl))
      | exact True.intro | exact ⟨rfl, rfl⟩ | exact Nat.le_of_ble_eq_true rfl | rfl))
    · refine nx_ret2 (ev_andT (eca_state (ev_var rfl) (ev_var rfl) hv) h1 (ev_andT (b := !isNone (.int i)) ?_ rfl (ev_le (eca_num (a, b, xs, ys, i) (ev_var rfl)) ev_int))) ?_ (rt_of rfl hq)
      · (repeat' (first
      | exact hix | exact hix2 | exact hix3 | exact hix4
      | ((with_reducible apply ev_var) <;> rfl)
      | (with_reducible exact ev_int) | (with_reducible exact ev_bl) | (with_reducible exact ev_str) | (with_reducible exact ev_non) | (with_reducible exact eva_nil) | (with_reducible exact evo_none)
      | (with_reducible (first | apply eva_cons | apply ev_tup | apply evo_some | apply x_add | apply e_sub | apply x_mul | apply ev_mod | apply ev_neg | apply e_div))
      | refine e_lenN (evm_var rfl) rfl ?_
      | (with_reducible (first | apply x_len | apply x_ix | apply x_sl | apply ev_isN | apply ev_notN | apply ev_eqD | apply ev_neD | apply e_lt | apply ev_le | apply ev_gt | apply ev_ge | apply ev_isInt | apply ev_isBool | apply ev_isTup | apply ev_isStr | apply ec_whole | apply eca_counts | apply eca_levels | exact ⟨rfl, rfl⟩ | apply ev_min | apply ev_intc | apply ev_sumT | apply evt_B | apply evt_test | apply evt_not | apply evt_and | apply evt_or | apply ev_andV | apply ev_orV | apply ev_notV | apply ev_ite | intro _ | exact True.intro | rfl))
      | exact True.intro | exact ⟨rfl, rfl⟩ | exact Nat.le_of_ble_eq_true rfl | rfl))
      · unfold isFew
        rw [h1]
        simp only [intsD, sum_ints, Bool.true_and]
        rfl
theorem eca_few {C : Ct} {Γ : List SV} {Δ : Dl} {W : WX} {t0 t1 : TE} {v : Wl} {d : PyData} (h0 : EV C Γ Δ t0 v.d) (h1 : EV C Γ Δ t1 d) (o : sm5 d) : EV C Γ Δ (tCallS (sp_is_few C.P C.w C.K) (WE W) (tCons t0 (tCons t1 tNil))) (.bool (isFew v d)) :=
  x_call (v, d) (eva_cons h0 (eva_cons h1 eva_nil)) o rfl
end
end Kw

/-! text D4 -/
/-! need_bounds, need_asked -/
namespace Kw
open PySem PySem.Spec PyProof.Rows L2 PySem.Calls
abbrev s_need_bounds : Stmt := top 39
theorem sc_need_bounds : FnScope ["low", "high", "fails"] ["low", "high", "fails"] (defScope s_need_bounds) := ⟨rfl, rfl, rfl, by decide +kernel, rfl, by decide +kernel, by decide +kernel⟩
abbrev s_need_asked : Stmt := top 38
theorem sc_need_asked : FnScope ["well", "state", "low", "high", "fails"] ["well", "state", "low", "high", "fails"] (defScope s_need_asked) := ⟨rfl, rfl, rfl, by decide +kernel, rfl, by decide +kernel, by decide +kernel⟩
def bounds (lo hi f : PyData) : Bool := whole lo (.int 0) (.int 300) && (whole hi lo (.int 300) && whole f (.int 0) (.int 4))
def asked (C1 C3 : Addr) (g : Bool) (v : Wl) (d lo hi f : PyData) : Rs := if g then (if isFew v d && bounds lo hi f then .dat .none else .exc C3 none) else .exc C1 (some "form")
section
variable {P : Program} {w : World} {K : PySem.W.Frag} {mg : Str → Option Value} {base : Heap} {C1 C2 C3 : Addr}
abbrev sp_need_bounds (C3 : Addr) (P : Program) (w : World) (K : PySem.W.Frag) : Sp := ASp (α := PyData × PyData × PyData) P w K (fun a => [a.1, a.2.1, a.2.2]) (fun _ => True) fun a r => r = if bounds a.1 a.2.1 a.2.2 then .dat .none else .exc C3 none
theorem ok_need_bounds {f : Addr} {fd : FuncData} (T : Tx P K mg C1 C2 C3) (F : Fun K "need_bounds" "need_bounds" s_need_bounds f fd) (c_is_whole : Cl P w K mg base 1 "is_whole" (sp_is_whole P w K)) : FnG P w K mg base 2 f fd ["low", "high", "fails"] (sp_need_bounds C3 P w K) := by
  refine body_g F sc_need_bounds (fun a => rfl) (fun cdv ar up z H Q E hgd hr => ⟨_, (pss_cons (ps_if (PW.pt (pw_or (pt_not (pt_val (gCl (P := P) (w := w) (K := K) ⟨rfl, rfl, rfl⟩ rfl rfl c_is_whole hr hgd (by rfl) (takes_of rfl rfl rfl rfl) (pa_cons (pv 0) (pa_cons pe_int (pa_cons (pe_k (by rfl) T.c_MOST_INFLOW) pa_nil)))))) (pw_or1 (pt_not (pt_val (gCl (P := P) (w := w) (K := K) ⟨rfl, rfl, rfl⟩ rfl rfl c_is_whole hr hgd (by rfl) (takes_of rfl rfl rfl rfl) (pa_cons (pv 1) (pa_cons (pv 0) (pa_cons (pe_k (by rfl) T.c_MOST_INFLOW) pa_nil))))))))) (pss_one (ps_raise rfl (takes_of rfl rfl rfl rfl) (pmk_text (k := 0) T.ox3 T.rx3 (hr.mono (by decide)) (by rfl) T.mx3 (pa_cons pe_str pa_nil)))) pss_nil) (pss_one (ps_if (pt_not (pt_val (gCl (P := P) (w := w) (K := K) ⟨rfl, rfl, rfl⟩ rfl rfl c_is_whole hr hgd (by rfl) (takes_of rfl rfl rfl rfl) (pa_cons (pv 2) (pa_cons pe_int (pa_cons (pe_k (by rfl) T.c_MOST_FAILS) pa_nil)))))) (pss_one (ps_raise rfl (takes_of rfl rfl rfl rfl) (pmk_text (k := 0) T.ox3 T.rx3 (hr.mono (by decide)) (by rfl) T.mx3 (pa_cons pe_str pa_nil)))) pss_nil))), fun v hv hq => ?_⟩)
  obtain ⟨lo, hi, g⟩ := v
  replace hq := hq _ rfl
  replace hq : RsOk P w K H Q E (if bounds lo hi g then .dat .none else .exc C3 none) := hq
  show Nx _ [.dat lo, .dat hi, .dat g] _ _
  cases h1 : whole lo (.int 0) (.int 300) with
  | false =>
    rw [if_neg (by simp [bounds, h1])] at hq
    (try dsimp only [List.set, setAll])
    refine nx_sq ?_
    apply nx_ifT (b := true)
    · apply evt_orT
      · (repeat' (first
      | exact hix | exact hix2 | exact hix3 | exact hix4
      | ((with_reducible apply ev_var) <;> rfl)
      | (with_reducible exact ev_int) | (with_reducible exact ev_bl) | (with_reducible exact ev_str) | (with_reducible exact ev_non) | (with_reducible exact eva_nil) | (with_reducible exact evo_none)
      | (with_reducible (first | apply eva_cons | apply ev_tup | apply evo_some | apply x_add | apply e_sub | apply x_mul | apply ev_mod | apply ev_neg | apply e_div))
      | refine e_lenN (evm_var rfl) rfl ?_
      | (with_reducible (first | apply x_len | apply x_ix | apply x_sl | apply ev_isN | apply ev_notN | apply ev_eqD | apply ev_neD | apply e_lt | apply ev_le | apply ev_gt | apply ev_ge | apply ev_isInt | apply ev_isBool | apply ev_isTup | apply ev_isStr | apply ec_whole | apply eca_counts | apply eca_levels | exact ⟨rfl, rfl⟩ | apply ev_min | apply ev_intc | apply ev_sumT | apply evt_B | apply evt_test | apply evt_not | apply evt_and | apply evt_or | apply ev_andV | apply ev_orV | apply ev_notV | apply ev_ite | intro _ | exact True.intro | rfl))
      | exact True.intro | exact ⟨rfl, rfl⟩ | exact Nat.le_of_ble_eq_true rfl | rfl))
      · simp [h1]
    · rfl
    exact nx_raiseT ev_str hq
  | true =>
  obtain ⟨l, rfl⟩ : ∃ l, lo = .int l := by cases lo <;> first | exact ⟨_, rfl⟩ | (simp [whole] at h1; done)
  cases h2 : whole hi (.int l) (.int 300) with
  | false =>
    rw [if_neg (by simp [bounds, h2])] at hq
    (try dsimp only [List.set, setAll])
    refine nx_sq ?_
    apply nx_ifT
    · (repeat' (first
      | exact hix | exact hix2 | exact hix3 | exact hix4
      | ((with_reducible apply ev_var) <;> rfl)
      | (with_reducible exact ev_int) | (with_reducible exact ev_bl) | (with_reducible exact ev_str) | (with_reducible exact ev_non) | (with_reducible exact eva_nil) | (with_reducible exact evo_none)
      | (with_reducible (first | apply eva_cons | apply ev_tup | apply evo_some | apply x_add | apply e_sub | apply x_mul | apply ev_mod | apply ev_neg | apply e_div))
      | refine e_lenN (evm_var rfl) rfl ?_
      | (with_reducible (first | apply x_len | apply x_ix | apply x_sl | apply ev_isN | apply ev_notN | apply ev_eqD | apply ev_neD | apply e_lt | apply ev_le | apply ev_gt | apply ev_ge | apply ev_isInt | apply ev_isBool | apply ev_isTup | apply ev_isStr | apply ec_whole | apply eca_counts | apply eca_levels | exact ⟨rfl, rfl⟩ | apply ev_min | apply ev_intc | apply ev_sumT | apply evt_B | apply evt_test | apply evt_not | apply evt_and | apply evt_or | apply ev_andV | apply ev_orV | apply ev_notV | apply ev_ite | intro _ | exact True.intro | rfl))
      | exact True.intro | exact ⟨rfl, rfl⟩ | exact Nat.le_of_ble_eq_true rfl | rfl))
    · (simp [h1, h2])
    exact nx_raiseT ev_str hq
  | true =>
  (try dsimp only [List.set, setAll])
  refine nx_sq ?_
  apply nx_ifF
  · (repeat' (first
      | exact hix | exact hix2 | exact hix3 | exact hix4
      | ((with_reducible apply ev_var) <;> rfl)
      | (with_reducible exact ev_int) | (with_reducible exact ev_bl) | (with_reducible exact ev_str) | (with_reducible exact ev_non) | (with_reducible exact eva_nil) | (with_reducible exact evo_none)
      | (with_reducible (first | apply eva_cons | apply ev_tup | apply evo_some | apply x_add | apply e_sub | apply x_mul | apply ev_mod | apply ev_neg | apply e_div))
      | refine e_lenN (evm_var rfl) rfl ?_
      | (with_reducible (first | apply x_len | apply x_ix | apply x_sl | apply ev_isN | apply ev_notN | apply ev_eqD | apply ev_neD | apply e_lt | apply ev_le | apply ev_gt | apply ev_ge | apply ev_isInt | apply ev_isBool | apply ev_isTup | apply ev_isStr | apply ec_whole | apply eca_counts | apply eca_levels | exact ⟨rfl, rfl⟩ | apply ev_min | apply ev_intc | apply ev_sumT | apply evt_B | apply evt_test | apply evt_not | apply evt_and | apply evt_or | apply ev_andV | apply ev_orV | apply ev_notV | apply ev_ite | intro _ | exact True.intro | rfl))
      | exact True.intro | exact ⟨rfl, rfl⟩ | exact Nat.le_of_ble_eq_true rfl | rfl))
  · (simp [h1, h2])
  refine nx_nx ?_
  (try dsimp only [List.set, setAll])
  cases h3 : whole g (.int 0) (.int 4) with
  | false =>
    rw [if_neg (by simp [bounds, h3])] at hq
    apply nx_ifT
    · (repeat' (first
      | exact hix | exact hix2 | exact hix3 | exact hix4
      | ((with_reducible apply ev_var) <;> rfl)
      | (with_reducible exact ev_int) | (with_reducible exact ev_bl) | (with_reducible exact ev_str) | (with_reducible exact ev_non) | (with_reducible exact eva_nil) | (with_reducible exact evo_none)
      | (with_reducible (first | apply eva_cons | apply ev_tup | apply evo_some | apply x_add | apply e_sub | apply x_mul | apply ev_mod | apply ev_neg | apply e_div))
      | refine e_lenN (evm_var rfl) rfl ?_
      | (with_reducible (first | apply x_len | apply x_ix | apply x_sl | apply ev_isN | apply ev_notN | apply ev_eqD | apply ev_neD | apply e_lt | apply ev_le | apply ev_gt | apply ev_ge | apply ev_isInt | apply ev_isBool | apply ev_isTup | apply ev_isStr | apply ec_whole | apply eca_counts | apply eca_levels | exact ⟨rfl, rfl⟩ | apply ev_min | apply ev_intc | apply ev_sumT | apply evt_B | apply evt_test | apply evt_not | apply evt_and | apply evt_or | apply ev_andV | apply ev_orV | apply ev_notV | apply ev_ite | intro _ | exact True.intro | rfl))
      | exact True.intro | exact ⟨rfl, rfl⟩ | exact Nat.le_of_ble_eq_true rfl | rfl))
    · simp [h3]
    exact nx_raiseT ev_str hq
  | true =>
    rw [if_pos (by simp [bounds, h1, h2, h3])] at hq
    apply nx_ifF
    · (repeat' (first
      | exact hix | exact hix2 | exact hix3 | exact hix4
      | ((with_reducible apply ev_var) <;> rfl)
      | (with_reducible exact ev_int) | (with_reducible exact ev_bl) | (with_reducible exact ev_str) | (with_reducible exact ev_non) | (with_reducible exact eva_nil) | (with_reducible exact evo_none)
      | (with_reducible (first | apply eva_cons | apply ev_tup | apply evo_some | apply x_add | apply e_sub | apply x_mul | apply ev_mod | apply ev_neg | apply e_div))
      | refine e_lenN (evm_var rfl) rfl ?_
      | (with_reducible (first | apply x_len | apply x_ix | apply x_sl | apply ev_isN | apply ev_notN | apply ev_eqD | apply ev_neD | apply e_lt | apply ev_le | apply ev_gt | apply ev_ge | apply ev_isInt | apply ev_isBool | apply ev_isTup | apply ev_isStr | apply ec_whole | apply eca_counts | apply eca_levels | exact ⟨rfl, rfl⟩ | apply ev_min | apply ev_intc | apply ev_sumT | apply evt_B | apply evt_test | apply evt_not | apply evt_and | apply evt_or | apply ev_andV | apply ev_orV | apply ev_notV | apply ev_ite | intro _ | exact True.intro | rfl))
      | exact True.intro | exact ⟨rfl, rfl⟩ | exact Nat.le_of_ble_eq_true rfl | rfl))
    · simp [h3]
    exact nx_nx (nx_out hq)
abbrev sp_need_asked (C1 C3 : Addr) (P : Program) (w : World) (K : PySem.W.Frag) : Sp := ASp (α := Bool × Wl × PyData × PyData × PyData × PyData) P w K (fun a => [if a.1 then a.2.1.d else .tuple (a.2.1.l.take 8), a.2.2.1, a.2.2.2.1, a.2.2.2.2.1, a.2.2.2.2.2]) (fun a => a.2.1.Ok ∧ sm5 a.2.2.1)
  fun a r => r = asked C1 C3 a.1 a.2.1 a.2.2.1 a.2.2.2.1 a.2.2.2.2.1 a.2.2.2.2.2
theorem ok_need_asked {f : Addr} {fd : FuncData} (T : Tx P K mg C1 C2 C3) (F : Fun K "need_asked" "need_asked" s_need_asked f fd) (c_is_few : Cl P w K mg base 5 "is_few" (sp_is_few P w K)) (c_need_well : Cl P w K mg base 5 "need_well" (sp_need_well C1 P w K)) (c_need_bounds : Cl P w K mg base 5 "need_bounds" (sp_need_bounds C3 P w K)) :
    FnG P w K mg base 6 f fd ["well", "state", "low", "high", "fails"] (sp_need_asked C1 C3 P w K) := by
  refine body_g F sc_need_asked (fun a => rfl) (fun cdv ar up z H Q E hgd hr => ⟨_, (pss_cons (ps_expr (gCl (P := P) (w := w) (K := K) ⟨rfl, rfl, rfl⟩ rfl rfl c_need_well hr hgd (by rfl) (takes_of rfl rfl rfl rfl) (pa_cons (pv 0) pa_nil))) (pss_cons (ps_if (pt_not (pt_val (gCl (P := P) (w := w) (K := K) ⟨rfl, rfl, rfl⟩ rfl rfl c_is_few hr hgd (by rfl) (takes_of rfl rfl rfl rfl) (pa_cons (pv 0) (pa_cons (pv 1) pa_nil))))) (pss_one (ps_raise rfl (takes_of rfl rfl rfl rfl) (pmk_text (k := 0) T.ox3 T.rx3 (hr.mono (by decide)) (by rfl) T.mx3 (pa_cons pe_str pa_nil)))) pss_nil) (pss_one (ps_expr (gCl (P := P) (w := w) (K := K) ⟨rfl, rfl, rfl⟩ rfl rfl c_need_bounds hr hgd (by rfl) (takes_of rfl rfl rfl rfl) (pa_cons (pv 2) (pa_cons (pv 3) (pa_cons (pv 4) pa_nil)))))))), fun v hv hq => ?_⟩)
  obtain ⟨g, v, d, lo, hi, f⟩ := v
  replace hq := hq _ rfl
  obtain ⟨hv, hd⟩ : v.Ok ∧ sm5 d := hv
  replace hq : RsOk P w K H Q E (asked C1 C3 g v d lo hi f) := hq
  show Nx _ [.dat (if g then v.d else .tuple (v.l.take 8)), .dat d, .dat lo, .dat hi, .dat f] _ _
  (try dsimp only [List.set, setAll])
  refine nx_sq ?_
  refine nx_dropC (cl_call (α := Wl × Bool) (v, g) (eva_cons (ev_var rfl) eva_nil) hv) fun r hr => ?_
  subst hr
  cases g with
  | false =>
    show Nx _ _ _ _
    exact nx_exc hq
  | true =>
    refine nxc_drop rfl ?_
    (try dsimp only [List.set, setAll])
    cases h1 : isFew v d with
    | false =>
      have hq' : RsOk P w K H Q E (.exc C3 none) := by simpa [asked, h1] using hq
      refine nx_sq (nx_ifT (evt_not (evt_B (eca_few (v := v) (ev_var rfl) (ev_var rfl) hd))) (by simp [h1]) ?_)
      exact nx_raiseT ev_str hq'
    | true =>
      have hq' : RsOk P w K H Q E (if bounds lo hi f then .dat .none else .exc C3 none) := by simpa [asked, h1] using hq
      refine nx_sq (nx_ifF (evt_not (evt_B (eca_few (v := v) (ev_var rfl) (ev_var rfl) hd))) (by simp [h1]) (nx_nx ?_))
      (try dsimp only [List.set, setAll])
      refine nx_dropC (cl_call (α := PyData × PyData × PyData) (lo, hi, f) (eva_cons (ev_var rfl) (eva_cons (ev_var rfl) (eva_cons (ev_var rfl) eva_nil))) trivial) fun r hr => ?_
      subst hr
      cases hb : bounds lo hi f with
      | true =>
        rw [hb] at hq'
        simp only [hb]
        exact ⟨rfl, fun G H1 σ v S r => nx_out hq' G H1 σ S⟩
      | false =>
        rw [hb] at hq'
        simp only [hb]
        show Nx _ _ _ _
        exact nx_exc hq'
end
end Kw

/-! text D5 -/
/-! seen_of, moves_of, aged, led_to, after_in, _law_step -/
namespace Kw
open PySem PySem.Spec PyProof.Rows L2 PySem.Calls
abbrev s_seen_of : Stmt := top 24
theorem sc_seen_of : FnScope ["well", "level", "past", "found"] ["well", "level", "past"] (defScope s_seen_of) := ⟨rfl, rfl, rfl, by decide +kernel, rfl, by decide +kernel, by decide +kernel⟩
abbrev s_moves_of : Stmt := top 25
theorem sc_moves_of : FnScope ["well", "state", "seen"] ["well", "state"] (defScope s_moves_of) := ⟨rfl, rfl, rfl, by decide +kernel, rfl, by decide +kernel, by decide +kernel⟩
abbrev s_aged : Stmt := top 26
theorem sc_aged : FnScope ["well", "running", "resting", "ready", "started", "stopped", "on", "off"] ["well", "running", "resting", "ready", "started", "stopped"] (defScope s_aged) := ⟨rfl, rfl, rfl, by decide +kernel, rfl, by decide +kernel, by decide +kernel⟩
abbrev s_led_to : Stmt := top 27
theorem sc_led_to : FnScope ["well", "state", "started", "stopped", "inflow", "on", "off", "ready", "level", "busy", "past"] ["well", "state", "started", "stopped", "inflow"] (defScope s_led_to) := ⟨rfl, rfl, rfl, by decide +kernel, rfl, by decide +kernel, by decide +kernel⟩
abbrev s_after_in : Stmt := top 28
theorem sc_after_in : FnScope ["well", "state", "inflow", "started", "stopped"] ["well", "state", "inflow"] (defScope s_after_in) := ⟨rfl, rfl, rfl, by decide +kernel, rfl, by decide +kernel, by decide +kernel⟩
theorem ixI {l : List Int} {i x : Int} (h : atI l i = some x) : ixD (intsD l) (.int i) = some (.int x) := by
  show atI (l.map PyData.int) i = _
  rw [atI_map, h]
  rfl
theorem ixIL {l : List Int} {i x : Int} (h : atI l i = some x) : ixD (.list (l.map .int)) (.int i) = some (.int x) := by
  show atI (l.map PyData.int) i = _
  rw [atI_map, h]
  rfl
theorem last_some {l : List Int} (h : l ≠ []) : atI l (-1) = some ((atI l (-1)).getD 0) := by
  have hl : 0 < l.length := List.length_pos_iff.mpr h
  have e : atI l (-1) = l[l.length - 1]? := atI_neg l 1 (by decide) hl
  rw [e, List.getElem?_eq_getElem (by omega)]
  rfl
theorem prev_some {l : List Int} (h : 2 ≤ l.length) : atI l (-2) = some ((atI l (-2)).getD 0) := by
  have e : atI l (-2) = l[l.length - 2]? := atI_neg l 2 (by decide) h
  rw [e, List.getElem?_eq_getElem (by omega)]
  rfl
theorem len_pos {α : Type} {l : List α} {n : Int} (h : (l.length : Int) = n) (hn : 1 ≤ n) : l ≠ [] := by
  rintro rfl
  simp at h
  omega
theorem cmul_small {i j : Int} (h : 1 ≤ i ∧ i ≤ 3) : CMul i j := .inl ⟨by omega, by omega⟩
abbrev Pt := Wl × S
def Pt.Ok (a : Pt) : Prop := a.1.Ok ∧ a.2.Ok a.1
section
variable {P : Program} {w : World} {K : PySem.W.Frag} {mg : Str → Option Value} {base : Heap} {C1 C2 C3 : Addr}
def baseSeen (v : Wl) (s : S) : Int := if 0 < v.lag then s.past.headD 0 else s.lev
abbrev sp_seen_of (P : Program) (w : World) (K : PySem.W.Frag) : Sp := ASp (α := Pt) P w K (fun a => [a.1.d, .int a.2.lev, intsD a.2.past]) Pt.Ok fun a r => r = .dat (.int (seenF a.1 a.2))
theorem ok_seen_of {f : Addr} {fd : FuncData} (T : Tx P K mg C1 C2 C3) (F : Fun K "seen_of" "seen_of" s_seen_of f fd) : FnG P w K mg base 1 f fd ["well", "level", "past"] (sp_seen_of P w K) := by
  refine body_g F sc_seen_of (fun a => rfl) (fun cdv ar up z H Q E hgd hr => ⟨_, (pss_cons (ps_set (i := 3) sc_seen_of.nd rfl (by first | exact Or.inl rfl | exact Or.inr rfl) (pe_ifExp (pt_cmpR op_gt (pe_ix (gIx (P := P) (w := w) (K := K) ⟨rfl, rfl, rfl⟩ (hu65 hr)) (pv 0) pe_int (fun _ _ => rfl)) pe_int (nomark _)) (pe_ix (gIx (P := P) (w := w) (K := K) ⟨rfl, rfl, rfl⟩ (hu65 hr)) (pv 2) pe_int (fun _ _ => rfl)) (pv 1))) (pss_one (ps_ret (pe_op op_sub (pv 3) (pe_op op_mod (pe_callTy call_int1 (by rfl) T.b_int boot_k_int (pa_cons (pv 3) pa_nil)) (pe_ix (gIx (P := P) (w := w) (K := K) ⟨rfl, rfl, rfl⟩ (hu65 hr)) (pv 0) pe_int (fun _ _ => rfl))))))), fun v hv hq => ?_⟩)
  obtain ⟨v, s⟩ := v
  replace hq : RsOk P w K H Q E (.dat (.int (seenF v s))) := hq _ rfl
  obtain ⟨hv, hs⟩ : v.Ok ∧ s.Ok v := hv
  show Nx _ [.dat v.d, .dat (.int s.lev), .dat (intsD s.past), .any] _ _
  (try dsimp only [List.set, setAll])
  refine nx_sq ?_
  apply nx_asg (d := .int (baseSeen v s))
  · by_cases h : 0 < v.lag
    · apply ev_ifT
      · (repeat' (first
      | exact hix | exact hix2 | exact hix3 | exact hix4
      | ((with_reducible apply ev_var) <;> rfl)
      | (with_reducible exact ev_int) | (with_reducible exact ev_bl) | (with_reducible exact ev_str) | (with_reducible exact ev_non) | (with_reducible exact eva_nil) | (with_reducible exact evo_none)
      | (with_reducible (first | apply eva_cons | apply ev_tup | apply evo_some | apply x_add | apply e_sub | apply x_mul | apply ev_mod | apply ev_neg | apply e_div))
      | refine e_lenN (evm_var rfl) rfl ?_
      | (with_reducible (first | apply x_len | apply x_ix | apply x_sl | apply ev_isN | apply ev_notN | apply ev_eqD | apply ev_neD | apply e_lt | apply ev_le | apply ev_gt | apply ev_ge | apply ev_isInt | apply ev_isBool | apply ev_isTup | apply ev_isStr | apply ec_whole | apply eca_counts | apply eca_levels | exact ⟨rfl, rfl⟩ | apply ev_min | apply ev_intc | apply ev_sumT | apply evt_B | apply evt_test | apply evt_not | apply evt_and | apply evt_or | apply ev_andV | apply ev_orV | apply ev_notV | apply ev_ite | intro _ | exact True.intro | rfl))
      | exact True.intro | exact ⟨rfl, rfl⟩ | exact Nat.le_of_ble_eq_true rfl | rfl))
      · exact decide_eq_true h
      · obtain ⟨x, r, e⟩ := List.exists_cons_of_ne_nil (len_pos hs.past.1 (by omega))
        have eb : baseSeen v s = x := by simp [baseSeen, h, e]
        rw [eb, e]
        have hix : ixD (intsD (x :: r)) (.int 0) = some (.int x) := ixI (by rw [show (0 : Int) = ((0 : Nat) : Int) from rfl, atI_nat]; rfl)
        (repeat' (first
      | exact hix | exact hix2 | exact hix3 | exact hix4
      | ((with_reducible apply ev_var) <;> rfl)
      | (with_reducible exact ev_int) | (with_reducible exact ev_bl) | (with_reducible exact ev_str) | (with_reducible exact ev_non) | (with_reducible exact eva_nil) | (with_reducible exact evo_none)
      | (with_reducible (first | apply eva_cons | apply ev_tup | apply evo_some | apply x_add | apply e_sub | apply x_mul | apply ev_mod | apply ev_neg | apply e_div))
      | refine e_lenN (evm_var rfl) rfl ?_
      | (with_reducible (first | apply x_len | apply x_ix | apply x_sl | apply ev_isN | apply ev_notN | apply ev_eqD | apply ev_neD | apply e_lt | apply ev_le | apply ev_gt | apply ev_ge | apply ev_isInt | apply ev_isBool | apply ev_isTup | apply ev_isStr | apply ec_whole | apply eca_counts | apply eca_levels | exact ⟨rfl, rfl⟩ | apply ev_min | apply ev_intc | apply ev_sumT | apply evt_B | apply evt_test | apply evt_not | apply evt_and | apply evt_or | apply ev_andV | apply ev_orV | apply ev_notV | apply ev_ite | intro _ | exact True.intro | rfl))
      | exact True.intro | exact ⟨rfl, rfl⟩ | exact Nat.le_of_ble_eq_true rfl | rfl))
    · apply ev_ifF
      · (repeat' (first
      | exact hix | exact hix2 | exact hix3 | exact hix4
      | ((with_reducible apply ev_var) <;> rfl)
      | (with_reducible exact ev_int) | (with_reducible exact ev_bl) | (with_reducible exact ev_str) | (with_reducible exact ev_non) | (with_reducible exact eva_nil) | (with_reducible exact evo_none)
      | (with_reducible (first | apply eva_cons | apply ev_tup | apply evo_some | apply x_add | apply e_sub | apply x_mul | apply ev_mod | apply ev_neg | apply e_div))
      | refine e_lenN (evm_var rfl) rfl ?_
      | (with_reducible (first | apply x_len | apply x_ix | apply x_sl | apply ev_isN | apply ev_notN | apply ev_eqD | apply ev_neD | apply e_lt | apply ev_le | apply ev_gt | apply ev_ge | apply ev_isInt | apply ev_isBool | apply ev_isTup | apply ev_isStr | apply ec_whole | apply eca_counts | apply eca_levels | exact ⟨rfl, rfl⟩ | apply ev_min | apply ev_intc | apply ev_sumT | apply evt_B | apply evt_test | apply evt_not | apply evt_and | apply evt_or | apply ev_andV | apply ev_orV | apply ev_notV | apply ev_ite | intro _ | exact True.intro | rfl))
      | exact True.intro | exact ⟨rfl, rfl⟩ | exact Nat.le_of_ble_eq_true rfl | rfl))
      · exact decide_eq_false h
      · have eb : baseSeen v s = s.lev := by simp [baseSeen, h]
        rw [eb]
        (repeat' (first
      | exact hix | exact hix2 | exact hix3 | exact hix4
      | ((with_reducible apply ev_var) <;> rfl)
      | (with_reducible exact ev_int) | (with_reducible exact ev_bl) | (with_reducible exact ev_str) | (with_reducible exact ev_non) | (with_reducible exact eva_nil) | (with_reducible exact evo_none)
      | (with_reducible (first | apply eva_cons | apply ev_tup | apply evo_some | apply x_add | apply e_sub | apply x_mul | apply ev_mod | apply ev_neg | apply e_div))
      | refine e_lenN (evm_var rfl) rfl ?_
      | (with_reducible (first | apply x_len | apply x_ix | apply x_sl | apply ev_isN | apply ev_notN | apply ev_eqD | apply ev_neD | apply e_lt | apply ev_le | apply ev_gt | apply ev_ge | apply ev_isInt | apply ev_isBool | apply ev_isTup | apply ev_isStr | apply ec_whole | apply eca_counts | apply eca_levels | exact ⟨rfl, rfl⟩ | apply ev_min | apply ev_intc | apply ev_sumT | apply evt_B | apply evt_test | apply evt_not | apply evt_and | apply evt_or | apply ev_andV | apply ev_orV | apply ev_notV | apply ev_ite | intro _ | exact True.intro | rfl))
      | exact True.intro | exact ⟨rfl, rfl⟩ | exact Nat.le_of_ble_eq_true rfl | rfl))
  have := hv.step
  (try dsimp only [List.set, setAll])
  apply nx_ret2 (k := rt_of rfl hq)
  · (repeat' (first
      | exact hix | exact hix2 | exact hix3 | exact hix4
      | ((with_reducible apply ev_var) <;> rfl)
      | (with_reducible exact ev_int) | (with_reducible exact ev_bl) | (with_reducible exact ev_str) | (with_reducible exact ev_non) | (with_reducible exact eva_nil) | (with_reducible exact evo_none)
      | (with_reducible (first | apply eva_cons | apply ev_tup | apply evo_some | apply x_add | apply e_sub | apply x_mul | apply ev_mod | apply ev_neg | apply e_div))
      | refine e_lenN (evm_var rfl) rfl ?_
      | (with_reducible (first | apply x_len | apply x_ix | apply x_sl | apply ev_isN | apply ev_notN | apply ev_eqD | apply ev_neD | apply e_lt | apply ev_le | apply ev_gt | apply ev_ge | apply ev_isInt | apply ev_isBool | apply ev_isTup | apply ev_isStr | apply ec_whole | apply eca_counts | apply eca_levels | exact ⟨rfl, rfl⟩ | apply ev_min | apply ev_intc | apply ev_sumT | apply evt_B | apply evt_test | apply evt_not | apply evt_and | apply evt_or | apply ev_andV | apply ev_orV | apply ev_notV | apply ev_ite | intro _ | exact True.intro | rfl))
      | exact True.intro | exact ⟨rfl, rfl⟩ | exact Nat.le_of_ble_eq_true rfl | rfl))
    all_goals omega
  · rfl
abbrev sp_moves_of (P : Program) (w : World) (K : PySem.W.Frag) : Sp := ASp (α := Pt) P w K (fun a => [a.1.d, a.2.d]) Pt.Ok fun a r => r = .dat (.tuple [.int (movesF a.1 a.2).1, .int (movesF a.1 a.2).2])
theorem ok_moves_of {f : Addr} {fd : FuncData} (T : Tx P K mg C1 C2 C3) (F : Fun K "moves_of" "moves_of" s_moves_of f fd) (c_seen_of : Cl P w K mg base 1 "seen_of" (sp_seen_of P w K)) : FnG P w K mg base 2 f fd ["well", "state"] (sp_moves_of P w K) := by
  refine body_g F sc_moves_of (fun a => rfl) (fun cdv ar up z H Q E hgd hr => ⟨_, (pss_cons (ps_set (i := 2) sc_moves_of.nd rfl (by first | exact Or.inl rfl | exact Or.inr rfl) (gCl (P := P) (w := w) (K := K) ⟨rfl, rfl, rfl⟩ rfl rfl c_seen_of hr hgd (by rfl) takesF (pa_cons (pv 0) (pa_cons (pe_ix (gIx (P := P) (w := w) (K := K) ⟨rfl, rfl, rfl⟩ (hu65 hr)) (pv 1) pe_int (fun _ _ => rfl)) (pa_cons (pe_ix (gIx (P := P) (w := w) (K := K) ⟨rfl, rfl, rfl⟩ (hu65 hr)) (pv 1) pe_int (fun _ _ => rfl)) pa_nil))))) (pss_cons (ps_if (pt_cmpR op_ge (pv 2) (pe_ix (gIx (P := P) (w := w) (K := K) ⟨rfl, rfl, rfl⟩ (hu65 hr)) (pv 0) pe_int (fun _ _ => rfl)) (nomark _)) (pss_one (ps_ret (pe_tup (pa_cons (pe_ifExp (pt_cmpR op_isN (pe_ix (gIx (P := P) (w := w) (K := K) ⟨rfl, rfl, rfl⟩ (hu65 hr)) (pv 1) pe_int (fun _ _ => rfl)) pe_non (nomark _)) (pe_ix (gIx (P := P) (w := w) (K := K) ⟨rfl, rfl, rfl⟩ (hu65 hr)) (pv 0) pe_int (fun _ _ => rfl)) (pe_callB (call_min2 rfl) (by rfl) T.b_min boot_k_min (pa_cons (pe_ix (gIx (P := P) (w := w) (K := K) ⟨rfl, rfl, rfl⟩ (hu65 hr)) (pv 0) pe_int (fun _ _ => rfl)) (pa_cons (pe_ix (gIx (P := P) (w := w) (K := K) ⟨rfl, rfl, rfl⟩ (hu65 hr)) (pv 1) pe_int (fun _ _ => rfl)) pa_nil)))) (pa_cons pe_int pa_nil))))) pss_nil) (pss_one (ps_ret (pe_tup (pa_cons pe_int (pa_cons (pe_ifExp (pt_cmpR op_le (pv 2) (pe_ix (gIx (P := P) (w := w) (K := K) ⟨rfl, rfl, rfl⟩ (hu65 hr)) (pv 0) pe_int (fun _ _ => rfl)) (nomark _)) (pe_ix (gIx (P := P) (w := w) (K := K) ⟨rfl, rfl, rfl⟩ (hu65 hr)) (pe_ix (gIx (P := P) (w := w) (K := K) ⟨rfl, rfl, rfl⟩ (hu65 hr)) (pv 1) pe_int (fun _ _ => rfl)) (pe_un un_neg pe_int) (fun _ _ => rfl)) pe_int) pa_nil))))))), fun v hv hq => ?_⟩)
  obtain ⟨v, s⟩ := v
  replace hq : RsOk P w K H Q E (.dat (.tuple [.int (movesF v s).1, .int (movesF v s).2])) := hq _ rfl
  have hv0 := hv
  obtain ⟨hv, hs⟩ : v.Ok ∧ s.Ok v := hv
  show Nx _ [.dat v.d, .dat s.d, .any] _ _
  (try dsimp only [List.set, setAll])
  refine nx_sq ?_
  apply nx_asg (d := .int (seenF v s))
  · refine x_call (α := Pt) (v, s) ?_ hv0 rfl
    (repeat' (first
      | exact hix | exact hix2 | exact hix3 | exact hix4
      | ((with_reducible apply ev_var) <;> rfl)
      | (with_reducible exact ev_int) | (with_reducible exact ev_bl) | (with_reducible exact ev_str) | (with_reducible exact ev_non) | (with_reducible exact eva_nil) | (with_reducible exact evo_none)
      | (with_reducible (first | apply eva_cons | apply ev_tup | apply evo_some | apply x_add | apply e_sub | apply x_mul | apply ev_mod | apply ev_neg | apply e_div))
      | refine e_lenN (evm_var rfl) rfl ?_
      | (with_reducible (first | apply x_len | apply x_ix | apply x_sl | apply ev_isN | apply ev_notN | apply ev_eqD | apply ev_neD | apply e_lt | apply ev_le | apply ev_gt | apply ev_ge | apply ev_isInt | apply ev_isBool | apply ev_isTup | apply ev_isStr | apply ec_whole | apply eca_counts | apply eca_levels | exact ⟨rfl, rfl⟩ | apply ev_min | apply ev_intc | apply ev_sumT | apply evt_B | apply evt_test | apply evt_not | apply evt_and | apply evt_or | apply ev_andV | apply ev_orV | apply ev_notV | apply ev_ite | intro _ | exact True.intro | rfl))
      | exact True.intro | exact ⟨rfl, rfl⟩ | exact Nat.le_of_ble_eq_true rfl | rfl))
  have hon := len_pos hs.on.1 hv.run.1
  (try dsimp only [List.set, setAll])
  refine nx_sq ?_
  by_cases h : v.on ≤ seenF v s
  · apply nx_ifT
    · (repeat' (first
      | exact hix | exact hix2 | exact hix3 | exact hix4
      | ((with_reducible apply ev_var) <;> rfl)
      | (with_reducible exact ev_int) | (with_reducible exact ev_bl) | (with_reducible exact ev_str) | (with_reducible exact ev_non) | (with_reducible exact eva_nil) | (with_reducible exact evo_none)
      | (with_reducible (first | apply eva_cons | apply ev_tup | apply evo_some | apply x_add | apply e_sub | apply x_mul | apply ev_mod | apply ev_neg | apply e_div))
      | refine e_lenN (evm_var rfl) rfl ?_
      | (with_reducible (first | apply x_len | apply x_ix | apply x_sl | apply ev_isN | apply ev_notN | apply ev_eqD | apply ev_neD | apply e_lt | apply ev_le | apply ev_gt | apply ev_ge | apply ev_isInt | apply ev_isBool | apply ev_isTup | apply ev_isStr | apply ec_whole | apply eca_counts | apply eca_levels | exact ⟨rfl, rfl⟩ | apply ev_min | apply ev_intc | apply ev_sumT | apply evt_B | apply evt_test | apply evt_not | apply evt_and | apply evt_or | apply ev_andV | apply ev_orV | apply ev_notV | apply ev_ite | intro _ | exact True.intro | rfl))
      | exact True.intro | exact ⟨rfl, rfl⟩ | exact Nat.le_of_ble_eq_true rfl | rfl))
    · exact decide_eq_true h
    apply nx_ret2 (k := rt_of rfl hq)
    · (repeat' (first
      | exact hix | exact hix2 | exact hix3 | exact hix4
      | ((with_reducible apply ev_var) <;> rfl)
      | (with_reducible exact ev_int) | (with_reducible exact ev_bl) | (with_reducible exact ev_str) | (with_reducible exact ev_non) | (with_reducible exact eva_nil) | (with_reducible exact evo_none)
      | (with_reducible (first | apply eva_cons | apply ev_tup | apply evo_some | apply x_add | apply e_sub | apply x_mul | apply ev_mod | apply ev_neg | apply e_div))
      | refine e_lenN (evm_var rfl) rfl ?_
      | (with_reducible (first | apply x_len | apply x_ix | apply x_sl | apply ev_isN | apply ev_notN | apply ev_eqD | apply ev_neD | apply e_lt | apply ev_le | apply ev_gt | apply ev_ge | apply ev_isInt | apply ev_isBool | apply ev_isTup | apply ev_isStr | apply ec_whole | apply eca_counts | apply eca_levels | exact ⟨rfl, rfl⟩ | apply ev_min | apply ev_intc | apply ev_sumT | apply evt_B | apply evt_test | apply evt_not | apply evt_and | apply evt_or | apply ev_andV | apply ev_orV | apply ev_notV | apply ev_ite | intro _ | exact True.intro | rfl))
      | exact True.intro | exact ⟨rfl, rfl⟩ | exact Nat.le_of_ble_eq_true rfl | rfl))
    · simp [movesF, h, isNone]
  · apply nx_ifF
    · (repeat' (first
      | exact hix | exact hix2 | exact hix3 | exact hix4
      | ((with_reducible apply ev_var) <;> rfl)
      | (with_reducible exact ev_int) | (with_reducible exact ev_bl) | (with_reducible exact ev_str) | (with_reducible exact ev_non) | (with_reducible exact eva_nil) | (with_reducible exact evo_none)
      | (with_reducible (first | apply eva_cons | apply ev_tup | apply evo_some | apply x_add | apply e_sub | apply x_mul | apply ev_mod | apply ev_neg | apply e_div))
      | refine e_lenN (evm_var rfl) rfl ?_
      | (with_reducible (first | apply x_len | apply x_ix | apply x_sl | apply ev_isN | apply ev_notN | apply ev_eqD | apply ev_neD | apply e_lt | apply ev_le | apply ev_gt | apply ev_ge | apply ev_isInt | apply ev_isBool | apply ev_isTup | apply ev_isStr | apply ec_whole | apply eca_counts | apply eca_levels | exact ⟨rfl, rfl⟩ | apply ev_min | apply ev_intc | apply ev_sumT | apply evt_B | apply evt_test | apply evt_not | apply evt_and | apply evt_or | apply ev_andV | apply ev_orV | apply ev_notV | apply ev_ite | intro _ | exact True.intro | rfl))
      | exact True.intro | exact ⟨rfl, rfl⟩ | exact Nat.le_of_ble_eq_true rfl | rfl))
    · exact decide_eq_false h
    refine nx_nx ?_
    (try dsimp only [List.set, setAll])
    have hix := ixI (last_some hon)
    apply nx_ret2 (k := rt_of rfl hq)
    · (repeat' (first
      | exact hix | exact hix2 | exact hix3 | exact hix4
      | ((with_reducible apply ev_var) <;> rfl)
      | (with_reducible exact ev_int) | (with_reducible exact ev_bl) | (with_reducible exact ev_str) | (with_reducible exact ev_non) | (with_reducible exact eva_nil) | (with_reducible exact evo_none)
      | (with_reducible (first | apply eva_cons | apply ev_tup | apply evo_some | apply x_add | apply e_sub | apply x_mul | apply ev_mod | apply ev_neg | apply e_div))
      | refine e_lenN (evm_var rfl) rfl ?_
      | (with_reducible (first | apply x_len | apply x_ix | apply x_sl | apply ev_isN | apply ev_notN | apply ev_eqD | apply ev_neD | apply e_lt | apply ev_le | apply ev_gt | apply ev_ge | apply ev_isInt | apply ev_isBool | apply ev_isTup | apply ev_isStr | apply ec_whole | apply eca_counts | apply eca_levels | exact ⟨rfl, rfl⟩ | apply ev_min | apply ev_intc | apply ev_sumT | apply evt_B | apply evt_test | apply evt_not | apply evt_and | apply evt_or | apply ev_andV | apply ev_orV | apply ev_notV | apply ev_ite | intro _ | exact True.intro | rfl))
      | exact True.intro | exact ⟨rfl, rfl⟩ | exact Nat.le_of_ble_eq_true rfl | rfl))
    · by_cases h2 : seenF v s ≤ v.off <;> simp [movesF, h, h2]
abbrev Pm := Pt × Int × Int
def Pm.Ok (a : Pm) : Prop := Pt.Ok a.1
def agedD (s : S) (a b : Int) : PyData := .tuple [intsD (agedOn s a b), intsD (agedOff s b), .int (agedRdy s a b)]
abbrev sp_aged (P : Program) (w : World) (K : PySem.W.Frag) : Sp := ASp (α := Pm) P w K (fun a => [a.1.1.d, intsD a.1.2.on, intsD a.1.2.off, .int a.1.2.ready, .int a.2.1, .int a.2.2]) Pm.Ok fun a r => r = .dat (agedD a.1.2 a.2.1 a.2.2)
theorem agedOn_eq {s : S} {a b : Int} (h : s.on ≠ []) : (cutL ([PyData.int a] ++ s.on.map .int) none (some (-2)) ++ [PyData.int ((atI (a :: s.on) (-2)).getD 0 + (atI (a :: s.on) (-1)).getD 0 - b)]) = (agedOn s a b).map .int := by
  have e : cutL ((a :: s.on).map PyData.int) none (some (-2)) = ((a :: s.on).take (s.on.length - 1)).map .int := by
    rw [cutL_map, show (-2 : Int) = -((2 : Nat) : Int) from rfl, cutL_but _ 2 (by decide)]
    congr 2
  show cutL ((a :: s.on).map PyData.int) none (some (-2)) ++ _ = _
  rw [e]
  unfold agedOn
  rw [List.map_append]
  rfl
theorem agedOff_eq {s : S} {b : Int} : cutL ((b :: s.off).map PyData.int) none (some (-1)) = (agedOff s b).map .int := by
  rw [cutL_map, show (-1 : Int) = -((1 : Nat) : Int) from rfl, cutL_but _ 1 (by decide)]
  rfl
theorem ok_aged {f : Addr} {fd : FuncData} (T : Tx P K mg C1 C2 C3) (F : Fun K "aged" "aged" s_aged f fd) : FnG P w K mg base 1 f fd ["well", "running", "resting", "ready", "started", "stopped"] (sp_aged P w K) := by
  refine body_g F sc_aged (fun a => rfl) (fun cdv ar up z H Q E hgd hr => ⟨_, (pss_cons (ps_set (i := 6) sc_aged.nd rfl (by first | exact Or.inl rfl | exact Or.inr rfl) (pe_op (gAdd (P := P) (w := w) (K := K) ⟨rfl, rfl, rfl⟩) (pe_tup (pa_cons (pv 4) pa_nil)) (pv 1))) (pss_cons (ps_set (i := 6) sc_aged.nd rfl (by first | exact Or.inl rfl | exact Or.inr rfl) (pe_op (gAdd (P := P) (w := w) (K := K) ⟨rfl, rfl, rfl⟩) (pe_slice (gSl (P := P) (w := w) (K := K) ⟨rfl, rfl, rfl⟩) (pv 6) po_none (po_some (pe_un un_neg pe_int))) (pe_tup (pa_cons (pe_op op_sub (pe_op (gAdd (P := P) (w := w) (K := K) ⟨rfl, rfl, rfl⟩) (pe_ix (gIx (P := P) (w := w) (K := K) ⟨rfl, rfl, rfl⟩ (hu65 hr)) (pv 6) (pe_un un_neg pe_int) (fun _ _ => rfl)) (pe_ix (gIx (P := P) (w := w) (K := K) ⟨rfl, rfl, rfl⟩ (hu65 hr)) (pv 6) (pe_un un_neg pe_int) (fun _ _ => rfl))) (pv 5)) pa_nil)))) (pss_cons (ps_set (i := 7) sc_aged.nd rfl (by first | exact Or.inl rfl | exact Or.inr rfl) (pe_op (gAdd (P := P) (w := w) (K := K) ⟨rfl, rfl, rfl⟩) (pe_tup (pa_cons (pv 5) pa_nil)) (pv 2))) (pss_one (ps_ret (pe_tup (pa_cons (pv 6) (pa_cons (pe_slice (gSl (P := P) (w := w) (K := K) ⟨rfl, rfl, rfl⟩) (pv 7) po_none (po_some (pe_un un_neg pe_int))) (pa_cons (pe_ifExp (pt_cmpR op_isN (pv 3) pe_non (nomark _)) pe_non (pe_op (gAdd (P := P) (w := w) (K := K) ⟨rfl, rfl, rfl⟩) (pe_op op_sub (pv 3) (pv 4)) (pe_ix (gIx (P := P) (w := w) (K := K) ⟨rfl, rfl, rfl⟩ (hu65 hr)) (pv 7) (pe_un un_neg pe_int) (fun _ _ => rfl)))) pa_nil))))))))), fun v hv hq => ?_⟩)
  obtain ⟨⟨v, s⟩, a, b⟩ := v
  replace hq : RsOk P w K H Q E (.dat (agedD s a b)) := hq _ rfl
  obtain ⟨hv, hs⟩ : v.Ok ∧ s.Ok v := hv
  have hon := len_pos hs.on.1 hv.run.1
  have l1 : 1 ≤ s.on.length := List.length_pos_iff.mpr hon
  have l2 : s.on.length ≤ 3 := by have := hs.on.1; have := hv.run.2; omega
  have l3 : s.off.length ≤ 3 := by have := hs.off.1; have := hv.rest.2; omega
  show Nx _ [.dat v.d, .dat (intsD s.on), .dat (intsD s.off), .dat (.int s.ready), .dat (.int a), .dat (.int b), .any, .any] _ _
  (try dsimp only [List.set, setAll])
  refine nx_sq ?_
  apply nx_asg (d := intsD (a :: s.on))
  · (repeat' (first
      | exact hix | exact hix2 | exact hix3 | exact hix4
      | ((with_reducible apply ev_var) <;> rfl)
      | (with_reducible exact ev_int) | (with_reducible exact ev_bl) | (with_reducible exact ev_str) | (with_reducible exact ev_non) | (with_reducible exact eva_nil) | (with_reducible exact evo_none)
      | (with_reducible (first | apply eva_cons | apply ev_tup | apply evo_some | apply x_add | apply e_sub | apply x_mul | apply ev_mod | apply ev_neg | apply e_div))
      | refine e_lenN (evm_var rfl) rfl ?_
      | (with_reducible (first | apply x_len | apply x_ix | apply x_sl | apply ev_isN | apply ev_notN | apply ev_eqD | apply ev_neD | apply e_lt | apply ev_le | apply ev_gt | apply ev_ge | apply ev_isInt | apply ev_isBool | apply ev_isTup | apply ev_isStr | apply ec_whole | apply eca_counts | apply eca_levels | exact ⟨rfl, rfl⟩ | apply ev_min | apply ev_intc | apply ev_sumT | apply evt_B | apply evt_test | apply evt_not | apply evt_and | apply evt_or | apply ev_andV | apply ev_orV | apply ev_notV | apply ev_ite | intro _ | exact True.intro | rfl))
      | exact True.intro | exact ⟨rfl, rfl⟩ | exact Nat.le_of_ble_eq_true rfl | rfl))
    all_goals (show _ + _ ≤ (1000000 : Nat); simp; omega)
  (try dsimp only [List.set, setAll])
  refine nx_sq ?_
  apply nx_asg (d := intsD (agedOn s a b))
  · have hix := ixI (prev_some (l := a :: s.on) (by simp; omega))
    have hix2 := ixI (last_some (l := a :: s.on) (by simp))
    apply EV.to
    · (repeat' (first
      | exact hix | exact hix2 | exact hix3 | exact hix4
      | ((with_reducible apply ev_var) <;> rfl)
      | (with_reducible exact ev_int) | (with_reducible exact ev_bl) | (with_reducible exact ev_str) | (with_reducible exact ev_non) | (with_reducible exact eva_nil) | (with_reducible exact evo_none)
      | (with_reducible (first | apply eva_cons | apply ev_tup | apply evo_some | apply x_add | apply e_sub | apply x_mul | apply ev_mod | apply ev_neg | apply e_div))
      | refine e_lenN (evm_var rfl) rfl ?_
      | (with_reducible (first | apply x_len | apply x_ix | apply x_sl | apply ev_isN | apply ev_notN | apply ev_eqD | apply ev_neD | apply e_lt | apply ev_le | apply ev_gt | apply ev_ge | apply ev_isInt | apply ev_isBool | apply ev_isTup | apply ev_isStr | apply ec_whole | apply eca_counts | apply eca_levels | exact ⟨rfl, rfl⟩ | apply ev_min | apply ev_intc | apply ev_sumT | apply evt_B | apply evt_test | apply evt_not | apply evt_and | apply evt_or | apply ev_andV | apply ev_orV | apply ev_notV | apply ev_ite | intro _ | exact True.intro | rfl))
      | exact True.intro | exact ⟨rfl, rfl⟩ | exact Nat.le_of_ble_eq_true rfl | rfl))
      · show (cutL _ _ _).length + _ ≤ _
        rw [show (-2 : Int) = -((2 : Nat) : Int) from rfl, cutL_but _ 2 (by decide)]
        simp
        omega
    · exact congrArg PyData.tuple (agedOn_eq hon)
  (try dsimp only [List.set, setAll])
  refine nx_sq ?_
  apply nx_asg (d := intsD (b :: s.off))
  · (repeat' (first
      | exact hix | exact hix2 | exact hix3 | exact hix4
      | ((with_reducible apply ev_var) <;> rfl)
      | (with_reducible exact ev_int) | (with_reducible exact ev_bl) | (with_reducible exact ev_str) | (with_reducible exact ev_non) | (with_reducible exact eva_nil) | (with_reducible exact evo_none)
      | (with_reducible (first | apply eva_cons | apply ev_tup | apply evo_some | apply x_add | apply e_sub | apply x_mul | apply ev_mod | apply ev_neg | apply e_div))
      | refine e_lenN (evm_var rfl) rfl ?_
      | (with_reducible (first | apply x_len | apply x_ix | apply x_sl | apply ev_isN | apply ev_notN | apply ev_eqD | apply ev_neD | apply e_lt | apply ev_le | apply ev_gt | apply ev_ge | apply ev_isInt | apply ev_isBool | apply ev_isTup | apply ev_isStr | apply ec_whole | apply eca_counts | apply eca_levels | exact ⟨rfl, rfl⟩ | apply ev_min | apply ev_intc | apply ev_sumT | apply evt_B | apply evt_test | apply evt_not | apply evt_and | apply evt_or | apply ev_andV | apply ev_orV | apply ev_notV | apply ev_ite | intro _ | exact True.intro | rfl))
      | exact True.intro | exact ⟨rfl, rfl⟩ | exact Nat.le_of_ble_eq_true rfl | rfl))
    all_goals (show _ + _ ≤ (1000000 : Nat); simp; omega)
  (try dsimp only [List.set, setAll])
  have hix := ixI (last_some (l := b :: s.off) (by simp))
  apply nx_ret2 (k := rt_of rfl hq)
  · (repeat' (first
      | exact hix | exact hix2 | exact hix3 | exact hix4
      | ((with_reducible apply ev_var) <;> rfl)
      | (with_reducible exact ev_int) | (with_reducible exact ev_bl) | (with_reducible exact ev_str) | (with_reducible exact ev_non) | (with_reducible exact eva_nil) | (with_reducible exact evo_none)
      | (with_reducible (first | apply eva_cons | apply ev_tup | apply evo_some | apply x_add | apply e_sub | apply x_mul | apply ev_mod | apply ev_neg | apply e_div))
      | refine e_lenN (evm_var rfl) rfl ?_
      | (with_reducible (first | apply x_len | apply x_ix | apply x_sl | apply ev_isN | apply ev_notN | apply ev_eqD | apply ev_neD | apply e_lt | apply ev_le | apply ev_gt | apply ev_ge | apply ev_isInt | apply ev_isBool | apply ev_isTup | apply ev_isStr | apply ec_whole | apply eca_counts | apply eca_levels | exact ⟨rfl, rfl⟩ | apply ev_min | apply ev_intc | apply ev_sumT | apply evt_B | apply evt_test | apply evt_not | apply evt_and | apply evt_or | apply ev_andV | apply ev_orV | apply ev_notV | apply ev_ite | intro _ | exact True.intro | rfl))
      | exact True.intro | exact ⟨rfl, rfl⟩ | exact Nat.le_of_ble_eq_true rfl | rfl))
  · show PyData.tuple [_, PyData.tuple (cutL ((b :: s.off).map PyData.int) none (some (-1))), _] = agedD s a b
    rw [agedOff_eq]
    rfl
theorem eca_seen {C : Ct} {Γ : List SV} {Δ : Dl} {W : WX} {t0 t1 t2 : TE} {v : Wl} {s : S} (h : Pt.Ok (v, s)) (h0 : EV C Γ Δ t0 v.d) (h1 : EV C Γ Δ t1 (.int s.lev)) (h2 : EV C Γ Δ t2 (intsD s.past)) : EV C Γ Δ (tCallS (sp_seen_of C.P C.w C.K) (WE W) (tCons t0 (tCons t1 (tCons t2 tNil)))) (.int (seenF v s)) :=
  x_call (α := Pt) (v, s) (eva_cons h0 (eva_cons h1 (eva_cons h2 eva_nil))) h rfl
theorem lfree_map (l : List Int) : lfreeAll (l.map .int) = true := by
  induction l with
  | nil => rfl
  | cons x l ih => simp [lfreeAll, lfree, ih]
theorem lfree_ints (l : List Int) : lfree (intsD l) = true := lfree_map l
theorem lfree_S (s : S) : lfree s.d = true := by simp [S.d, S.l, lfree, lfreeAll, lfree_ints]
theorem lfree_out (o : Out) : lfree o.d = true := by cases o <;> first | rfl | exact lfree_S _
def busyF (s : S) (a : Int) : Int := s.on.sum + s.off.sum + a
abbrev Pi4 := Pt × Int × Int × Int
def Pi4.Ok (a : Pi4) : Prop := Pt.Ok a.1
def ledD (v : Wl) (s : S) (a b i : Int) : PyData := .tuple [(ledF v s a b i).d, .int (busyF s a)]
abbrev sp_led_to (P : Program) (w : World) (K : PySem.W.Frag) : Sp := ASp (α := Pi4) P w K (fun a => [a.1.1.d, a.1.2.d, .int a.2.1, .int a.2.2.1, .int a.2.2.2]) Pi4.Ok fun a r => r = .dat (ledD a.1.1 a.1.2 a.2.1 a.2.2.1 a.2.2.2)
theorem drop_eq (l : List Int) : cutL (l.map PyData.int) (some 1) none = (l.drop 1).map .int := by
  rw [cutL_map, show (1 : Int) = ((1 : Nat) : Int) from rfl, cutL_from]
theorem lfree_aged (s : S) (a b : Int) : lfree (agedD s a b) = true := by simp [agedD, lfree, lfreeAll, lfree_ints]
theorem ok_led_to {f : Addr} {fd : FuncData} (T : Tx P K mg C1 C2 C3) (F : Fun K "led_to" "led_to" s_led_to f fd) (c_aged : Cl P w K mg base 1 "aged" (sp_aged P w K)) : FnG P w K mg base 2 f fd ["well", "state", "started", "stopped", "inflow"] (sp_led_to P w K) := by
  refine body_g F sc_led_to (fun a => rfl) (fun cdv ar up z H Q E hgd hr => ⟨_, (pss_cons (ps_asg (gCl (P := P) (w := w) (K := K) ⟨rfl, rfl, rfl⟩ rfl rfl c_aged hr hgd (by rfl) takesF (pa_cons (pv 0) (pa_cons (pe_ix (gIx (P := P) (w := w) (K := K) ⟨rfl, rfl, rfl⟩ (hu65 hr)) (pv 1) pe_int (fun _ _ => rfl)) (pa_cons (pe_ix (gIx (P := P) (w := w) (K := K) ⟨rfl, rfl, rfl⟩ (hu65 hr)) (pv 1) pe_int (fun _ _ => rfl)) (pa_cons (pe_ix (gIx (P := P) (w := w) (K := K) ⟨rfl, rfl, rfl⟩ (hu65 hr)) (pv 1) pe_int (fun _ _ => rfl)) (pa_cons (pv 2) (pa_cons (pv 3) pa_nil))))))) (gTupT (n := 3) (P := P) (w := w) (K := K) ⟨rfl, rfl, rfl⟩ rfl (pgs_cons (pg_name (i := 5) sc_led_to.nd rfl (by first | exact Or.inl rfl | exact Or.inr rfl)) (pgs_cons (pg_name (i := 6) sc_led_to.nd rfl (by first | exact Or.inl rfl | exact Or.inr rfl)) (pgs_cons (pg_name (i := 7) sc_led_to.nd rfl (by first | exact Or.inl rfl | exact Or.inr rfl)) pgs_nil))) rfl rfl)) (pss_cons (ps_par (i := 8) (j := 9) rfl sc_led_to.nd rfl rfl (by decide) rfl rfl (pa_cons (pe_op op_sub (pe_op (gAdd (P := P) (w := w) (K := K) ⟨rfl, rfl, rfl⟩) (pe_ix (gIx (P := P) (w := w) (K := K) ⟨rfl, rfl, rfl⟩ (hu65 hr)) (pv 1) pe_int (fun _ _ => rfl)) (pv 4)) (pe_op (gMul (P := P) (w := w) (K := K) ⟨rfl, rfl, rfl⟩) (pe_ix (gIx (P := P) (w := w) (K := K) ⟨rfl, rfl, rfl⟩ (hu65 hr)) (pv 0) pe_int (fun _ _ => rfl)) (pe_callB (gSum (P := P) (w := w) (K := K) ⟨rfl, rfl, rfl⟩ rfl) (by rfl) T.b_sum boot_k_sum (pa_cons (pv 5) pa_nil)))) (pa_cons (pe_op (gAdd (P := P) (w := w) (K := K) ⟨rfl, rfl, rfl⟩) (pe_op (gAdd (P := P) (w := w) (K := K) ⟨rfl, rfl, rfl⟩) (pe_callB (gSum (P := P) (w := w) (K := K) ⟨rfl, rfl, rfl⟩ rfl) (by rfl) T.b_sum boot_k_sum (pa_cons (pe_ix (gIx (P := P) (w := w) (K := K) ⟨rfl, rfl, rfl⟩ (hu65 hr)) (pv 1) pe_int (fun _ _ => rfl)) pa_nil)) (pe_callB (gSum (P := P) (w := w) (K := K) ⟨rfl, rfl, rfl⟩ rfl) (by rfl) T.b_sum boot_k_sum (pa_cons (pe_ix (gIx (P := P) (w := w) (K := K) ⟨rfl, rfl, rfl⟩ (hu65 hr)) (pv 1) pe_int (fun _ _ => rfl)) pa_nil))) (pv 2)) pa_nil)) rfl) (pss_cons (ps_if (pt_cmpR op_gt (pv 8) (pe_ix (gIx (P := P) (w := w) (K := K) ⟨rfl, rfl, rfl⟩ (hu65 hr)) (pv 0) pe_int (fun _ _ => rfl)) (nomark _)) (pss_one (ps_ret (pe_tup (pa_cons (pe_k (by rfl) T.c_OVER_wells) (pa_cons (pv 9) pa_nil))))) pss_nil) (pss_cons (ps_if (pt_cmpR (gLt (P := P) (w := w) (K := K) ⟨rfl, rfl, rfl⟩ (hu65 hr)) (pv 8) pe_int (nomark _)) (pss_one (ps_ret (pe_tup (pa_cons (pe_k (by rfl) T.c_DRY) (pa_cons (pv 9) pa_nil))))) pss_nil) (pss_cons (ps_set (i := 10) sc_led_to.nd rfl (by first | exact Or.inl rfl | exact Or.inr rfl) (pe_ifExp (pt_cmpR op_gt (pe_ix (gIx (P := P) (w := w) (K := K) ⟨rfl, rfl, rfl⟩ (hu65 hr)) (pv 0) pe_int (fun _ _ => rfl)) pe_int (nomark _)) (pe_op (gAdd (P := P) (w := w) (K := K) ⟨rfl, rfl, rfl⟩) (pe_slice (gSl (P := P) (w := w) (K := K) ⟨rfl, rfl, rfl⟩) (pe_ix (gIx (P := P) (w := w) (K := K) ⟨rfl, rfl, rfl⟩ (hu65 hr)) (pv 1) pe_int (fun _ _ => rfl)) (po_some pe_int) po_none) (pe_tup (pa_cons (pe_ix (gIx (P := P) (w := w) (K := K) ⟨rfl, rfl, rfl⟩ (hu65 hr)) (pv 1) pe_int (fun _ _ => rfl)) pa_nil))) (pe_tup pa_nil))) (pss_one (ps_ret (pe_tup (pa_cons (pe_tup (pa_cons (pv 8) (pa_cons (pv 10) (pa_cons (pv 5) (pa_cons (pv 6) (pa_cons (pv 7) pa_nil)))))) (pa_cons (pv 9) pa_nil)))))))))), fun v hv hq => ?_⟩)
  obtain ⟨⟨v, s⟩, a, b, i⟩ := v
  replace hq : RsOk P w K H Q E (.dat (ledD v s a b i)) := hq _ rfl
  have hv0 := hv
  obtain ⟨hv, hs⟩ : v.Ok ∧ s.Ok v := hv
  have hd := cmul_small (i := v.drain) (j := (agedOn s a b).sum) hv.drain
  show Nx _ [.dat v.d, .dat s.d, .dat (.int a), .dat (.int b), .dat (.int i), .any, .any, .any, .any, .any, .any] _ _
  (try dsimp only [List.set, setAll])
  refine nx_sq ?_
  refine nx_unpack (js := [5, 6, 7]) (ds := [intsD (agedOn s a b), intsD (agedOff s b), .int (agedRdy s a b)]) ?_ rfl rfl ?_
  · refine x_call (α := Pm) ((v, s), a, b) ?_ hv0 (lfree_aged s a b)
    (repeat' (first
      | exact hix | exact hix2 | exact hix3 | exact hix4
      | ((with_reducible apply ev_var) <;> rfl)
      | (with_reducible exact ev_int) | (with_reducible exact ev_bl) | (with_reducible exact ev_str) | (with_reducible exact ev_non) | (with_reducible exact eva_nil) | (with_reducible exact evo_none)
      | (with_reducible (first | apply eva_cons | apply ev_tup | apply evo_some | apply x_add | apply e_sub | apply x_mul | apply ev_mod | apply ev_neg | apply e_div))
      | refine e_lenN (evm_var rfl) rfl ?_
      | (with_reducible (first | apply x_len | apply x_ix | apply x_sl | apply ev_isN | apply ev_notN | apply ev_eqD | apply ev_neD | apply e_lt | apply ev_le | apply ev_gt | apply ev_ge | apply ev_isInt | apply ev_isBool | apply ev_isTup | apply ev_isStr | apply ec_whole | apply eca_counts | apply eca_levels | exact ⟨rfl, rfl⟩ | apply ev_min | apply ev_intc | apply ev_sumT | apply evt_B | apply evt_test | apply evt_not | apply evt_and | apply evt_or | apply ev_andV | apply ev_orV | apply ev_notV | apply ev_ite | intro _ | exact True.intro | rfl))
      | exact True.intro | exact ⟨rfl, rfl⟩ | exact Nat.le_of_ble_eq_true rfl | rfl))
  (try dsimp only [List.set, setAll])
  refine nx_sq ?_
  apply nx_par (da := .int (s.lev + i - v.drain * (agedOn s a b).sum)) (db := .int (busyF s a))
  · (repeat' (first
      | exact hix | exact hix2 | exact hix3 | exact hix4
      | ((with_reducible apply ev_var) <;> rfl)
      | (with_reducible exact ev_int) | (with_reducible exact ev_bl) | (with_reducible exact ev_str) | (with_reducible exact ev_non) | (with_reducible exact eva_nil) | (with_reducible exact evo_none)
      | (with_reducible (first | apply eva_cons | apply ev_tup | apply evo_some | apply x_add | apply e_sub | apply x_mul | apply ev_mod | apply ev_neg | apply e_div))
      | refine e_lenN (evm_var rfl) rfl ?_
      | (with_reducible (first | apply x_len | apply x_ix | apply x_sl | apply ev_isN | apply ev_notN | apply ev_eqD | apply ev_neD | apply e_lt | apply ev_le | apply ev_gt | apply ev_ge | apply ev_isInt | apply ev_isBool | apply ev_isTup | apply ev_isStr | apply ec_whole | apply eca_counts | apply eca_levels | exact ⟨rfl, rfl⟩ | apply ev_min | apply ev_intc | apply ev_sumT | apply evt_B | apply evt_test | apply evt_not | apply evt_and | apply evt_or | apply ev_andV | apply ev_orV | apply ev_notV | apply ev_ite | intro _ | exact True.intro | rfl))
      | exact True.intro | exact ⟨rfl, rfl⟩ | exact Nat.le_of_ble_eq_true rfl | rfl))
    all_goals exact hd
  · (repeat' (first
      | exact hix | exact hix2 | exact hix3 | exact hix4
      | ((with_reducible apply ev_var) <;> rfl)
      | (with_reducible exact ev_int) | (with_reducible exact ev_bl) | (with_reducible exact ev_str) | (with_reducible exact ev_non) | (with_reducible exact eva_nil) | (with_reducible exact evo_none)
      | (with_reducible (first | apply eva_cons | apply ev_tup | apply evo_some | apply x_add | apply e_sub | apply x_mul | apply ev_mod | apply ev_neg | apply e_div))
      | refine e_lenN (evm_var rfl) rfl ?_
      | (with_reducible (first | apply x_len | apply x_ix | apply x_sl | apply ev_isN | apply ev_notN | apply ev_eqD | apply ev_neD | apply e_lt | apply ev_le | apply ev_gt | apply ev_ge | apply ev_isInt | apply ev_isBool | apply ev_isTup | apply ev_isStr | apply ec_whole | apply eca_counts | apply eca_levels | exact ⟨rfl, rfl⟩ | apply ev_min | apply ev_intc | apply ev_sumT | apply evt_B | apply evt_test | apply evt_not | apply evt_and | apply evt_or | apply ev_andV | apply ev_orV | apply ev_notV | apply ev_ite | intro _ | exact True.intro | rfl))
      | exact True.intro | exact ⟨rfl, rfl⟩ | exact Nat.le_of_ble_eq_true rfl | rfl))
  (try dsimp only [List.set, setAll])
  refine nx_sq ?_
  by_cases h1 : v.top < s.lev + i - v.drain * (agedOn s a b).sum
  · apply nx_ifT
    · (repeat' (first
      | exact hix | exact hix2 | exact hix3 | exact hix4
      | ((with_reducible apply ev_var) <;> rfl)
      | (with_reducible exact ev_int) | (with_reducible exact ev_bl) | (with_reducible exact ev_str) | (with_reducible exact ev_non) | (with_reducible exact eva_nil) | (with_reducible exact evo_none)
      | (with_reducible (first | apply eva_cons | apply ev_tup | apply evo_some | apply x_add | apply e_sub | apply x_mul | apply ev_mod | apply ev_neg | apply e_div))
      | refine e_lenN (evm_var rfl) rfl ?_
      | (with_reducible (first | apply x_len | apply x_ix | apply x_sl | apply ev_isN | apply ev_notN | apply ev_eqD | apply ev_neD | apply e_lt | apply ev_le | apply ev_gt | apply ev_ge | apply ev_isInt | apply ev_isBool | apply ev_isTup | apply ev_isStr | apply ec_whole | apply eca_counts | apply eca_levels | exact ⟨rfl, rfl⟩ | apply ev_min | apply ev_intc | apply ev_sumT | apply evt_B | apply evt_test | apply evt_not | apply evt_and | apply evt_or | apply ev_andV | apply ev_orV | apply ev_notV | apply ev_ite | intro _ | exact True.intro | rfl))
      | exact True.intro | exact ⟨rfl, rfl⟩ | exact Nat.le_of_ble_eq_true rfl | rfl))
    · exact decide_eq_true h1
    apply nx_ret2 (k := rt_of rfl hq)
    · (repeat' (first
      | exact hix | exact hix2 | exact hix3 | exact hix4
      | ((with_reducible apply ev_var) <;> rfl)
      | (with_reducible exact ev_int) | (with_reducible exact ev_bl) | (with_reducible exact ev_str) | (with_reducible exact ev_non) | (with_reducible exact eva_nil) | (with_reducible exact evo_none)
      | (with_reducible (first | apply eva_cons | apply ev_tup | apply evo_some | apply x_add | apply e_sub | apply x_mul | apply ev_mod | apply ev_neg | apply e_div))
      | refine e_lenN (evm_var rfl) rfl ?_
      | (with_reducible (first | apply x_len | apply x_ix | apply x_sl | apply ev_isN | apply ev_notN | apply ev_eqD | apply ev_neD | apply e_lt | apply ev_le | apply ev_gt | apply ev_ge | apply ev_isInt | apply ev_isBool | apply ev_isTup | apply ev_isStr | apply ec_whole | apply eca_counts | apply eca_levels | exact ⟨rfl, rfl⟩ | apply ev_min | apply ev_intc | apply ev_sumT | apply evt_B | apply evt_test | apply evt_not | apply evt_and | apply evt_or | apply ev_andV | apply ev_orV | apply ev_notV | apply ev_ite | intro _ | exact True.intro | rfl))
      | exact True.intro | exact ⟨rfl, rfl⟩ | exact Nat.le_of_ble_eq_true rfl | rfl))
    · simp [ledD, ledF, h1, Out.d]
  apply nx_ifF
  · (repeat' (first
      | exact hix | exact hix2 | exact hix3 | exact hix4
      | ((with_reducible apply ev_var) <;> rfl)
      | (with_reducible exact ev_int) | (with_reducible exact ev_bl) | (with_reducible exact ev_str) | (with_reducible exact ev_non) | (with_reducible exact eva_nil) | (with_reducible exact evo_none)
      | (with_reducible (first | apply eva_cons | apply ev_tup | apply evo_some | apply x_add | apply e_sub | apply x_mul | apply ev_mod | apply ev_neg | apply e_div))
      | refine e_lenN (evm_var rfl) rfl ?_
      | (with_reducible (first | apply x_len | apply x_ix | apply x_sl | apply ev_isN | apply ev_notN | apply ev_eqD | apply ev_neD | apply e_lt | apply ev_le | apply ev_gt | apply ev_ge | apply ev_isInt | apply ev_isBool | apply ev_isTup | apply ev_isStr | apply ec_whole | apply eca_counts | apply eca_levels | exact ⟨rfl, rfl⟩ | apply ev_min | apply ev_intc | apply ev_sumT | apply evt_B | apply evt_test | apply evt_not | apply evt_and | apply evt_or | apply ev_andV | apply ev_orV | apply ev_notV | apply ev_ite | intro _ | exact True.intro | rfl))
      | exact True.intro | exact ⟨rfl, rfl⟩ | exact Nat.le_of_ble_eq_true rfl | rfl))
  · exact decide_eq_false h1
  refine nx_nx ?_
  (try dsimp only [List.set, setAll])
  refine nx_sq ?_
  by_cases h2 : s.lev + i - v.drain * (agedOn s a b).sum < 0
  · apply nx_ifT
    · (repeat' (first
      | exact hix | exact hix2 | exact hix3 | exact hix4
      | ((with_reducible apply ev_var) <;> rfl)
      | (with_reducible exact ev_int) | (with_reducible exact ev_bl) | (with_reducible exact ev_str) | (with_reducible exact ev_non) | (with_reducible exact eva_nil) | (with_reducible exact evo_none)
      | (with_reducible (first | apply eva_cons | apply ev_tup | apply evo_some | apply x_add | apply e_sub | apply x_mul | apply ev_mod | apply ev_neg | apply e_div))
      | refine e_lenN (evm_var rfl) rfl ?_
      | (with_reducible (first | apply x_len | apply x_ix | apply x_sl | apply ev_isN | apply ev_notN | apply ev_eqD | apply ev_neD | apply e_lt | apply ev_le | apply ev_gt | apply ev_ge | apply ev_isInt | apply ev_isBool | apply ev_isTup | apply ev_isStr | apply ec_whole | apply eca_counts | apply eca_levels | exact ⟨rfl, rfl⟩ | apply ev_min | apply ev_intc | apply ev_sumT | apply evt_B | apply evt_test | apply evt_not | apply evt_and | apply evt_or | apply ev_andV | apply ev_orV | apply ev_notV | apply ev_ite | intro _ | exact True.intro | rfl))
      | exact True.intro | exact ⟨rfl, rfl⟩ | exact Nat.le_of_ble_eq_true rfl | rfl))
    · exact decide_eq_true h2
    apply nx_ret2 (k := rt_of rfl hq)
    · (repeat' (first
      | exact hix | exact hix2 | exact hix3 | exact hix4
      | ((with_reducible apply ev_var) <;> rfl)
      | (with_reducible exact ev_int) | (with_reducible exact ev_bl) | (with_reducible exact ev_str) | (with_reducible exact ev_non) | (with_reducible exact eva_nil) | (with_reducible exact evo_none)
      | (with_reducible (first | apply eva_cons | apply ev_tup | apply evo_some | apply x_add | apply e_sub | apply x_mul | apply ev_mod | apply ev_neg | apply e_div))
      | refine e_lenN (evm_var rfl) rfl ?_
      | (with_reducible (first | apply x_len | apply x_ix | apply x_sl | apply ev_isN | apply ev_notN | apply ev_eqD | apply ev_neD | apply e_lt | apply ev_le | apply ev_gt | apply ev_ge | apply ev_isInt | apply ev_isBool | apply ev_isTup | apply ev_isStr | apply ec_whole | apply eca_counts | apply eca_levels | exact ⟨rfl, rfl⟩ | apply ev_min | apply ev_intc | apply ev_sumT | apply evt_B | apply evt_test | apply evt_not | apply evt_and | apply evt_or | apply ev_andV | apply ev_orV | apply ev_notV | apply ev_ite | intro _ | exact True.intro | rfl))
      | exact True.intro | exact ⟨rfl, rfl⟩ | exact Nat.le_of_ble_eq_true rfl | rfl))
    · simp [ledD, ledF, h1, h2, Out.d]
  apply nx_ifF
  · (repeat' (first
      | exact hix | exact hix2 | exact hix3 | exact hix4
      | ((with_reducible apply ev_var) <;> rfl)
      | (with_reducible exact ev_int) | (with_reducible exact ev_bl) | (with_reducible exact ev_str) | (with_reducible exact ev_non) | (with_reducible exact eva_nil) | (with_reducible exact evo_none)
      | (with_reducible (first | apply eva_cons | apply ev_tup | apply evo_some | apply x_add | apply e_sub | apply x_mul | apply ev_mod | apply ev_neg | apply e_div))
      | refine e_lenN (evm_var rfl) rfl ?_
      | (with_reducible (first | apply x_len | apply x_ix | apply x_sl | apply ev_isN | apply ev_notN | apply ev_eqD | apply ev_neD | apply e_lt | apply ev_le | apply ev_gt | apply ev_ge | apply ev_isInt | apply ev_isBool | apply ev_isTup | apply ev_isStr | apply ec_whole | apply eca_counts | apply eca_levels | exact ⟨rfl, rfl⟩ | apply ev_min | apply ev_intc | apply ev_sumT | apply evt_B | apply evt_test | apply evt_not | apply evt_and | apply evt_or | apply ev_andV | apply ev_orV | apply ev_notV | apply ev_ite | intro _ | exact True.intro | rfl))
      | exact True.intro | exact ⟨rfl, rfl⟩ | exact Nat.le_of_ble_eq_true rfl | rfl))
  · exact decide_eq_false h2
  refine nx_nx ?_
  (try dsimp only [List.set, setAll])
  refine nx_sq ?_
  apply nx_asg (d := intsD (if 0 < v.lag then s.past.drop 1 ++ [s.lev] else []))
  · by_cases h : 0 < v.lag
    · apply ev_ifT
      · (repeat' (first
      | exact hix | exact hix2 | exact hix3 | exact hix4
      | ((with_reducible apply ev_var) <;> rfl)
      | (with_reducible exact ev_int) | (with_reducible exact ev_bl) | (with_reducible exact ev_str) | (with_reducible exact ev_non) | (with_reducible exact eva_nil) | (with_reducible exact evo_none)
      | (with_reducible (first | apply eva_cons | apply ev_tup | apply evo_some | apply x_add | apply e_sub | apply x_mul | apply ev_mod | apply ev_neg | apply e_div))
      | refine e_lenN (evm_var rfl) rfl ?_
      | (with_reducible (first | apply x_len | apply x_ix | apply x_sl | apply ev_isN | apply ev_notN | apply ev_eqD | apply ev_neD | apply e_lt | apply ev_le | apply ev_gt | apply ev_ge | apply ev_isInt | apply ev_isBool | apply ev_isTup | apply ev_isStr | apply ec_whole | apply eca_counts | apply eca_levels | exact ⟨rfl, rfl⟩ | apply ev_min | apply ev_intc | apply ev_sumT | apply evt_B | apply evt_test | apply evt_not | apply evt_and | apply evt_or | apply ev_andV | apply ev_orV | apply ev_notV | apply ev_ite | intro _ | exact True.intro | rfl))
      | exact True.intro | exact ⟨rfl, rfl⟩ | exact Nat.le_of_ble_eq_true rfl | rfl))
      · exact decide_eq_true h
      · rw [if_pos h]
        apply EV.to
        · (repeat' (first
      | exact hix | exact hix2 | exact hix3 | exact hix4
      | ((with_reducible apply ev_var) <;> rfl)
      | (with_reducible exact ev_int) | (with_reducible exact ev_bl) | (with_reducible exact ev_str) | (with_reducible exact ev_non) | (with_reducible exact eva_nil) | (with_reducible exact evo_none)
      | (with_reducible (first | apply eva_cons | apply ev_tup | apply evo_some | apply x_add | apply e_sub | apply x_mul | apply ev_mod | apply ev_neg | apply e_div))
      | refine e_lenN (evm_var rfl) rfl ?_
      | (with_reducible (first | apply x_len | apply x_ix | apply x_sl | apply ev_isN | apply ev_notN | apply ev_eqD | apply ev_neD | apply e_lt | apply ev_le | apply ev_gt | apply ev_ge | apply ev_isInt | apply ev_isBool | apply ev_isTup | apply ev_isStr | apply ec_whole | apply eca_counts | apply eca_levels | exact ⟨rfl, rfl⟩ | apply ev_min | apply ev_intc | apply ev_sumT | apply evt_B | apply evt_test | apply evt_not | apply evt_and | apply evt_or | apply ev_andV | apply ev_orV | apply ev_notV | apply ev_ite | intro _ | exact True.intro | rfl))
      | exact True.intro | exact ⟨rfl, rfl⟩ | exact Nat.le_of_ble_eq_true rfl | rfl))
          show (cutL _ _ _).length + _ ≤ _
          have := hs.past.1
          have := hv.lag
          rw [drop_eq]
          simp
          omega
        · rw [drop_eq]
          simp [intsD]
    · apply ev_ifF
      · (repeat' (first
      | exact hix | exact hix2 | exact hix3 | exact hix4
      | ((with_reducible apply ev_var) <;> rfl)
      | (with_reducible exact ev_int) | (with_reducible exact ev_bl) | (with_reducible exact ev_str) | (with_reducible exact ev_non) | (with_reducible exact eva_nil) | (with_reducible exact evo_none)
      | (with_reducible (first | apply eva_cons | apply ev_tup | apply evo_some | apply x_add | apply e_sub | apply x_mul | apply ev_mod | apply ev_neg | apply e_div))
      | refine e_lenN (evm_var rfl) rfl ?_
      | (with_reducible (first | apply x_len | apply x_ix | apply x_sl | apply ev_isN | apply ev_notN | apply ev_eqD | apply ev_neD | apply e_lt | apply ev_le | apply ev_gt | apply ev_ge | apply ev_isInt | apply ev_isBool | apply ev_isTup | apply ev_isStr | apply ec_whole | apply eca_counts | apply eca_levels | exact ⟨rfl, rfl⟩ | apply ev_min | apply ev_intc | apply ev_sumT | apply evt_B | apply evt_test | apply evt_not | apply evt_and | apply evt_or | apply ev_andV | apply ev_orV | apply ev_notV | apply ev_ite | intro _ | exact True.intro | rfl))
      | exact True.intro | exact ⟨rfl, rfl⟩ | exact Nat.le_of_ble_eq_true rfl | rfl))
      · exact decide_eq_false h
      · rw [if_neg h]
        show EV _ _ _ _ (.tuple [])
        (repeat' (first
      | exact hix | exact hix2 | exact hix3 | exact hix4
      | ((with_reducible apply ev_var) <;> rfl)
      | (with_reducible exact ev_int) | (with_reducible exact ev_bl) | (with_reducible exact ev_str) | (with_reducible exact ev_non) | (with_reducible exact eva_nil) | (with_reducible exact evo_none)
      | (with_reducible (first | apply eva_cons | apply ev_tup | apply evo_some | apply x_add | apply e_sub | apply x_mul | apply ev_mod | apply ev_neg | apply e_div))
      | refine e_lenN (evm_var rfl) rfl ?_
      | (with_reducible (first | apply x_len | apply x_ix | apply x_sl | apply ev_isN | apply ev_notN | apply ev_eqD | apply ev_neD | apply e_lt | apply ev_le | apply ev_gt | apply ev_ge | apply ev_isInt | apply ev_isBool | apply ev_isTup | apply ev_isStr | apply ec_whole | apply eca_counts | apply eca_levels | exact ⟨rfl, rfl⟩ | apply ev_min | apply ev_intc | apply ev_sumT | apply evt_B | apply evt_test | apply evt_not | apply evt_and | apply evt_or | apply ev_andV | apply ev_orV | apply ev_notV | apply ev_ite | intro _ | exact True.intro | rfl))
      | exact True.intro | exact ⟨rfl, rfl⟩ | exact Nat.le_of_ble_eq_true rfl | rfl))
  (try dsimp only [List.set, setAll])
  apply nx_ret2 (k := rt_of rfl hq)
  · (repeat' (first
      | exact hix | exact hix2 | exact hix3 | exact hix4
      | ((with_reducible apply ev_var) <;> rfl)
      | (with_reducible exact ev_int) | (with_reducible exact ev_bl) | (with_reducible exact ev_str) | (with_reducible exact ev_non) | (with_reducible exact eva_nil) | (with_reducible exact evo_none)
      | (with_reducible (first | apply eva_cons | apply ev_tup | apply evo_some | apply x_add | apply e_sub | apply x_mul | apply ev_mod | apply ev_neg | apply e_div))
      | refine e_lenN (evm_var rfl) rfl ?_
      | (with_reducible (first | apply x_len | apply x_ix | apply x_sl | apply ev_isN | apply ev_notN | apply ev_eqD | apply ev_neD | apply e_lt | apply ev_le | apply ev_gt | apply ev_ge | apply ev_isInt | apply ev_isBool | apply ev_isTup | apply ev_isStr | apply ec_whole | apply eca_counts | apply eca_levels | exact ⟨rfl, rfl⟩ | apply ev_min | apply ev_intc | apply ev_sumT | apply evt_B | apply evt_test | apply evt_not | apply evt_and | apply evt_or | apply ev_andV | apply ev_orV | apply ev_notV | apply ev_ite | intro _ | exact True.intro | rfl))
      | exact True.intro | exact ⟨rfl, rfl⟩ | exact Nat.le_of_ble_eq_true rfl | rfl))
  · simp only [ledD, ledF, if_neg h1, if_neg h2]
    rfl
abbrev Ps := Pt × Int
def Ps.Ok (a : Ps) : Prop := Pt.Ok a.1
abbrev sp_after_in (P : Program) (w : World) (K : PySem.W.Frag) : Sp := ASp (α := Ps) P w K (fun a => [a.1.1.d, a.1.2.d, .int a.2]) Ps.Ok fun a r => r = .dat (stepF a.1.1 a.1.2 a.2).d
theorem ok_after_in {f : Addr} {fd : FuncData} (T : Tx P K mg C1 C2 C3) (F : Fun K "after_in" "after_in" s_after_in f fd) (c_led_to : Cl P w K mg base 2 "led_to" (sp_led_to P w K)) (c_moves_of : Cl P w K mg base 2 "moves_of" (sp_moves_of P w K)) : FnG P w K mg base 3 f fd ["well", "state", "inflow"] (sp_after_in P w K) := by
  refine body_g F sc_after_in (fun a => rfl) (fun cdv ar up z H Q E hgd hr => ⟨_, (pss_cons (ps_asg (gCl (P := P) (w := w) (K := K) ⟨rfl, rfl, rfl⟩ rfl rfl c_moves_of hr hgd (by rfl) takesF (pa_cons (pv 0) (pa_cons (pv 1) pa_nil))) (gTupT (n := 2) (P := P) (w := w) (K := K) ⟨rfl, rfl, rfl⟩ rfl (pgs_cons (pg_name (i := 3) sc_after_in.nd rfl (by first | exact Or.inl rfl | exact Or.inr rfl)) (pgs_cons (pg_name (i := 4) sc_after_in.nd rfl (by first | exact Or.inl rfl | exact Or.inr rfl)) pgs_nil)) rfl rfl)) (pss_one (ps_ret (pe_ix (gIx (P := P) (w := w) (K := K) ⟨rfl, rfl, rfl⟩ (hu65 hr)) (gCl (P := P) (w := w) (K := K) ⟨rfl, rfl, rfl⟩ rfl rfl c_led_to hr hgd (by rfl) takesF (pa_cons (pv 0) (pa_cons (pv 1) (pa_cons (pv 3) (pa_cons (pv 4) (pa_cons (pv 2) pa_nil)))))) pe_int (fun _ _ => rfl))))), fun v hv hq => ?_⟩)
  obtain ⟨⟨v, s⟩, i⟩ := v
  replace hq : RsOk P w K H Q E (.dat (stepF v s i).d) := hq _ rfl
  show Nx _ [.dat v.d, .dat s.d, .dat (.int i), .any, .any] _ _
  (try dsimp only [List.set, setAll])
  refine nx_sq ?_
  refine nx_unpack (js := [3, 4]) (ds := [.int (movesF v s).1, .int (movesF v s).2]) ?_ rfl rfl ?_
  · refine x_call (α := Pt) (v, s) ?_ hv rfl
    (repeat' (first
      | exact hix | exact hix2 | exact hix3 | exact hix4
      | ((with_reducible apply ev_var) <;> rfl)
      | (with_reducible exact ev_int) | (with_reducible exact ev_bl) | (with_reducible exact ev_str) | (with_reducible exact ev_non) | (with_reducible exact eva_nil) | (with_reducible exact evo_none)
      | (with_reducible (first | apply eva_cons | apply ev_tup | apply evo_some | apply x_add | apply e_sub | apply x_mul | apply ev_mod | apply ev_neg | apply e_div))
      | refine e_lenN (evm_var rfl) rfl ?_
      | (with_reducible (first | apply x_len | apply x_ix | apply x_sl | apply ev_isN | apply ev_notN | apply ev_eqD | apply ev_neD | apply e_lt | apply ev_le | apply ev_gt | apply ev_ge | apply ev_isInt | apply ev_isBool | apply ev_isTup | apply ev_isStr | apply ec_whole | apply eca_counts | apply eca_levels | exact ⟨rfl, rfl⟩ | apply ev_min | apply ev_intc | apply ev_sumT | apply evt_B | apply evt_test | apply evt_not | apply evt_and | apply evt_or | apply ev_andV | apply ev_orV | apply ev_notV | apply ev_ite | intro _ | exact True.intro | rfl))
      | exact True.intro | exact ⟨rfl, rfl⟩ | exact Nat.le_of_ble_eq_true rfl | rfl))
  (try dsimp only [List.set, setAll])
  refine nx_ret (e_ix (ds := [(stepF v s i).d, .int (busyF s (movesF v s).1)]) (x_call (α := Pi4) ((v, s), (movesF v s).1, (movesF v s).2, i) ?_ hv (by simp [ledD, lfree, lfreeAll, lfree_out])) ev_int rfl) (rt_of rfl hq)
  (repeat' (first
      | exact hix | exact hix2 | exact hix3 | exact hix4
      | ((with_reducible apply ev_var) <;> rfl)
      | (with_reducible exact ev_int) | (with_reducible exact ev_bl) | (with_reducible exact ev_str) | (with_reducible exact ev_non) | (with_reducible exact eva_nil) | (with_reducible exact evo_none)
      | (with_reducible (first | apply eva_cons | apply ev_tup | apply evo_some | apply x_add | apply e_sub | apply x_mul | apply ev_mod | apply ev_neg | apply e_div))
      | refine e_lenN (evm_var rfl) rfl ?_
      | (with_reducible (first | apply x_len | apply x_ix | apply x_sl | apply ev_isN | apply ev_notN | apply ev_eqD | apply ev_neD | apply e_lt | apply ev_le | apply ev_gt | apply ev_ge | apply ev_isInt | apply ev_isBool | apply ev_isTup | apply ev_isStr | apply ec_whole | apply eca_counts | apply eca_levels | exact ⟨rfl, rfl⟩ | apply ev_min | apply ev_intc | apply ev_sumT | apply evt_B | apply evt_test | apply evt_not | apply evt_and | apply evt_or | apply ev_andV | apply ev_orV | apply ev_notV | apply ev_ite | intro _ | exact True.intro | rfl))
      | exact True.intro | exact ⟨rfl, rfl⟩ | exact Nat.le_of_ble_eq_true rfl | rfl))
end
end Kw

/-! text D6 -/
/-! _law_step -/
namespace Kw
open PySem PySem.Spec PyProof.Rows L2 PySem.Calls
abbrev s__law_step : Stmt := top 57
theorem sc__law_step : FnScope ["_law_well_here", "_law_state", "_law_inflow", "_law_level", "_law_past", "_law_on", "_law_off", "_law_ready", "_law_seen", "_law_begun_now", "_law_ended_now", "_law_row", "_law_rest", "_law_height", "_law_fresh_past"] ["_law_well_here", "_law_state", "_law_inflow"] (defScope s__law_step) := ⟨rfl, rfl, rfl, by decide +kernel, rfl, by decide +kernel, by decide +kernel⟩
section
variable {P : Program} {w : World} {K : PySem.W.Frag} {mg : Str → Option Value} {base : Heap} {C1 C2 C3 : Addr}
def begunF (v : Wl) (s : S) : Int := if v.on ≤ seenF v s then min v.starts s.ready else 0
def endedF (v : Wl) (s : S) : Int := if seenF v s ≤ v.off then (atI s.on (-1)).getD 0 else 0
theorem moves_eq {v : Wl} {s : S} (hv : v.Ok) : movesF v s = (begunF v s, endedF v s) := by
  have h := hv.off
  unfold movesF begunF endedF
  by_cases h1 : v.on ≤ seenF v s
  · rw [if_pos h1, if_pos h1, if_neg (by omega)]
  · rw [if_neg h1, if_neg h1]
abbrev sp_law_step (P : Program) (w : World) (K : PySem.W.Frag) : Sp := ASp (α := Ps) P w K (fun a => [a.1.1.d, a.1.2.d, .int a.2]) Ps.Ok fun a r => r = .dat (stepF a.1.1 a.1.2 a.2).d
theorem agedOnL_eq {s : S} {a b : Int} : (cutL ((a :: s.on).map PyData.int) none (some (-2)) ++ [PyData.int ((atI (a :: s.on) (-2)).getD 0 + (atI (a :: s.on) (-1)).getD 0 - b)]) = (agedOn s a b).map .int := by
  have e : cutL ((a :: s.on).map PyData.int) none (some (-2)) = ((a :: s.on).take (s.on.length - 1)).map .int := by
    rw [cutL_map, show (-2 : Int) = -((2 : Nat) : Int) from rfl, cutL_but _ 2 (by decide)]
    congr 2
  rw [e]
  unfold agedOn
  rw [List.map_append]
  rfl
theorem ok_law_step {f : Addr} {fd : FuncData} (T : Tx P K mg C1 C2 C3) (F : Fun K "_law_step" "_law_step" s__law_step f fd) : FnG P w K mg base 1 f fd ["_law_well_here", "_law_state", "_law_inflow"] (sp_law_step P w K) := by
  refine body_g F sc__law_step (fun a => rfl) (fun cdv ar up z H Q E hgd hr => ⟨_, (pss_cons (ps_asg (pv 1) (gTupT (n := 5) (P := P) (w := w) (K := K) ⟨rfl, rfl, rfl⟩ rfl (pgs_cons (pg_name (i := 3) sc__law_step.nd rfl (by first | exact Or.inl rfl | exact Or.inr rfl)) (pgs_cons (pg_name (i := 4) sc__law_step.nd rfl (by first | exact Or.inl rfl | exact Or.inr rfl)) (pgs_cons (pg_name (i := 5) sc__law_step.nd rfl (by first | exact Or.inl rfl | exact Or.inr rfl)) (pgs_cons (pg_name (i := 6) sc__law_step.nd rfl (by first | exact Or.inl rfl | exact Or.inr rfl)) (pgs_cons (pg_name (i := 7) sc__law_step.nd rfl (by first | exact Or.inl rfl | exact Or.inr rfl)) pgs_nil))))) rfl rfl)) (pss_cons (ps_set (i := 8) sc__law_step.nd rfl (by first | exact Or.inl rfl | exact Or.inr rfl) (pe_ifExp (pt_cmpR op_gt (pe_ix (gIx (P := P) (w := w) (K := K) ⟨rfl, rfl, rfl⟩ (hu65 hr)) (pv 0) pe_int (fun _ _ => rfl)) pe_int (nomark _)) (pe_ix (gIx (P := P) (w := w) (K := K) ⟨rfl, rfl, rfl⟩ (hu65 hr)) (pv 4) pe_int (fun _ _ => rfl)) (pv 3))) (pss_cons (ps_set (i := 8) sc__law_step.nd rfl (by first | exact Or.inl rfl | exact Or.inr rfl) (pe_op op_sub (pv 8) (pe_op op_mod (pe_callTy call_int1 (by rfl) T.b_int boot_k_int (pa_cons (pv 8) pa_nil)) (pe_ix (gIx (P := P) (w := w) (K := K) ⟨rfl, rfl, rfl⟩ (hu65 hr)) (pv 0) pe_int (fun _ _ => rfl))))) (pss_cons (ps_set (i := 9) sc__law_step.nd rfl (by first | exact Or.inl rfl | exact Or.inr rfl) (pe_ifExp (pt_cmpR op_ge (pv 8) (pe_ix (gIx (P := P) (w := w) (K := K) ⟨rfl, rfl, rfl⟩ (hu65 hr)) (pv 0) pe_int (fun _ _ => rfl)) (nomark _)) (pe_callB (call_min2 rfl) (by rfl) T.b_min boot_k_min (pa_cons (pe_ix (gIx (P := P) (w := w) (K := K) ⟨rfl, rfl, rfl⟩ (hu65 hr)) (pv 0) pe_int (fun _ _ => rfl)) (pa_cons (pv 7) pa_nil))) pe_int)) (pss_cons (ps_set (i := 10) sc__law_step.nd rfl (by first | exact Or.inl rfl | exact Or.inr rfl) (pe_ifExp (pt_cmpR op_le (pv 8) (pe_ix (gIx (P := P) (w := w) (K := K) ⟨rfl, rfl, rfl⟩ (hu65 hr)) (pv 0) pe_int (fun _ _ => rfl)) (nomark _)) (pe_ix (gIx (P := P) (w := w) (K := K) ⟨rfl, rfl, rfl⟩ (hu65 hr)) (pv 5) (pe_un un_neg pe_int) (fun _ _ => rfl)) pe_int)) (pss_cons (ps_par (i := 11) (j := 12) rfl sc__law_step.nd rfl rfl (by decide) rfl rfl (pa_cons (pe_op (gAdd (P := P) (w := w) (K := K) ⟨rfl, rfl, rfl⟩) (pe_lst (pa_cons (pv 9) pa_nil)) (pe_callTy (gLst (P := P) (w := w) (K := K) ⟨rfl, rfl, rfl⟩ rfl) (by rfl) T.b_list boot_k_list (pa_cons (pv 5) pa_nil))) (pa_cons (pe_op (gAdd (P := P) (w := w) (K := K) ⟨rfl, rfl, rfl⟩) (pe_lst (pa_cons (pv 10) pa_nil)) (pe_callTy (gLst (P := P) (w := w) (K := K) ⟨rfl, rfl, rfl⟩ rfl) (by rfl) T.b_list boot_k_list (pa_cons (pv 6) pa_nil))) pa_nil)) rfl) (pss_cons (ps_set (i := 11) sc__law_step.nd rfl (by first | exact Or.inl rfl | exact Or.inr rfl) (pe_op (gAdd (P := P) (w := w) (K := K) ⟨rfl, rfl, rfl⟩) (pe_slice (gSl (P := P) (w := w) (K := K) ⟨rfl, rfl, rfl⟩) (pv 11) po_none (po_some (pe_un un_neg pe_int))) (pe_lst (pa_cons (pe_op op_sub (pe_op (gAdd (P := P) (w := w) (K := K) ⟨rfl, rfl, rfl⟩) (pe_ix (gIx (P := P) (w := w) (K := K) ⟨rfl, rfl, rfl⟩ (hu65 hr)) (pv 11) (pe_un un_neg pe_int) (fun _ _ => rfl)) (pe_ix (gIx (P := P) (w := w) (K := K) ⟨rfl, rfl, rfl⟩ (hu65 hr)) (pv 11) (pe_un un_neg pe_int) (fun _ _ => rfl))) (pv 10)) pa_nil)))) (pss_cons (ps_set (i := 13) sc__law_step.nd rfl (by first | exact Or.inl rfl | exact Or.inr rfl) (pe_op op_sub (pe_op (gAdd (P := P) (w := w) (K := K) ⟨rfl, rfl, rfl⟩) (pv 3) (pv 2)) (pe_op (gMul (P := P) (w := w) (K := K) ⟨rfl, rfl, rfl⟩) (pe_ix (gIx (P := P) (w := w) (K := K) ⟨rfl, rfl, rfl⟩ (hu65 hr)) (pv 0) pe_int (fun _ _ => rfl)) (pe_callB (gSum (P := P) (w := w) (K := K) ⟨rfl, rfl, rfl⟩ rfl) (by rfl) T.b_sum boot_k_sum (pa_cons (pv 11) pa_nil))))) (pss_cons (ps_if (pt_cmpR op_gt (pv 13) (pe_ix (gIx (P := P) (w := w) (K := K) ⟨rfl, rfl, rfl⟩ (hu65 hr)) (pv 0) pe_int (fun _ _ => rfl)) (nomark _)) (pss_one (ps_ret pe_str)) pss_nil) (pss_cons (ps_if (pt_cmpR (gLt (P := P) (w := w) (K := K) ⟨rfl, rfl, rfl⟩ (hu65 hr)) (pv 13) pe_int (nomark _)) (pss_one (ps_ret pe_str)) pss_nil) (pss_cons (ps_set (i := 14) sc__law_step.nd rfl (by first | exact Or.inl rfl | exact Or.inr rfl) (pe_ifExp (pt_cmpR op_gt (pe_ix (gIx (P := P) (w := w) (K := K) ⟨rfl, rfl, rfl⟩ (hu65 hr)) (pv 0) pe_int (fun _ _ => rfl)) pe_int (nomark _)) (pe_op (gAdd (P := P) (w := w) (K := K) ⟨rfl, rfl, rfl⟩) (pe_slice (gSl (P := P) (w := w) (K := K) ⟨rfl, rfl, rfl⟩) (pv 4) (po_some pe_int) po_none) (pe_tup (pa_cons (pv 3) pa_nil))) (pe_tup pa_nil))) (pss_one (ps_ret (pe_tup (pa_cons (pv 13) (pa_cons (pv 14) (pa_cons (pe_callTy (gTupO (P := P) (w := w) (K := K) ⟨rfl, rfl, rfl⟩) (by rfl) T.b_tuple boot_k_tuple (pa_cons (pv 11) pa_nil)) (pa_cons (pe_callTy (gTupO (P := P) (w := w) (K := K) ⟨rfl, rfl, rfl⟩) (by rfl) T.b_tuple boot_k_tuple (pa_cons (pe_slice (gSl (P := P) (w := w) (K := K) ⟨rfl, rfl, rfl⟩) (pv 12) po_none (po_some (pe_un un_neg pe_int))) pa_nil)) (pa_cons (pe_op (gAdd (P := P) (w := w) (K := K) ⟨rfl, rfl, rfl⟩) (pe_op op_sub (pv 7) (pv 9)) (pe_ix (gIx (P := P) (w := w) (K := K) ⟨rfl, rfl, rfl⟩ (hu65 hr)) (pv 12) (pe_un un_neg pe_int) (fun _ _ => rfl))) pa_nil))))))))))))))))))), fun v hv hq => ?_⟩)
  obtain ⟨⟨v, s⟩, i⟩ := v
  replace hq : RsOk P w K H Q E (.dat (stepF v s i).d) := hq _ rfl
  obtain ⟨hv, hs⟩ : v.Ok ∧ s.Ok v := hv
  have hon := len_pos hs.on.1 hv.run.1
  have l1 : 1 ≤ s.on.length := List.length_pos_iff.mpr hon
  have l2 : s.on.length ≤ 3 := by have := hs.on.1; have := hv.run.2; omega
  have l3 : s.off.length ≤ 3 := by have := hs.off.1; have := hv.rest.2; omega
  have hst := hv.step
  have em := moves_eq (s := s) hv
  generalize ea : begunF v s = a at em
  generalize eb : endedF v s = b at em
  have hd := cmul_small (i := v.drain) (j := (agedOn s a b).sum) hv.drain
  have eS : stepF v s i = ledF v s a b i := by unfold stepF; rw [em]
  rw [eS] at hq
  show Nx _ [.dat v.d, .dat s.d, .dat (.int i), .any, .any, .any, .any, .any, .any, .any, .any, .any, .any, .any, .any] _ _
  (try dsimp only [List.set, setAll])
  refine nx_sq ?_
  refine nx_unpack (js := [3, 4, 5, 6, 7]) (ds := [.int s.lev, intsD s.past, intsD s.on, intsD s.off, .int s.ready]) (ev_var rfl) rfl rfl ?_
  (try dsimp only [List.set, setAll])
  refine nx_sq ?_
  apply nx_asg (d := .int (baseSeen v s))
  · by_cases h : 0 < v.lag
    · apply ev_ifT
      · (repeat' (first
      | exact hix | exact hix2 | exact hix3 | exact hix4
      | ((with_reducible apply ev_var) <;> rfl)
      | (with_reducible exact ev_int) | (with_reducible exact ev_bl) | (with_reducible exact ev_str) | (with_reducible exact ev_non) | (with_reducible exact eva_nil) | (with_reducible exact evo_none)
      | (with_reducible (first | apply eva_cons | apply ev_tup | apply evo_some | apply x_add | apply e_sub | apply x_mul | apply ev_mod | apply ev_neg | apply e_div))
      | refine e_lenN (evm_var rfl) rfl ?_
      | (with_reducible (first | apply x_len | apply x_ix | apply x_sl | apply ev_isN | apply ev_notN | apply ev_eqD | apply ev_neD | apply e_lt | apply ev_le | apply ev_gt | apply ev_ge | apply ev_isInt | apply ev_isBool | apply ev_isTup | apply ev_isStr | apply ec_whole | apply eca_counts | apply eca_levels | exact ⟨rfl, rfl⟩ | apply ev_min | apply ev_intc | apply ev_sumT | apply evt_B | apply evt_test | apply evt_not | apply evt_and | apply evt_or | apply ev_andV | apply ev_orV | apply ev_notV | apply ev_ite | intro _ | exact True.intro | rfl))
      | exact True.intro | exact ⟨rfl, rfl⟩ | exact Nat.le_of_ble_eq_true rfl | rfl))
      · exact decide_eq_true h
      · obtain ⟨x, r, e⟩ := List.exists_cons_of_ne_nil (len_pos hs.past.1 (by omega))
        have eb : baseSeen v s = x := by simp [baseSeen, h, e]
        have hix : ixD (intsD s.past) (.int 0) = some (.int x) := by rw [e]; exact ixI (by rw [show (0 : Int) = ((0 : Nat) : Int) from rfl, atI_nat]; rfl)
        rw [eb]
        (repeat' (first
      | exact hix | exact hix2 | exact hix3 | exact hix4
      | ((with_reducible apply ev_var) <;> rfl)
      | (with_reducible exact ev_int) | (with_reducible exact ev_bl) | (with_reducible exact ev_str) | (with_reducible exact ev_non) | (with_reducible exact eva_nil) | (with_reducible exact evo_none)
      | (with_reducible (first | apply eva_cons | apply ev_tup | apply evo_some | apply x_add | apply e_sub | apply x_mul | apply ev_mod | apply ev_neg | apply e_div))
      | refine e_lenN (evm_var rfl) rfl ?_
      | (with_reducible (first | apply x_len | apply x_ix | apply x_sl | apply ev_isN | apply ev_notN | apply ev_eqD | apply ev_neD | apply e_lt | apply ev_le | apply ev_gt | apply ev_ge | apply ev_isInt | apply ev_isBool | apply ev_isTup | apply ev_isStr | apply ec_whole | apply eca_counts | apply eca_levels | exact ⟨rfl, rfl⟩ | apply ev_min | apply ev_intc | apply ev_sumT | apply evt_B | apply evt_test | apply evt_not | apply evt_and | apply evt_or | apply ev_andV | apply ev_orV | apply ev_notV | apply ev_ite | intro _ | exact True.intro | rfl))
      | exact True.intro | exact ⟨rfl, rfl⟩ | exact Nat.le_of_ble_eq_true rfl | rfl))
    · apply ev_ifF
      · (repeat' (first
      | exact hix | exact hix2 | exact hix3 | exact hix4
      | ((with_reducible apply ev_var) <;> rfl)
      | (with_reducible exact ev_int) | (with_reducible exact ev_bl) | (with_reducible exact ev_str) | (with_reducible exact ev_non) | (with_reducible exact eva_nil) | (with_reducible exact evo_none)
      | (with_reducible (first | apply eva_cons | apply ev_tup | apply evo_some | apply x_add | apply e_sub | apply x_mul | apply ev_mod | apply ev_neg | apply e_div))
      | refine e_lenN (evm_var rfl) rfl ?_
      | (with_reducible (first | apply x_len | apply x_ix | apply x_sl | apply ev_isN | apply ev_notN | apply ev_eqD | apply ev_neD | apply e_lt | apply ev_le | apply ev_gt | apply ev_ge | apply ev_isInt | apply ev_isBool | apply ev_isTup | apply ev_isStr | apply ec_whole | apply eca_counts | apply eca_levels | exact ⟨rfl, rfl⟩ | apply ev_min | apply ev_intc | apply ev_sumT | apply evt_B | apply evt_test | apply evt_not | apply evt_and | apply evt_or | apply ev_andV | apply ev_orV | apply ev_notV | apply ev_ite | intro _ | exact True.intro | rfl))
      | exact True.intro | exact ⟨rfl, rfl⟩ | exact Nat.le_of_ble_eq_true rfl | rfl))
      · exact decide_eq_false h
      · have eb : baseSeen v s = s.lev := by simp [baseSeen, h]
        rw [eb]
        (repeat' (first
      | exact hix | exact hix2 | exact hix3 | exact hix4
      | ((with_reducible apply ev_var) <;> rfl)
      | (with_reducible exact ev_int) | (with_reducible exact ev_bl) | (with_reducible exact ev_str) | (with_reducible exact ev_non) | (with_reducible exact eva_nil) | (with_reducible exact evo_none)
      | (with_reducible (first | apply eva_cons | apply ev_tup | apply evo_some | apply x_add | apply e_sub | apply x_mul | apply ev_mod | apply ev_neg | apply e_div))
      | refine e_lenN (evm_var rfl) rfl ?_
      | (with_reducible (first | apply x_len | apply x_ix | apply x_sl | apply ev_isN | apply ev_notN | apply ev_eqD | apply ev_neD | apply e_lt | apply ev_le | apply ev_gt | apply ev_ge | apply ev_isInt | apply ev_isBool | apply ev_isTup | apply ev_isStr | apply ec_whole | apply eca_counts | apply eca_levels | exact ⟨rfl, rfl⟩ | apply ev_min | apply ev_intc | apply ev_sumT | apply evt_B | apply evt_test | apply evt_not | apply evt_and | apply evt_or | apply ev_andV | apply ev_orV | apply ev_notV | apply ev_ite | intro _ | exact True.intro | rfl))
      | exact True.intro | exact ⟨rfl, rfl⟩ | exact Nat.le_of_ble_eq_true rfl | rfl))
  (try dsimp only [List.set, setAll])
  refine nx_sq ?_
  apply nx_asg (d := .int (seenF v s))
  · apply EV.to
    · (repeat' (first
      | exact hix | exact hix2 | exact hix3 | exact hix4
      | ((with_reducible apply ev_var) <;> rfl)
      | (with_reducible exact ev_int) | (with_reducible exact ev_bl) | (with_reducible exact ev_str) | (with_reducible exact ev_non) | (with_reducible exact eva_nil) | (with_reducible exact evo_none)
      | (with_reducible (first | apply eva_cons | apply ev_tup | apply evo_some | apply x_add | apply e_sub | apply x_mul | apply ev_mod | apply ev_neg | apply e_div))
      | refine e_lenN (evm_var rfl) rfl ?_
      | (with_reducible (first | apply x_len | apply x_ix | apply x_sl | apply ev_isN | apply ev_notN | apply ev_eqD | apply ev_neD | apply e_lt | apply ev_le | apply ev_gt | apply ev_ge | apply ev_isInt | apply ev_isBool | apply ev_isTup | apply ev_isStr | apply ec_whole | apply eca_counts | apply eca_levels | exact ⟨rfl, rfl⟩ | apply ev_min | apply ev_intc | apply ev_sumT | apply evt_B | apply evt_test | apply evt_not | apply evt_and | apply evt_or | apply ev_andV | apply ev_orV | apply ev_notV | apply ev_ite | intro _ | exact True.intro | rfl))
      | exact True.intro | exact ⟨rfl, rfl⟩ | exact Nat.le_of_ble_eq_true rfl | rfl))
      all_goals omega
    · rfl
  (try dsimp only [List.set, setAll])
  refine nx_sq ?_
  apply nx_asg (d := .int a)
  · apply EV.to
    · (repeat' (first
      | exact hix | exact hix2 | exact hix3 | exact hix4
      | ((with_reducible apply ev_var) <;> rfl)
      | (with_reducible exact ev_int) | (with_reducible exact ev_bl) | (with_reducible exact ev_str) | (with_reducible exact ev_non) | (with_reducible exact eva_nil) | (with_reducible exact evo_none)
      | (with_reducible (first | apply eva_cons | apply ev_tup | apply evo_some | apply x_add | apply e_sub | apply x_mul | apply ev_mod | apply ev_neg | apply e_div))
      | refine e_lenN (evm_var rfl) rfl ?_
      | (with_reducible (first | apply x_len | apply x_ix | apply x_sl | apply ev_isN | apply ev_notN | apply ev_eqD | apply ev_neD | apply e_lt | apply ev_le | apply ev_gt | apply ev_ge | apply ev_isInt | apply ev_isBool | apply ev_isTup | apply ev_isStr | apply ec_whole | apply eca_counts | apply eca_levels | exact ⟨rfl, rfl⟩ | apply ev_min | apply ev_intc | apply ev_sumT | apply evt_B | apply evt_test | apply evt_not | apply evt_and | apply evt_or | apply ev_andV | apply ev_orV | apply ev_notV | apply ev_ite | intro _ | exact True.intro | rfl))
      | exact True.intro | exact ⟨rfl, rfl⟩ | exact Nat.le_of_ble_eq_true rfl | rfl))
    · rw [← ea]
      unfold begunF
      by_cases h : v.on ≤ seenF v s <;> simp [h]
  (try dsimp only [List.set, setAll])
  refine nx_sq ?_
  have hix := ixI (last_some hon)
  apply nx_asg (d := .int b)
  · apply EV.to
    · (repeat' (first
      | exact hix | exact hix2 | exact hix3 | exact hix4
      | ((with_reducible apply ev_var) <;> rfl)
      | (with_reducible exact ev_int) | (with_reducible exact ev_bl) | (with_reducible exact ev_str) | (with_reducible exact ev_non) | (with_reducible exact eva_nil) | (with_reducible exact evo_none)
      | (with_reducible (first | apply eva_cons | apply ev_tup | apply evo_some | apply x_add | apply e_sub | apply x_mul | apply ev_mod | apply ev_neg | apply e_div))
      | refine e_lenN (evm_var rfl) rfl ?_
      | (with_reducible (first | apply x_len | apply x_ix | apply x_sl | apply ev_isN | apply ev_notN | apply ev_eqD | apply ev_neD | apply e_lt | apply ev_le | apply ev_gt | apply ev_ge | apply ev_isInt | apply ev_isBool | apply ev_isTup | apply ev_isStr | apply ec_whole | apply eca_counts | apply eca_levels | exact ⟨rfl, rfl⟩ | apply ev_min | apply ev_intc | apply ev_sumT | apply evt_B | apply evt_test | apply evt_not | apply evt_and | apply evt_or | apply ev_andV | apply ev_orV | apply ev_notV | apply ev_ite | intro _ | exact True.intro | rfl))
      | exact True.intro | exact ⟨rfl, rfl⟩ | exact Nat.le_of_ble_eq_true rfl | rfl))
    · rw [← eb]
      unfold endedF
      by_cases h : seenF v s ≤ v.off <;> simp [h]
  (try dsimp only [List.set, setAll])
  refine nx_sq ?_
  apply nx_par (da := .list ((a :: s.on).map .int)) (db := .list ((b :: s.off).map .int))
  · refine evl_ev (l_cat (ds := [.int a]) (es := s.on.map .int) (evl_lst ?_ (by simp)) (fun p => l_list (ev_var rfl)) (by simp; omega))
    (repeat' (first
      | exact hix | exact hix2 | exact hix3 | exact hix4
      | ((with_reducible apply ev_var) <;> rfl)
      | (with_reducible exact ev_int) | (with_reducible exact ev_bl) | (with_reducible exact ev_str) | (with_reducible exact ev_non) | (with_reducible exact eva_nil) | (with_reducible exact evo_none)
      | (with_reducible (first | apply eva_cons | apply ev_tup | apply evo_some | apply x_add | apply e_sub | apply x_mul | apply ev_mod | apply ev_neg | apply e_div))
      | refine e_lenN (evm_var rfl) rfl ?_
      | (with_reducible (first | apply x_len | apply x_ix | apply x_sl | apply ev_isN | apply ev_notN | apply ev_eqD | apply ev_neD | apply e_lt | apply ev_le | apply ev_gt | apply ev_ge | apply ev_isInt | apply ev_isBool | apply ev_isTup | apply ev_isStr | apply ec_whole | apply eca_counts | apply eca_levels | exact ⟨rfl, rfl⟩ | apply ev_min | apply ev_intc | apply ev_sumT | apply evt_B | apply evt_test | apply evt_not | apply evt_and | apply evt_or | apply ev_andV | apply ev_orV | apply ev_notV | apply ev_ite | intro _ | exact True.intro | rfl))
      | exact True.intro | exact ⟨rfl, rfl⟩ | exact Nat.le_of_ble_eq_true rfl | rfl))
  · refine evl_ev (l_cat (ds := [.int b]) (es := s.off.map .int) (evl_lst ?_ (by simp)) (fun p => l_list (ev_var rfl)) (by simp; omega))
    (repeat' (first
      | exact hix | exact hix2 | exact hix3 | exact hix4
      | ((with_reducible apply ev_var) <;> rfl)
      | (with_reducible exact ev_int) | (with_reducible exact ev_bl) | (with_reducible exact ev_str) | (with_reducible exact ev_non) | (with_reducible exact eva_nil) | (with_reducible exact evo_none)
      | (with_reducible (first | apply eva_cons | apply ev_tup | apply evo_some | apply x_add | apply e_sub | apply x_mul | apply ev_mod | apply ev_neg | apply e_div))
      | refine e_lenN (evm_var rfl) rfl ?_
      | (with_reducible (first | apply x_len | apply x_ix | apply x_sl | apply ev_isN | apply ev_notN | apply ev_eqD | apply ev_neD | apply e_lt | apply ev_le | apply ev_gt | apply ev_ge | apply ev_isInt | apply ev_isBool | apply ev_isTup | apply ev_isStr | apply ec_whole | apply eca_counts | apply eca_levels | exact ⟨rfl, rfl⟩ | apply ev_min | apply ev_intc | apply ev_sumT | apply evt_B | apply evt_test | apply evt_not | apply evt_and | apply evt_or | apply ev_andV | apply ev_orV | apply ev_notV | apply ev_ite | intro _ | exact True.intro | rfl))
      | exact True.intro | exact ⟨rfl, rfl⟩ | exact Nat.le_of_ble_eq_true rfl | rfl))
  (try dsimp only [List.set, setAll])
  refine nx_sq ?_
  clear hix
  have hix := ixIL (prev_some (l := a :: s.on) (by simp; omega))
  have hix2 := ixIL (last_some (l := a :: s.on) (by simp))
  apply nx_asg (d := .list ((agedOn s a b).map .int))
  · refine evl_ev (EVL.to (l_cat (es := [.int ((atI (a :: s.on) (-2)).getD 0 + (atI (a :: s.on) (-1)).getD 0 - b)]) (l_sl (ds := (a :: s.on).map .int) (lo := none) (hi := some (-2)) (ev_var rfl) evo_none ?_) (fun p => evl_lst ?_ (by simp)) ?_) agedOnL_eq)
    · (repeat' (first
      | exact hix | exact hix2 | exact hix3 | exact hix4
      | ((with_reducible apply ev_var) <;> rfl)
      | (with_reducible exact ev_int) | (with_reducible exact ev_bl) | (with_reducible exact ev_str) | (with_reducible exact ev_non) | (with_reducible exact eva_nil) | (with_reducible exact evo_none)
      | (with_reducible (first | apply eva_cons | apply ev_tup | apply evo_some | apply x_add | apply e_sub | apply x_mul | apply ev_mod | apply ev_neg | apply e_div))
      | refine e_lenN (evm_var rfl) rfl ?_
      | (with_reducible (first | apply x_len | apply x_ix | apply x_sl | apply ev_isN | apply ev_notN | apply ev_eqD | apply ev_neD | apply e_lt | apply ev_le | apply ev_gt | apply ev_ge | apply ev_isInt | apply ev_isBool | apply ev_isTup | apply ev_isStr | apply ec_whole | apply eca_counts | apply eca_levels | exact ⟨rfl, rfl⟩ | apply ev_min | apply ev_intc | apply ev_sumT | apply evt_B | apply evt_test | apply evt_not | apply evt_and | apply evt_or | apply ev_andV | apply ev_orV | apply ev_notV | apply ev_ite | intro _ | exact True.intro | rfl))
      | exact True.intro | exact ⟨rfl, rfl⟩ | exact Nat.le_of_ble_eq_true rfl | rfl))
    · (repeat' (first
      | exact hix | exact hix2 | exact hix3 | exact hix4
      | ((with_reducible apply ev_var) <;> rfl)
      | (with_reducible exact ev_int) | (with_reducible exact ev_bl) | (with_reducible exact ev_str) | (with_reducible exact ev_non) | (with_reducible exact eva_nil) | (with_reducible exact evo_none)
      | (with_reducible (first | apply eva_cons | apply ev_tup | apply evo_some | apply x_add | apply e_sub | apply x_mul | apply ev_mod | apply ev_neg | apply e_div))
      | refine e_lenN (evm_var rfl) rfl ?_
      | (with_reducible (first | apply x_len | apply x_ix | apply x_sl | apply ev_isN | apply ev_notN | apply ev_eqD | apply ev_neD | apply e_lt | apply ev_le | apply ev_gt | apply ev_ge | apply ev_isInt | apply ev_isBool | apply ev_isTup | apply ev_isStr | apply ec_whole | apply eca_counts | apply eca_levels | exact ⟨rfl, rfl⟩ | apply ev_min | apply ev_intc | apply ev_sumT | apply evt_B | apply evt_test | apply evt_not | apply evt_and | apply evt_or | apply ev_andV | apply ev_orV | apply ev_notV | apply ev_ite | intro _ | exact True.intro | rfl))
      | exact True.intro | exact ⟨rfl, rfl⟩ | exact Nat.le_of_ble_eq_true rfl | rfl))
    · rw [show (-2 : Int) = -((2 : Nat) : Int) from rfl, cutL_but _ 2 (by decide)]
      simp
      omega
  clear hix hix2
  (try dsimp only [List.set, setAll])
  refine nx_sq ?_
  apply nx_asg (d := .int (s.lev + i - v.drain * (agedOn s a b).sum))
  · refine e_sub (i := s.lev + i) (j := v.drain * (agedOn s a b).sum) ?_ (e_mul (i := v.drain) (j := (agedOn s a b).sum) ?_ (ev_sumL (ns := agedOn s a b) (ev_var rfl)) hd)
    · (repeat' (first
      | exact hix | exact hix2 | exact hix3 | exact hix4
      | ((with_reducible apply ev_var) <;> rfl)
      | (with_reducible exact ev_int) | (with_reducible exact ev_bl) | (with_reducible exact ev_str) | (with_reducible exact ev_non) | (with_reducible exact eva_nil) | (with_reducible exact evo_none)
      | (with_reducible (first | apply eva_cons | apply ev_tup | apply evo_some | apply x_add | apply e_sub | apply x_mul | apply ev_mod | apply ev_neg | apply e_div))
      | refine e_lenN (evm_var rfl) rfl ?_
      | (with_reducible (first | apply x_len | apply x_ix | apply x_sl | apply ev_isN | apply ev_notN | apply ev_eqD | apply ev_neD | apply e_lt | apply ev_le | apply ev_gt | apply ev_ge | apply ev_isInt | apply ev_isBool | apply ev_isTup | apply ev_isStr | apply ec_whole | apply eca_counts | apply eca_levels | exact ⟨rfl, rfl⟩ | apply ev_min | apply ev_intc | apply ev_sumT | apply evt_B | apply evt_test | apply evt_not | apply evt_and | apply evt_or | apply ev_andV | apply ev_orV | apply ev_notV | apply ev_ite | intro _ | exact True.intro | rfl))
      | exact True.intro | exact ⟨rfl, rfl⟩ | exact Nat.le_of_ble_eq_true rfl | rfl))
    · (repeat' (first
      | exact hix | exact hix2 | exact hix3 | exact hix4
      | ((with_reducible apply ev_var) <;> rfl)
      | (with_reducible exact ev_int) | (with_reducible exact ev_bl) | (with_reducible exact ev_str) | (with_reducible exact ev_non) | (with_reducible exact eva_nil) | (with_reducible exact evo_none)
      | (with_reducible (first | apply eva_cons | apply ev_tup | apply evo_some | apply x_add | apply e_sub | apply x_mul | apply ev_mod | apply ev_neg | apply e_div))
      | refine e_lenN (evm_var rfl) rfl ?_
      | (with_reducible (first | apply x_len | apply x_ix | apply x_sl | apply ev_isN | apply ev_notN | apply ev_eqD | apply ev_neD | apply e_lt | apply ev_le | apply ev_gt | apply ev_ge | apply ev_isInt | apply ev_isBool | apply ev_isTup | apply ev_isStr | apply ec_whole | apply eca_counts | apply eca_levels | exact ⟨rfl, rfl⟩ | apply ev_min | apply ev_intc | apply ev_sumT | apply evt_B | apply evt_test | apply evt_not | apply evt_and | apply evt_or | apply ev_andV | apply ev_orV | apply ev_notV | apply ev_ite | intro _ | exact True.intro | rfl))
      | exact True.intro | exact ⟨rfl, rfl⟩ | exact Nat.le_of_ble_eq_true rfl | rfl))
  (try dsimp only [List.set, setAll])
  refine nx_sq ?_
  by_cases h1 : v.top < s.lev + i - v.drain * (agedOn s a b).sum
  · apply nx_ifT
    · (repeat' (first
      | exact hix | exact hix2 | exact hix3 | exact hix4
      | ((with_reducible apply ev_var) <;> rfl)
      | (with_reducible exact ev_int) | (with_reducible exact ev_bl) | (with_reducible exact ev_str) | (with_reducible exact ev_non) | (with_reducible exact eva_nil) | (with_reducible exact evo_none)
      | (with_reducible (first | apply eva_cons | apply ev_tup | apply evo_some | apply x_add | apply e_sub | apply x_mul | apply ev_mod | apply ev_neg | apply e_div))
      | refine e_lenN (evm_var rfl) rfl ?_
      | (with_reducible (first | apply x_len | apply x_ix | apply x_sl | apply ev_isN | apply ev_notN | apply ev_eqD | apply ev_neD | apply e_lt | apply ev_le | apply ev_gt | apply ev_ge | apply ev_isInt | apply ev_isBool | apply ev_isTup | apply ev_isStr | apply ec_whole | apply eca_counts | apply eca_levels | exact ⟨rfl, rfl⟩ | apply ev_min | apply ev_intc | apply ev_sumT | apply evt_B | apply evt_test | apply evt_not | apply evt_and | apply evt_or | apply ev_andV | apply ev_orV | apply ev_notV | apply ev_ite | intro _ | exact True.intro | rfl))
      | exact True.intro | exact ⟨rfl, rfl⟩ | exact Nat.le_of_ble_eq_true rfl | rfl))
    · exact decide_eq_true h1
    apply nx_ret2 (k := rt_of rfl hq)
    · (repeat' (first
      | exact hix | exact hix2 | exact hix3 | exact hix4
      | ((with_reducible apply ev_var) <;> rfl)
      | (with_reducible exact ev_int) | (with_reducible exact ev_bl) | (with_reducible exact ev_str) | (with_reducible exact ev_non) | (with_reducible exact eva_nil) | (with_reducible exact evo_none)
      | (with_reducible (first | apply eva_cons | apply ev_tup | apply evo_some | apply x_add | apply e_sub | apply x_mul | apply ev_mod | apply ev_neg | apply e_div))
      | refine e_lenN (evm_var rfl) rfl ?_
      | (with_reducible (first | apply x_len | apply x_ix | apply x_sl | apply ev_isN | apply ev_notN | apply ev_eqD | apply ev_neD | apply e_lt | apply ev_le | apply ev_gt | apply ev_ge | apply ev_isInt | apply ev_isBool | apply ev_isTup | apply ev_isStr | apply ec_whole | apply eca_counts | apply eca_levels | exact ⟨rfl, rfl⟩ | apply ev_min | apply ev_intc | apply ev_sumT | apply evt_B | apply evt_test | apply evt_not | apply evt_and | apply evt_or | apply ev_andV | apply ev_orV | apply ev_notV | apply ev_ite | intro _ | exact True.intro | rfl))
      | exact True.intro | exact ⟨rfl, rfl⟩ | exact Nat.le_of_ble_eq_true rfl | rfl))
    · simp [ledF, h1, Out.d]
  apply nx_ifF
  · (repeat' (first
      | exact hix | exact hix2 | exact hix3 | exact hix4
      | ((with_reducible apply ev_var) <;> rfl)
      | (with_reducible exact ev_int) | (with_reducible exact ev_bl) | (with_reducible exact ev_str) | (with_reducible exact ev_non) | (with_reducible exact eva_nil) | (with_reducible exact evo_none)
      | (with_reducible (first | apply eva_cons | apply ev_tup | apply evo_some | apply x_add | apply e_sub | apply x_mul | apply ev_mod | apply ev_neg | apply e_div))
      | refine e_lenN (evm_var rfl) rfl ?_
      | (with_reducible (first | apply x_len | apply x_ix | apply x_sl | apply ev_isN | apply ev_notN | apply ev_eqD | apply ev_neD | apply e_lt | apply ev_le | apply ev_gt | apply ev_ge | apply ev_isInt | apply ev_isBool | apply ev_isTup | apply ev_isStr | apply ec_whole | apply eca_counts | apply eca_levels | exact ⟨rfl, rfl⟩ | apply ev_min | apply ev_intc | apply ev_sumT | apply evt_B | apply evt_test | apply evt_not | apply evt_and | apply evt_or | apply ev_andV | apply ev_orV | apply ev_notV | apply ev_ite | intro _ | exact True.intro | rfl))
      | exact True.intro | exact ⟨rfl, rfl⟩ | exact Nat.le_of_ble_eq_true rfl | rfl))
  · exact decide_eq_false h1
  refine nx_nx ?_
  (try dsimp only [List.set, setAll])
  refine nx_sq ?_
  by_cases h2 : s.lev + i - v.drain * (agedOn s a b).sum < 0
  · apply nx_ifT
    · (repeat' (first
      | exact hix | exact hix2 | exact hix3 | exact hix4
      | ((with_reducible apply ev_var) <;> rfl)
      | (with_reducible exact ev_int) | (with_reducible exact ev_bl) | (with_reducible exact ev_str) | (with_reducible exact ev_non) | (with_reducible exact eva_nil) | (with_reducible exact evo_none)
      | (with_reducible (first | apply eva_cons | apply ev_tup | apply evo_some | apply x_add | apply e_sub | apply x_mul | apply ev_mod | apply ev_neg | apply e_div))
      | refine e_lenN (evm_var rfl) rfl ?_
      | (with_reducible (first | apply x_len | apply x_ix | apply x_sl | apply ev_isN | apply ev_notN | apply ev_eqD | apply ev_neD | apply e_lt | apply ev_le | apply ev_gt | apply ev_ge | apply ev_isInt | apply ev_isBool | apply ev_isTup | apply ev_isStr | apply ec_whole | apply eca_counts | apply eca_levels | exact ⟨rfl, rfl⟩ | apply ev_min | apply ev_intc | apply ev_sumT | apply evt_B | apply evt_test | apply evt_not | apply evt_and | apply evt_or | apply ev_andV | apply ev_orV | apply ev_notV | apply ev_ite | intro _ | exact True.intro | rfl))
      | exact True.intro | exact ⟨rfl, rfl⟩ | exact Nat.le_of_ble_eq_true rfl | rfl))
    · exact decide_eq_true h2
    apply nx_ret2 (k := rt_of rfl hq)
    · (repeat' (first
      | exact hix | exact hix2 | exact hix3 | exact hix4
      | ((with_reducible apply ev_var) <;> rfl)
      | (with_reducible exact ev_int) | (with_reducible exact ev_bl) | (with_reducible exact ev_str) | (with_reducible exact ev_non) | (with_reducible exact eva_nil) | (with_reducible exact evo_none)
      | (with_reducible (first | apply eva_cons | apply ev_tup | apply evo_some | apply x_add | apply e_sub | apply x_mul | apply ev_mod | apply ev_neg | apply e_div))
      | refine e_lenN (evm_var rfl) rfl ?_
      | (with_reducible (first | apply x_len | apply x_ix | apply x_sl | apply ev_isN | apply ev_notN | apply ev_eqD | apply ev_neD | apply e_lt | apply ev_le | apply ev_gt | apply ev_ge | apply ev_isInt | apply ev_isBool | apply ev_isTup | apply ev_isStr | apply ec_whole | apply eca_counts | apply eca_levels | exact ⟨rfl, rfl⟩ | apply ev_min | apply ev_intc | apply ev_sumT | apply evt_B | apply evt_test | apply evt_not | apply evt_and | apply evt_or | apply ev_andV | apply ev_orV | apply ev_notV | apply ev_ite | intro _ | exact True.intro | rfl))
      | exact True.intro | exact ⟨rfl, rfl⟩ | exact Nat.le_of_ble_eq_true rfl | rfl))
    · simp [ledF, h1, h2, Out.d]
  apply nx_ifF
  · (repeat' (first
      | exact hix | exact hix2 | exact hix3 | exact hix4
      | ((with_reducible apply ev_var) <;> rfl)
      | (with_reducible exact ev_int) | (with_reducible exact ev_bl) | (with_reducible exact ev_str) | (with_reducible exact ev_non) | (with_reducible exact eva_nil) | (with_reducible exact evo_none)
      | (with_reducible (first | apply eva_cons | apply ev_tup | apply evo_some | apply x_add | apply e_sub | apply x_mul | apply ev_mod | apply ev_neg | apply e_div))
      | refine e_lenN (evm_var rfl) rfl ?_
      | (with_reducible (first | apply x_len | apply x_ix | apply x_sl | apply ev_isN | apply ev_notN | apply ev_eqD | apply ev_neD | apply e_lt | apply ev_le | apply ev_gt | apply ev_ge | apply ev_isInt | apply ev_isBool | apply ev_isTup | apply ev_isStr | apply ec_whole | apply eca_counts | apply eca_levels | exact ⟨rfl, rfl⟩ | apply ev_min | apply ev_intc | apply ev_sumT | apply evt_B | apply evt_test | apply evt_not | apply evt_and | apply evt_or | apply ev_andV | apply ev_orV | apply ev_notV | apply ev_ite | intro _ | exact True.intro | rfl))
      | exact True.intro | exact ⟨rfl, rfl⟩ | exact Nat.le_of_ble_eq_true rfl | rfl))
  · exact decide_eq_false h2
  refine nx_nx ?_
  (try dsimp only [List.set, setAll])
  refine nx_sq ?_
  apply nx_asg (d := intsD (if 0 < v.lag then s.past.drop 1 ++ [s.lev] else []))
  · by_cases h : 0 < v.lag
    · apply ev_ifT
      · (repeat' (first
      | exact hix | exact hix2 | exact hix3 | exact hix4
      | ((with_reducible apply ev_var) <;> rfl)
      | (with_reducible exact ev_int) | (with_reducible exact ev_bl) | (with_reducible exact ev_str) | (with_reducible exact ev_non) | (with_reducible exact eva_nil) | (with_reducible exact evo_none)
      | (with_reducible (first | apply eva_cons | apply ev_tup | apply evo_some | apply x_add | apply e_sub | apply x_mul | apply ev_mod | apply ev_neg | apply e_div))
      | refine e_lenN (evm_var rfl) rfl ?_
      | (with_reducible (first | apply x_len | apply x_ix | apply x_sl | apply ev_isN | apply ev_notN | apply ev_eqD | apply ev_neD | apply e_lt | apply ev_le | apply ev_gt | apply ev_ge | apply ev_isInt | apply ev_isBool | apply ev_isTup | apply ev_isStr | apply ec_whole | apply eca_counts | apply eca_levels | exact ⟨rfl, rfl⟩ | apply ev_min | apply ev_intc | apply ev_sumT | apply evt_B | apply evt_test | apply evt_not | apply evt_and | apply evt_or | apply ev_andV | apply ev_orV | apply ev_notV | apply ev_ite | intro _ | exact True.intro | rfl))
      | exact True.intro | exact ⟨rfl, rfl⟩ | exact Nat.le_of_ble_eq_true rfl | rfl))
      · exact decide_eq_true h
      · rw [if_pos h]
        apply EV.to
        · (repeat' (first
      | exact hix | exact hix2 | exact hix3 | exact hix4
      | ((with_reducible apply ev_var) <;> rfl)
      | (with_reducible exact ev_int) | (with_reducible exact ev_bl) | (with_reducible exact ev_str) | (with_reducible exact ev_non) | (with_reducible exact eva_nil) | (with_reducible exact evo_none)
      | (with_reducible (first | apply eva_cons | apply ev_tup | apply evo_some | apply x_add | apply e_sub | apply x_mul | apply ev_mod | apply ev_neg | apply e_div))
      | refine e_lenN (evm_var rfl) rfl ?_
      | (with_reducible (first | apply x_len | apply x_ix | apply x_sl | apply ev_isN | apply ev_notN | apply ev_eqD | apply ev_neD | apply e_lt | apply ev_le | apply ev_gt | apply ev_ge | apply ev_isInt | apply ev_isBool | apply ev_isTup | apply ev_isStr | apply ec_whole | apply eca_counts | apply eca_levels | exact ⟨rfl, rfl⟩ | apply ev_min | apply ev_intc | apply ev_sumT | apply evt_B | apply evt_test | apply evt_not | apply evt_and | apply evt_or | apply ev_andV | apply ev_orV | apply ev_notV | apply ev_ite | intro _ | exact True.intro | rfl))
      | exact True.intro | exact ⟨rfl, rfl⟩ | exact Nat.le_of_ble_eq_true rfl | rfl))
          show (cutL _ _ _).length + _ ≤ _
          have := hs.past.1
          have := hv.lag
          rw [drop_eq]
          simp
          omega
        · rw [drop_eq]
          simp [intsD]
    · apply ev_ifF
      · (repeat' (first
      | exact hix | exact hix2 | exact hix3 | exact hix4
      | ((with_reducible apply ev_var) <;> rfl)
      | (with_reducible exact ev_int) | (with_reducible exact ev_bl) | (with_reducible exact ev_str) | (with_reducible exact ev_non) | (with_reducible exact eva_nil) | (with_reducible exact evo_none)
      | (with_reducible (first | apply eva_cons | apply ev_tup | apply evo_some | apply x_add | apply e_sub | apply x_mul | apply ev_mod | apply ev_neg | apply e_div))
      | refine e_lenN (evm_var rfl) rfl ?_
      | (with_reducible (first | apply x_len | apply x_ix | apply x_sl | apply ev_isN | apply ev_notN | apply ev_eqD | apply ev_neD | apply e_lt | apply ev_le | apply ev_gt | apply ev_ge | apply ev_isInt | apply ev_isBool | apply ev_isTup | apply ev_isStr | apply ec_whole | apply eca_counts | apply eca_levels | exact ⟨rfl, rfl⟩ | apply ev_min | apply ev_intc | apply ev_sumT | apply evt_B | apply evt_test | apply evt_not | apply evt_and | apply evt_or | apply ev_andV | apply ev_orV | apply ev_notV | apply ev_ite | intro _ | exact True.intro | rfl))
      | exact True.intro | exact ⟨rfl, rfl⟩ | exact Nat.le_of_ble_eq_true rfl | rfl))
      · exact decide_eq_false h
      · rw [if_neg h]
        show EV _ _ _ _ (.tuple [])
        (repeat' (first
      | exact hix | exact hix2 | exact hix3 | exact hix4
      | ((with_reducible apply ev_var) <;> rfl)
      | (with_reducible exact ev_int) | (with_reducible exact ev_bl) | (with_reducible exact ev_str) | (with_reducible exact ev_non) | (with_reducible exact eva_nil) | (with_reducible exact evo_none)
      | (with_reducible (first | apply eva_cons | apply ev_tup | apply evo_some | apply x_add | apply e_sub | apply x_mul | apply ev_mod | apply ev_neg | apply e_div))
      | refine e_lenN (evm_var rfl) rfl ?_
      | (with_reducible (first | apply x_len | apply x_ix | apply x_sl | apply ev_isN | apply ev_notN | apply ev_eqD | apply ev_neD | apply e_lt | apply ev_le | apply ev_gt | apply ev_ge | apply ev_isInt | apply ev_isBool | apply ev_isTup | apply ev_isStr | apply ec_whole | apply eca_counts | apply eca_levels | exact ⟨rfl, rfl⟩ | apply ev_min | apply ev_intc | apply ev_sumT | apply evt_B | apply evt_test | apply evt_not | apply evt_and | apply evt_or | apply ev_andV | apply ev_orV | apply ev_notV | apply ev_ite | intro _ | exact True.intro | rfl))
      | exact True.intro | exact ⟨rfl, rfl⟩ | exact Nat.le_of_ble_eq_true rfl | rfl))
  (try dsimp only [List.set, setAll])
  have hix := ixIL (last_some (l := b :: s.off) (by simp))
  refine nx_ret2 (ev_tup (ds := [.int (s.lev + i - v.drain * (agedOn s a b).sum), intsD (if 0 < v.lag then s.past.drop 1 ++ [s.lev] else []), intsD (agedOn s a b), intsD (agedOff s b), .int (agedRdy s a b)]) (eva_cons (ev_var rfl) (eva_cons (ev_var rfl) (eva_cons (ev_tupL (ev_var rfl)) (eva_cons ?_ (eva_cons ?_ eva_nil))))) (Nat.le_of_ble_eq_true rfl)) ?_ (rt_of rfl hq)
  · refine EV.to (ev_tupL (evl_ev (l_sl (ds := (b :: s.off).map .int) (lo := none) (hi := some (-1)) (ev_var rfl) evo_none ?_))) (congrArg PyData.tuple agedOff_eq)
    (repeat' (first
      | exact hix | exact hix2 | exact hix3 | exact hix4
      | ((with_reducible apply ev_var) <;> rfl)
      | (with_reducible exact ev_int) | (with_reducible exact ev_bl) | (with_reducible exact ev_str) | (with_reducible exact ev_non) | (with_reducible exact eva_nil) | (with_reducible exact evo_none)
      | (with_reducible (first | apply eva_cons | apply ev_tup | apply evo_some | apply x_add | apply e_sub | apply x_mul | apply ev_mod | apply ev_neg | apply e_div))
      | refine e_lenN (evm_var rfl) rfl ?_
      | (with_reducible (first | apply x_len | apply x_ix | apply x_sl | apply ev_isN | apply ev_notN | apply ev_eqD | apply ev_neD | apply e_lt | apply ev_le | apply ev_gt | apply ev_ge | apply ev_isInt | apply ev_isBool | apply ev_isTup | apply ev_isStr | apply ec_whole | apply eca_counts | apply eca_levels | exact ⟨rfl, rfl⟩ | apply ev_min | apply ev_intc | apply ev_sumT | apply evt_B | apply evt_test | apply evt_not | apply evt_and | apply evt_or | apply ev_andV | apply ev_orV | apply ev_notV | apply ev_ite | intro _ | exact True.intro | rfl))
      | exact True.intro | exact ⟨rfl, rfl⟩ | exact Nat.le_of_ble_eq_true rfl | rfl))
  · (repeat' (first
      | exact hix | exact hix2 | exact hix3 | exact hix4
      | ((with_reducible apply ev_var) <;> rfl)
      | (with_reducible exact ev_int) | (with_reducible exact ev_bl) | (with_reducible exact ev_str) | (with_reducible exact ev_non) | (with_reducible exact eva_nil) | (with_reducible exact evo_none)
      | (with_reducible (first | apply eva_cons | apply ev_tup | apply evo_some | apply x_add | apply e_sub | apply x_mul | apply ev_mod | apply ev_neg | apply e_div))
      | refine e_lenN (evm_var rfl) rfl ?_
      | (with_reducible (first | apply x_len | apply x_ix | apply x_sl | apply ev_isN | apply ev_notN | apply ev_eqD | apply ev_neD | apply e_lt | apply ev_le | apply ev_gt | apply ev_ge | apply ev_isInt | apply ev_isBool | apply ev_isTup | apply ev_isStr | apply ec_whole | apply eca_counts | apply eca_levels | exact ⟨rfl, rfl⟩ | apply ev_min | apply ev_intc | apply ev_sumT | apply evt_B | apply evt_test | apply evt_not | apply evt_and | apply evt_or | apply ev_andV | apply ev_orV | apply ev_notV | apply ev_ite | intro _ | exact True.intro | rfl))
      | exact True.intro | exact ⟨rfl, rfl⟩ | exact Nat.le_of_ble_eq_true rfl | rfl))
  · simp only [ledF, if_neg h1, if_neg h2]
    rfl
end
end Kw

/-! text D7 -/
/-! less_one, losses_of, _law_losses, _law_begun_state -/
namespace Kw
open PySem PySem.Spec PyProof.Rows L2 PySem.Calls
abbrev s_less_one : Stmt := top 40
theorem sc_less_one : FnScope ["counts", "place"] ["counts", "place"] (defScope s_less_one) := ⟨rfl, rfl, rfl, by decide +kernel, rfl, by decide +kernel, by decide +kernel⟩
abbrev s_losses_of : Stmt := top 41
theorem sc_losses_of : FnScope ["state", "level", "past", "running", "resting", "ready", "found", "place", "count"] ["state"] (defScope s_losses_of) := ⟨rfl, rfl, rfl, by decide +kernel, rfl, by decide +kernel, by decide +kernel⟩
abbrev s__law_losses : Stmt := top 58
theorem sc__law_losses : FnScope ["_law_state", "_law_level", "_law_past", "_law_on", "_law_off", "_law_ready", "_law_found", "_law_k"] ["_law_state"] (defScope s__law_losses) := ⟨rfl, rfl, rfl, by decide +kernel, rfl, by decide +kernel, by decide +kernel⟩
abbrev s__law_begun_state : Stmt := top 60
theorem sc__law_begun_state : FnScope ["_law_well_here", "_law_level", "_law_number"] ["_law_well_here", "_law_level", "_law_number"] (defScope s__law_begun_state) := ⟨rfl, rfl, rfl, by decide +kernel, rfl, by decide +kernel, by decide +kernel⟩
theorem lessOne_eq {l : List Int} {p : Nat} {x : Int} (h : l[p]? = some x) : cutL (l.map PyData.int) none (some (p : Int)) ++ [PyData.int (x - 1)] ++ cutL (l.map PyData.int) (some ((p : Int) + 1)) none = (lessOne l p).map .int := by
  rw [show (p : Int) + 1 = ((p + 1 : Nat) : Int) from rfl, cutL_to, cutL_from, ← List.map_take, ← List.map_drop]
  unfold lessOne
  rw [h]
  simp
theorem range_flat {β : Type} (f : Nat → List β) (i : Nat) : (List.range (i + 1)).flatMap f = (List.range i).flatMap f ++ f i := by
  rw [List.range_succ, List.flatMap_append]
  simp
theorem len_flat {β : Type} (f : Nat → List β) (h : ∀ i, (f i).length ≤ 1) : ∀ n, ((List.range n).flatMap f).length ≤ n
  | 0 => by simp
  | n + 1 => by
    rw [range_flat, List.length_append]
    have := len_flat f h n
    have := h n
    omega
theorem lossOn_len (s : S) (i : Nat) : (lossOn s i).length ≤ 1 := by unfold lossOn; split <;> simp
theorem lossOff_len (s : S) (i : Nat) : (lossOff s i).length ≤ 1 := by unfold lossOff; split <;> simp
theorem lfree_ls (x : Ls) (h : lfree x.1 = true) : lfree x.d = true := by
  show (lfree x.1 && (lfree x.2.d && true)) = true
  rw [h, lfree_S]
  rfl
theorem losses_free (s : S) : ∀ x ∈ losses s, lfree x.1 = true := by
  intro x hx
  simp only [losses, lossOn, lossOff, lossRdy, List.mem_append, List.mem_flatMap] at hx
  rcases hx with (⟨a, _, h⟩ | ⟨a, _, h⟩) | h
  · split at h <;> simp at h; subst h; rfl
  · split at h <;> simp at h; subst h; rfl
  · split at h <;> simp at h; subst h; rfl
theorem lfreeAll_mem : ∀ {l : List PyData}, (∀ d ∈ l, lfree d = true) → lfreeAll l = true
  | [], _ => rfl
  | d :: l, h => by simp [lfreeAll, h d List.mem_cons_self, lfreeAll_mem fun x hx => h x (List.mem_cons_of_mem _ hx)]
section
variable {P : Program} {w : World} {K : PySem.W.Frag} {mg : Str → Option Value} {base : Heap} {C1 C2 C3 : Addr}
abbrev sp_less_one (P : Program) (w : World) (K : PySem.W.Frag) : Sp := ASp (α := List Int × Nat) P w K (fun a => [intsD a.1, .int a.2]) (fun a => a.2 < a.1.length ∧ a.1.length ≤ 3) fun a r => r = .dat (intsD (lessOne a.1 a.2))
theorem ok_less_one {f : Addr} {fd : FuncData} (T : Tx P K mg C1 C2 C3) (F : Fun K "less_one" "less_one" s_less_one f fd) : FnG P w K mg base 1 f fd ["counts", "place"] (sp_less_one P w K) := by
  refine body_g F sc_less_one (fun a => rfl) (fun cdv ar up z H Q E hgd hr => ⟨_, (pss_one (ps_ret (pe_op (gAdd (P := P) (w := w) (K := K) ⟨rfl, rfl, rfl⟩) (pe_op (gAdd (P := P) (w := w) (K := K) ⟨rfl, rfl, rfl⟩) (pe_slice (gSl (P := P) (w := w) (K := K) ⟨rfl, rfl, rfl⟩) (pv 0) po_none (po_some (pv 1))) (pe_tup (pa_cons (pe_op op_sub (pe_ix (gIx (P := P) (w := w) (K := K) ⟨rfl, rfl, rfl⟩ (hu65 hr)) (pv 0) (pv 1) (fun _ _ => rfl)) pe_int) pa_nil))) (pe_slice (gSl (P := P) (w := w) (K := K) ⟨rfl, rfl, rfl⟩) (pv 0) (po_some (pe_op (gAdd (P := P) (w := w) (K := K) ⟨rfl, rfl, rfl⟩) (pv 1) pe_int)) po_none)))), fun v hv hq => ?_⟩)
  obtain ⟨l, p⟩ := v
  replace hq : RsOk P w K H Q E (.dat (intsD (lessOne l p))) := hq _ rfl
  obtain ⟨h1, h2⟩ : p < l.length ∧ l.length ≤ 3 := hv
  have e := List.getElem?_eq_getElem h1
  show Nx _ [.dat (intsD l), .dat (.int p)] _ _
  have hix : ixD (intsD l) (.int (p : Int)) = some (.int l[p]) := ixI (by rw [atI_nat, e])
  have a1 : (cutL (l.map PyData.int) none (some (p : Int))).length ≤ 3 := by rw [cutL_to]; simp; omega
  have a2 : (cutL (l.map PyData.int) (some ((p : Int) + 1)) none).length ≤ 3 := by rw [show (p : Int) + 1 = ((p + 1 : Nat) : Int) from rfl, cutL_from]; simp; omega
  apply nx_ret2 (k := rt_of rfl hq)
  · (repeat' (first
      | exact hix | exact hix2 | exact hix3 | exact hix4
      | ((with_reducible apply ev_var) <;> rfl)
      | (with_reducible exact ev_int) | (with_reducible exact ev_bl) | (with_reducible exact ev_str) | (with_reducible exact ev_non) | (with_reducible exact eva_nil) | (with_reducible exact evo_none)
      | (with_reducible (first | apply eva_cons | apply ev_tup | apply evo_some | apply x_add | apply e_sub | apply x_mul | apply ev_mod | apply ev_neg | apply e_div))
      | refine e_lenN (evm_var rfl) rfl ?_
      | (with_reducible (first | apply x_len | apply x_ix | apply x_sl | apply ev_isN | apply ev_notN | apply ev_eqD | apply ev_neD | apply e_lt | apply ev_le | apply ev_gt | apply ev_ge | apply ev_isInt | apply ev_isBool | apply ev_isTup | apply ev_isStr | apply ec_whole | apply eca_counts | apply eca_levels | exact ⟨rfl, rfl⟩ | apply ev_min | apply ev_intc | apply ev_sumT | apply evt_B | apply evt_test | apply evt_not | apply evt_and | apply evt_or | apply ev_andV | apply ev_orV | apply ev_notV | apply ev_ite | intro _ | exact True.intro | rfl))
      | exact True.intro | exact ⟨rfl, rfl⟩ | exact Nat.le_of_ble_eq_true rfl | rfl))
    · show (cutL (l.map PyData.int) none (some (p : Int))).length + 1 ≤ 1000000
      omega
    · show (cutL (l.map PyData.int) none (some (p : Int)) ++ [_]).length + (cutL (l.map PyData.int) (some ((p : Int) + 1)) none).length ≤ 1000000
      rw [List.length_append]
      simp only [List.length_cons, List.length_nil]
      omega
  · exact congrArg PyData.tuple (lessOne_eq e)
theorem eca_less {C : Ct} {Γ : List SV} {Δ : Dl} {W : WX} {t0 t1 : TE} {l : List Int} {p : Nat} (h0 : EV C Γ Δ t0 (intsD l)) (h1 : EV C Γ Δ t1 (.int p)) (o : p < l.length ∧ l.length ≤ 3) : EV C Γ Δ (tCallS (sp_less_one C.P C.w C.K) (WE W) (tCons t0 (tCons t1 tNil))) (intsD (lessOne l p)) :=
  x_call (α := List Int × Nat) (l, p) (eva_cons h0 (eva_cons h1 eva_nil)) o (lfree_ints _)
abbrev sp_losses (P : Program) (w : World) (K : PySem.W.Frag) : Sp := ASp (α := Pt) P w K (fun a => [a.2.d]) Pt.Ok fun a r => r = .lst ((losses a.2).map Ls.d)
theorem ok_losses_of {f : Addr} {fd : FuncData} (T : Tx P K mg C1 C2 C3) (F : Fun K "losses_of" "losses_of" s_losses_of f fd) (c_less_one : Cl P w K mg base 1 "less_one" (sp_less_one P w K)) : FnG P w K mg base 2 f fd ["state"] (sp_losses P w K) := by
  refine body_g F sc_losses_of (fun a => rfl) (fun cdv ar up z H Q E hgd hr => ⟨_, (pss_cons (ps_asg (pv 0) (gTupT (n := 5) (P := P) (w := w) (K := K) ⟨rfl, rfl, rfl⟩ rfl (pgs_cons (pg_name (i := 1) sc_losses_of.nd rfl (by first | exact Or.inl rfl | exact Or.inr rfl)) (pgs_cons (pg_name (i := 2) sc_losses_of.nd rfl (by first | exact Or.inl rfl | exact Or.inr rfl)) (pgs_cons (pg_name (i := 3) sc_losses_of.nd rfl (by first | exact Or.inl rfl | exact Or.inr rfl)) (pgs_cons (pg_name (i := 4) sc_losses_of.nd rfl (by first | exact Or.inl rfl | exact Or.inr rfl)) (pgs_cons (pg_name (i := 5) sc_losses_of.nd rfl (by first | exact Or.inl rfl | exact Or.inr rfl)) pgs_nil))))) rfl rfl)) (pss_cons (ps_set (i := 6) sc_losses_of.nd rfl (by first | exact Or.inl rfl | exact Or.inr rfl) (pe_lst pa_nil)) (pss_cons (ps_for (passes_of rfl) rfl (gEnum (P := P) (w := w) (K := K) ⟨rfl, rfl, rfl⟩ (by rfl) T.b_enumerate (pa_cons (pv 3) pa_nil)) (gTupT (n := 2) (P := P) (w := w) (K := K) ⟨rfl, rfl, rfl⟩ rfl (pgs_cons (pg_name (i := 7) sc_losses_of.nd rfl (by first | exact Or.inl rfl | exact Or.inr rfl)) (pgs_cons (pg_name (i := 8) sc_losses_of.nd rfl (by first | exact Or.inl rfl | exact Or.inr rfl)) pgs_nil)) rfl rfl) (pss_one (ps_if (pt_cmpR op_gt (pv 8) pe_int (nomark _)) (pss_one (ps_expr (pe_bm PySem.F.plainAttrs_list PySem.F.slot_list_append PySem.F.type_list_append mt_append (pv 6) (pa_cons (pe_tup (pa_cons (pe_tup (pa_cons pe_str (pa_cons (pe_op (gAdd (P := P) (w := w) (K := K) ⟨rfl, rfl, rfl⟩) (pv 7) pe_int) pa_nil))) (pa_cons (pe_tup (pa_cons (pv 1) (pa_cons (pv 2) (pa_cons (gCl (P := P) (w := w) (K := K) ⟨rfl, rfl, rfl⟩ rfl rfl c_less_one hr hgd (by rfl) takesF (pa_cons (pv 3) (pa_cons (pv 7) pa_nil))) (pa_cons (pv 4) (pa_cons (pv 5) pa_nil)))))) pa_nil))) pa_nil)))) pss_nil))) (pss_cons (ps_for (passes_of rfl) rfl (gEnum (P := P) (w := w) (K := K) ⟨rfl, rfl, rfl⟩ (by rfl) T.b_enumerate (pa_cons (pv 4) pa_nil)) (gTupT (n := 2) (P := P) (w := w) (K := K) ⟨rfl, rfl, rfl⟩ rfl (pgs_cons (pg_name (i := 7) sc_losses_of.nd rfl (by first | exact Or.inl rfl | exact Or.inr rfl)) (pgs_cons (pg_name (i := 8) sc_losses_of.nd rfl (by first | exact Or.inl rfl | exact Or.inr rfl)) pgs_nil)) rfl rfl) (pss_one (ps_if (pt_cmpR op_gt (pv 8) pe_int (nomark _)) (pss_one (ps_expr (pe_bm PySem.F.plainAttrs_list PySem.F.slot_list_append PySem.F.type_list_append mt_append (pv 6) (pa_cons (pe_tup (pa_cons (pe_tup (pa_cons pe_str (pa_cons (pe_op (gAdd (P := P) (w := w) (K := K) ⟨rfl, rfl, rfl⟩) (pv 7) pe_int) pa_nil))) (pa_cons (pe_tup (pa_cons (pv 1) (pa_cons (pv 2) (pa_cons (pv 3) (pa_cons (gCl (P := P) (w := w) (K := K) ⟨rfl, rfl, rfl⟩ rfl rfl c_less_one hr hgd (by rfl) takesF (pa_cons (pv 4) (pa_cons (pv 7) pa_nil))) (pa_cons (pv 5) pa_nil)))))) pa_nil))) pa_nil)))) pss_nil))) (pss_cons (ps_if (pt_cmpR op_gt (pv 5) pe_int (nomark _)) (pss_one (ps_expr (pe_bm PySem.F.plainAttrs_list PySem.F.slot_list_append PySem.F.type_list_append mt_append (pv 6) (pa_cons (pe_tup (pa_cons (pe_tup (pa_cons pe_str pa_nil)) (pa_cons (pe_tup (pa_cons (pv 1) (pa_cons (pv 2) (pa_cons (pv 3) (pa_cons (pv 4) (pa_cons (pe_op op_sub (pv 5) pe_int) pa_nil)))))) pa_nil))) pa_nil)))) pss_nil) (pss_one (ps_ret (pv 6)))))))), fun v hv hq => ?_⟩)
  obtain ⟨v, s⟩ := v
  replace hq : RsOk P w K H Q E (.lst ((losses s).map Ls.d)) := hq _ rfl
  obtain ⟨hv, hs⟩ : v.Ok ∧ s.Ok v := hv
  have l2 : s.on.length ≤ 3 := by have := hs.on.1; have := hv.run.2; omega
  have l3 : s.off.length ≤ 3 := by have := hs.off.1; have := hv.rest.2; omega
  show Nx _ [.dat s.d, .any, .any, .any, .any, .any, .any, .any, .any] _ _
  (try dsimp only [List.set, setAll])
  refine nx_sq ?_
  refine nx_unpack (js := [1, 2, 3, 4, 5]) (ds := [.int s.lev, intsD s.past, intsD s.on, intsD s.off, .int s.ready]) (ev_var rfl) rfl rfl ?_
  (try dsimp only [List.set, setAll])
  refine nx_sq ?_
  refine nx_asgL (evl_lst eva_nil (Nat.zero_le _)) fun p => ?_
  (try dsimp only [List.set, setAll])
  refine nx_sq ?_
  refine nx_for (wd_enumT (eva_cons (ev_var rfl) eva_nil)) (fun i Γ Δ => (∃ a b, Γ = [.dat s.d, .dat (.int s.lev), .dat (intsD s.past), .dat (intsD s.on), .dat (intsD s.off), .dat (.int s.ready), .loc p, a, b]) ∧ Δ = [(p, .ml (((List.range i).flatMap (lossOn s)).map Ls.d))]) ⟨⟨_, _, rfl⟩, rfl⟩ ?_ ?_
  · rintro hs' i d Γ Δ hd ⟨⟨a, b, rfl⟩, rfl⟩
    obtain ⟨e, he, rfl⟩ := enumD_at hd
    rw [List.getElem?_map] at he
    obtain ⟨x, hx, rfl⟩ := Option.map_eq_some_iff.mp he
    have hi := (List.getElem?_eq_some_iff.mp hx).1
    refine ⟨[7, 8], _, tg_tup rfl rfl, ?_⟩
    (try dsimp only [List.set, setAll])
    by_cases h : 0 < x
    · apply nx_ifT
      · (repeat' (first
      | exact hix | exact hix2 | exact hix3 | exact hix4
      | ((with_reducible apply ev_var) <;> rfl)
      | (with_reducible exact ev_int) | (with_reducible exact ev_bl) | (with_reducible exact ev_str) | (with_reducible exact ev_non) | (with_reducible exact eva_nil) | (with_reducible exact evo_none)
      | (with_reducible (first | apply eva_cons | apply ev_tup | apply evo_some | apply x_add | apply e_sub | apply x_mul | apply ev_mod | apply ev_neg | apply e_div))
      | refine e_lenN (evm_var rfl) rfl ?_
      | (with_reducible (first | apply x_len | apply x_ix | apply x_sl | apply ev_isN | apply ev_notN | apply ev_eqD | apply ev_neD | apply e_lt | apply ev_le | apply ev_gt | apply ev_ge | apply ev_isInt | apply ev_isBool | apply ev_isTup | apply ev_isStr | apply ec_whole | apply eca_counts | apply eca_levels | exact ⟨rfl, rfl⟩ | apply ev_min | apply ev_intc | apply ev_sumT | apply evt_B | apply evt_test | apply evt_not | apply evt_and | apply evt_or | apply ev_andV | apply ev_orV | apply ev_notV | apply ev_ite | intro _ | exact True.intro | rfl))
      | exact True.intro | exact ⟨rfl, rfl⟩ | exact Nat.le_of_ble_eq_true rfl | rfl))
      · exact decide_eq_true h
      refine nx_app (k := 0) (evm_var rfl) (d := Ls.d (thOn i, { s with on := lessOne s.on i })) ?_ rfl ?_ ?_
      · refine ev_tup (ds := [thOn i, S.d { s with on := lessOne s.on i }]) (eva_cons ?_ (eva_cons ?_ eva_nil)) (Nat.le_of_ble_eq_true rfl)
        · show EV _ _ _ _ (.tuple [.str "on", .int ((i : Int) + 1)])
          (repeat' (first
      | exact hix | exact hix2 | exact hix3 | exact hix4
      | ((with_reducible apply ev_var) <;> rfl)
      | (with_reducible exact ev_int) | (with_reducible exact ev_bl) | (with_reducible exact ev_str) | (with_reducible exact ev_non) | (with_reducible exact eva_nil) | (with_reducible exact evo_none)
      | (with_reducible (first | apply eva_cons | apply ev_tup | apply evo_some | apply x_add | apply e_sub | apply x_mul | apply ev_mod | apply ev_neg | apply e_div))
      | refine e_lenN (evm_var rfl) rfl ?_
      | (with_reducible (first | apply x_len | apply x_ix | apply x_sl | apply ev_isN | apply ev_notN | apply ev_eqD | apply ev_neD | apply e_lt | apply ev_le | apply ev_gt | apply ev_ge | apply ev_isInt | apply ev_isBool | apply ev_isTup | apply ev_isStr | apply ec_whole | apply eca_counts | apply eca_levels | exact ⟨rfl, rfl⟩ | apply ev_min | apply ev_intc | apply ev_sumT | apply evt_B | apply evt_test | apply evt_not | apply evt_and | apply evt_or | apply ev_andV | apply ev_orV | apply ev_notV | apply ev_ite | intro _ | exact True.intro | rfl))
      | exact True.intro | exact ⟨rfl, rfl⟩ | exact Nat.le_of_ble_eq_true rfl | rfl))
        · refine ev_tup (ds := [.int s.lev, intsD s.past, intsD (lessOne s.on i), intsD s.off, .int s.ready]) (eva_cons (ev_var rfl) (eva_cons (ev_var rfl) (eva_cons (eca_less (ev_var rfl) (ev_var rfl) ⟨hi, l2⟩) (eva_cons (ev_var rfl) (eva_cons (ev_var rfl) eva_nil))))) (Nat.le_of_ble_eq_true rfl)
      · have := len_flat (lossOn s) (lossOn_len s) i
        simp only [List.length_map]
        omega
      · show Nx _ _ ([(p, MO.ml (_ ++ [_]))] ++ hs') _
        refine nx_li ⟨⟨_, _, rfl⟩, ?_⟩
        rw [range_flat, List.map_append]
        simp [lossOn, hx, h]
    · apply nx_ifF
      · (repeat' (first
      | exact hix | exact hix2 | exact hix3 | exact hix4
      | ((with_reducible apply ev_var) <;> rfl)
      | (with_reducible exact ev_int) | (with_reducible exact ev_bl) | (with_reducible exact ev_str) | (with_reducible exact ev_non) | (with_reducible exact eva_nil) | (with_reducible exact evo_none)
      | (with_reducible (first | apply eva_cons | apply ev_tup | apply evo_some | apply x_add | apply e_sub | apply x_mul | apply ev_mod | apply ev_neg | apply e_div))
      | refine e_lenN (evm_var rfl) rfl ?_
      | (with_reducible (first | apply x_len | apply x_ix | apply x_sl | apply ev_isN | apply ev_notN | apply ev_eqD | apply ev_neD | apply e_lt | apply ev_le | apply ev_gt | apply ev_ge | apply ev_isInt | apply ev_isBool | apply ev_isTup | apply ev_isStr | apply ec_whole | apply eca_counts | apply eca_levels | exact ⟨rfl, rfl⟩ | apply ev_min | apply ev_intc | apply ev_sumT | apply evt_B | apply evt_test | apply evt_not | apply evt_and | apply evt_or | apply ev_andV | apply ev_orV | apply ev_notV | apply ev_ite | intro _ | exact True.intro | rfl))
      | exact True.intro | exact ⟨rfl, rfl⟩ | exact Nat.le_of_ble_eq_true rfl | rfl))
      · exact decide_eq_false h
      refine nx_nx ?_
      (try dsimp only [List.set, setAll])
      refine nx_li ⟨⟨_, _, rfl⟩, ?_⟩
      rw [range_flat, List.map_append]
      simp [lossOn, hx, h]
  rintro Γ Δ ⟨⟨a, b, rfl⟩, rfl⟩
  rw [enumD_len, List.length_map]
  (try dsimp only [List.set, setAll])
  refine nx_sq ?_
  refine nx_for (wd_enumT (eva_cons (ev_var rfl) eva_nil)) (fun i Γ Δ => (∃ a b, Γ = [.dat s.d, .dat (.int s.lev), .dat (intsD s.past), .dat (intsD s.on), .dat (intsD s.off), .dat (.int s.ready), .loc p, a, b]) ∧ Δ = [(p, .ml (((List.range s.on.length).flatMap (lossOn s)).map Ls.d ++ ((List.range i).flatMap (lossOff s)).map Ls.d))]) ⟨⟨_, _, rfl⟩, by simp⟩ ?_ ?_
  · rintro hs' i d Γ Δ hd ⟨⟨a, b, rfl⟩, rfl⟩
    obtain ⟨e, he, rfl⟩ := enumD_at hd
    rw [List.getElem?_map] at he
    obtain ⟨x, hx, rfl⟩ := Option.map_eq_some_iff.mp he
    have hi := (List.getElem?_eq_some_iff.mp hx).1
    refine ⟨[7, 8], _, tg_tup rfl rfl, ?_⟩
    (try dsimp only [List.set, setAll])
    by_cases h : 0 < x
    · apply nx_ifT
      · (repeat' (first
      | exact hix | exact hix2 | exact hix3 | exact hix4
      | ((with_reducible apply ev_var) <;> rfl)
      | (with_reducible exact ev_int) | (with_reducible exact ev_bl) | (with_reducible exact ev_str) | (with_reducible exact ev_non) | (with_reducible exact eva_nil) | (with_reducible exact evo_none)
      | (with_reducible (first | apply eva_cons | apply ev_tup | apply evo_some | apply x_add | apply e_sub | apply x_mul | apply ev_mod | apply ev_neg | apply e_div))
      | refine e_lenN (evm_var rfl) rfl ?_
      | (with_reducible (first | apply x_len | apply x_ix | apply x_sl | apply ev_isN | apply ev_notN | apply ev_eqD | apply ev_neD | apply e_lt | apply ev_le | apply ev_gt | apply ev_ge | apply ev_isInt | apply ev_isBool | apply ev_isTup | apply ev_isStr | apply ec_whole | apply eca_counts | apply eca_levels | exact ⟨rfl, rfl⟩ | apply ev_min | apply ev_intc | apply ev_sumT | apply evt_B | apply evt_test | apply evt_not | apply evt_and | apply evt_or | apply ev_andV | apply ev_orV | apply ev_notV | apply ev_ite | intro _ | exact True.intro | rfl))
      | exact True.intro | exact ⟨rfl, rfl⟩ | exact Nat.le_of_ble_eq_true rfl | rfl))
      · exact decide_eq_true h
      refine nx_app (k := 0) (evm_var rfl) (d := Ls.d (thRest i, { s with off := lessOne s.off i })) ?_ rfl ?_ ?_
      · refine ev_tup (ds := [thRest i, S.d { s with off := lessOne s.off i }]) (eva_cons ?_ (eva_cons ?_ eva_nil)) (Nat.le_of_ble_eq_true rfl)
        · show EV _ _ _ _ (.tuple [.str "rest", .int ((i : Int) + 1)])
          (repeat' (first
      | exact hix | exact hix2 | exact hix3 | exact hix4
      | ((with_reducible apply ev_var) <;> rfl)
      | (with_reducible exact ev_int) | (with_reducible exact ev_bl) | (with_reducible exact ev_str) | (with_reducible exact ev_non) | (with_reducible exact eva_nil) | (with_reducible exact evo_none)
      | (with_reducible (first | apply eva_cons | apply ev_tup | apply evo_some | apply x_add | apply e_sub | apply x_mul | apply ev_mod | apply ev_neg | apply e_div))
      | refine e_lenN (evm_var rfl) rfl ?_
      | (with_reducible (first | apply x_len | apply x_ix | apply x_sl | apply ev_isN | apply ev_notN | apply ev_eqD | apply ev_neD | apply e_lt | apply ev_le | apply ev_gt | apply ev_ge | apply ev_isInt | apply ev_isBool | apply ev_isTup | apply ev_isStr | apply ec_whole | apply eca_counts | apply eca_levels | exact ⟨rfl, rfl⟩ | apply ev_min | apply ev_intc | apply ev_sumT | apply evt_B | apply evt_test | apply evt_not | apply evt_and | apply evt_or | apply ev_andV | apply ev_orV | apply ev_notV | apply ev_ite | intro _ | exact True.intro | rfl))
      | exact True.intro | exact ⟨rfl, rfl⟩ | exact Nat.le_of_ble_eq_true rfl | rfl))
        · refine ev_tup (ds := [.int s.lev, intsD s.past, intsD s.on, intsD (lessOne s.off i), .int s.ready]) (eva_cons (ev_var rfl) (eva_cons (ev_var rfl) (eva_cons (ev_var rfl) (eva_cons (eca_less (ev_var rfl) (ev_var rfl) ⟨hi, l3⟩) (eva_cons (ev_var rfl) eva_nil))))) (Nat.le_of_ble_eq_true rfl)
      · have := len_flat (lossOn s) (lossOn_len s) s.on.length
        have := len_flat (lossOff s) (lossOff_len s) i
        simp only [List.length_map, List.length_append]
        omega
      · show Nx _ _ ([(p, MO.ml (_ ++ [_]))] ++ hs') _
        refine nx_li ⟨⟨_, _, rfl⟩, ?_⟩
        rw [range_flat, List.map_append]
        simp [lossOff, hx, h]
    · apply nx_ifF
      · (repeat' (first
      | exact hix | exact hix2 | exact hix3 | exact hix4
      | ((with_reducible apply ev_var) <;> rfl)
      | (with_reducible exact ev_int) | (with_reducible exact ev_bl) | (with_reducible exact ev_str) | (with_reducible exact ev_non) | (with_reducible exact eva_nil) | (with_reducible exact evo_none)
      | (with_reducible (first | apply eva_cons | apply ev_tup | apply evo_some | apply x_add | apply e_sub | apply x_mul | apply ev_mod | apply ev_neg | apply e_div))
      | refine e_lenN (evm_var rfl) rfl ?_
      | (with_reducible (first | apply x_len | apply x_ix | apply x_sl | apply ev_isN | apply ev_notN | apply ev_eqD | apply ev_neD | apply e_lt | apply ev_le | apply ev_gt | apply ev_ge | apply ev_isInt | apply ev_isBool | apply ev_isTup | apply ev_isStr | apply ec_whole | apply eca_counts | apply eca_levels | exact ⟨rfl, rfl⟩ | apply ev_min | apply ev_intc | apply ev_sumT | apply evt_B | apply evt_test | apply evt_not | apply evt_and | apply evt_or | apply ev_andV | apply ev_orV | apply ev_notV | apply ev_ite | intro _ | exact True.intro | rfl))
      | exact True.intro | exact ⟨rfl, rfl⟩ | exact Nat.le_of_ble_eq_true rfl | rfl))
      · exact decide_eq_false h
      refine nx_nx ?_
      (try dsimp only [List.set, setAll])
      refine nx_li ⟨⟨_, _, rfl⟩, ?_⟩
      rw [range_flat, List.map_append]
      simp [lossOff, hx, h]
  rintro Γ Δ ⟨⟨a, b, rfl⟩, rfl⟩
  rw [enumD_len, List.length_map]
  (try dsimp only [List.set, setAll])
  refine nx_sq ?_
  by_cases h : 0 < s.ready
  · apply nx_ifT
    · (repeat' (first
      | exact hix | exact hix2 | exact hix3 | exact hix4
      | ((with_reducible apply ev_var) <;> rfl)
      | (with_reducible exact ev_int) | (with_reducible exact ev_bl) | (with_reducible exact ev_str) | (with_reducible exact ev_non) | (with_reducible exact eva_nil) | (with_reducible exact evo_none)
      | (with_reducible (first | apply eva_cons | apply ev_tup | apply evo_some | apply x_add | apply e_sub | apply x_mul | apply ev_mod | apply ev_neg | apply e_div))
      | refine e_lenN (evm_var rfl) rfl ?_
      | (with_reducible (first | apply x_len | apply x_ix | apply x_sl | apply ev_isN | apply ev_notN | apply ev_eqD | apply ev_neD | apply e_lt | apply ev_le | apply ev_gt | apply ev_ge | apply ev_isInt | apply ev_isBool | apply ev_isTup | apply ev_isStr | apply ec_whole | apply eca_counts | apply eca_levels | exact ⟨rfl, rfl⟩ | apply ev_min | apply ev_intc | apply ev_sumT | apply evt_B | apply evt_test | apply evt_not | apply evt_and | apply evt_or | apply ev_andV | apply ev_orV | apply ev_notV | apply ev_ite | intro _ | exact True.intro | rfl))
      | exact True.intro | exact ⟨rfl, rfl⟩ | exact Nat.le_of_ble_eq_true rfl | rfl))
    · exact decide_eq_true h
    refine nx_app (k := 0) (evm_var rfl) (d := Ls.d (thReady, { s with ready := s.ready - 1 })) ?_ rfl ?_ ?_
    · refine ev_tup (ds := [thReady, S.d { s with ready := s.ready - 1 }]) (eva_cons ?_ (eva_cons ?_ eva_nil)) (Nat.le_of_ble_eq_true rfl)
      · show EV _ _ _ _ (.tuple [.str "ready"])
        (repeat' (first
      | exact hix | exact hix2 | exact hix3 | exact hix4
      | ((with_reducible apply ev_var) <;> rfl)
      | (with_reducible exact ev_int) | (with_reducible exact ev_bl) | (with_reducible exact ev_str) | (with_reducible exact ev_non) | (with_reducible exact eva_nil) | (with_reducible exact evo_none)
      | (with_reducible (first | apply eva_cons | apply ev_tup | apply evo_some | apply x_add | apply e_sub | apply x_mul | apply ev_mod | apply ev_neg | apply e_div))
      | refine e_lenN (evm_var rfl) rfl ?_
      | (with_reducible (first | apply x_len | apply x_ix | apply x_sl | apply ev_isN | apply ev_notN | apply ev_eqD | apply ev_neD | apply e_lt | apply ev_le | apply ev_gt | apply ev_ge | apply ev_isInt | apply ev_isBool | apply ev_isTup | apply ev_isStr | apply ec_whole | apply eca_counts | apply eca_levels | exact ⟨rfl, rfl⟩ | apply ev_min | apply ev_intc | apply ev_sumT | apply evt_B | apply evt_test | apply evt_not | apply evt_and | apply evt_or | apply ev_andV | apply ev_orV | apply ev_notV | apply ev_ite | intro _ | exact True.intro | rfl))
      | exact True.intro | exact ⟨rfl, rfl⟩ | exact Nat.le_of_ble_eq_true rfl | rfl))
      · show EV _ _ _ _ (.tuple [.int s.lev, intsD s.past, intsD s.on, intsD s.off, .int (s.ready - 1)])
        (repeat' (first
      | exact hix | exact hix2 | exact hix3 | exact hix4
      | ((with_reducible apply ev_var) <;> rfl)
      | (with_reducible exact ev_int) | (with_reducible exact ev_bl) | (with_reducible exact ev_str) | (with_reducible exact ev_non) | (with_reducible exact eva_nil) | (with_reducible exact evo_none)
      | (with_reducible (first | apply eva_cons | apply ev_tup | apply evo_some | apply x_add | apply e_sub | apply x_mul | apply ev_mod | apply ev_neg | apply e_div))
      | refine e_lenN (evm_var rfl) rfl ?_
      | (with_reducible (first | apply x_len | apply x_ix | apply x_sl | apply ev_isN | apply ev_notN | apply ev_eqD | apply ev_neD | apply e_lt | apply ev_le | apply ev_gt | apply ev_ge | apply ev_isInt | apply ev_isBool | apply ev_isTup | apply ev_isStr | apply ec_whole | apply eca_counts | apply eca_levels | exact ⟨rfl, rfl⟩ | apply ev_min | apply ev_intc | apply ev_sumT | apply evt_B | apply evt_test | apply evt_not | apply evt_and | apply evt_or | apply ev_andV | apply ev_orV | apply ev_notV | apply ev_ite | intro _ | exact True.intro | rfl))
      | exact True.intro | exact ⟨rfl, rfl⟩ | exact Nat.le_of_ble_eq_true rfl | rfl))
    · have := len_flat (lossOn s) (lossOn_len s) s.on.length
      have := len_flat (lossOff s) (lossOff_len s) s.off.length
      simp only [List.length_map, List.length_append]
      omega
    · (try dsimp only [List.set, setAll])
      refine nx_retM (k := 0) (evm_var rfl) rfl (rtL_of (E := E) rfl ?_)
      have e : ((List.range s.on.length).flatMap (lossOn s)).map Ls.d ++ ((List.range s.off.length).flatMap (lossOff s)).map Ls.d ++ [Ls.d (thReady, { s with ready := s.ready - 1 })] = (losses s).map Ls.d := by
        simp [losses, lossRdy, h]
      rw [e]
      exact hq
  · apply nx_ifF
    · (repeat' (first
      | exact hix | exact hix2 | exact hix3 | exact hix4
      | ((with_reducible apply ev_var) <;> rfl)
      | (with_reducible exact ev_int) | (with_reducible exact ev_bl) | (with_reducible exact ev_str) | (with_reducible exact ev_non) | (with_reducible exact eva_nil) | (with_reducible exact evo_none)
      | (with_reducible (first | apply eva_cons | apply ev_tup | apply evo_some | apply x_add | apply e_sub | apply x_mul | apply ev_mod | apply ev_neg | apply e_div))
      | refine e_lenN (evm_var rfl) rfl ?_
      | (with_reducible (first | apply x_len | apply x_ix | apply x_sl | apply ev_isN | apply ev_notN | apply ev_eqD | apply ev_neD | apply e_lt | apply ev_le | apply ev_gt | apply ev_ge | apply ev_isInt | apply ev_isBool | apply ev_isTup | apply ev_isStr | apply ec_whole | apply eca_counts | apply eca_levels | exact ⟨rfl, rfl⟩ | apply ev_min | apply ev_intc | apply ev_sumT | apply evt_B | apply evt_test | apply evt_not | apply evt_and | apply evt_or | apply ev_andV | apply ev_orV | apply ev_notV | apply ev_ite | intro _ | exact True.intro | rfl))
      | exact True.intro | exact ⟨rfl, rfl⟩ | exact Nat.le_of_ble_eq_true rfl | rfl))
    · exact decide_eq_false h
    refine nx_nx ?_
    (try dsimp only [List.set, setAll])
    refine nx_retM (k := 0) (evm_var rfl) rfl (rtL_of (E := E) rfl ?_)
    have e : ((List.range s.on.length).flatMap (lossOn s)).map Ls.d ++ ((List.range s.off.length).flatMap (lossOff s)).map Ls.d = (losses s).map Ls.d := by
      simp [losses, lossRdy, h]
    rw [e]
    exact hq
theorem rng_at {lo : Int} {n i : Nat} {d : PyData} (h : (rngD lo n)[i]? = some d) : d = .int (lo + i) ∧ i < n := by
  unfold rngD at h
  rw [List.getElem?_map] at h
  have hi : i < n := by
    cases q : (List.range n)[i]? with
    | none => rw [q] at h; cases h
    | some j =>
      have := (List.getElem?_eq_some_iff.mp q).1
      simpa using this
  rw [List.getElem?_range hi] at h
  exact ⟨(Option.some.inj h).symm, hi⟩
theorem rng0_at {n i : Nat} {d : PyData} (h : (rngD 0 n)[i]? = some d) : d = .int (i : Int) ∧ i < n := by
  have := rng_at h
  rw [Int.zero_add] at this
  exact this
theorem rngD_len {lo : Int} {n : Nat} : (rngD lo n).length = n := by simp [rngD]
theorem ok_law_losses {f : Addr} {fd : FuncData} (T : Tx P K mg C1 C2 C3) (F : Fun K "_law_losses" "_law_losses" s__law_losses f fd) : FnG P w K mg base 1 f fd ["_law_state"] (sp_losses P w K) := by
  refine body_g F sc__law_losses (fun a => rfl) (fun cdv ar up z H Q E hgd hr => ⟨_, (pss_cons (ps_asg (pv 0) (gTupT (n := 5) (P := P) (w := w) (K := K) ⟨rfl, rfl, rfl⟩ rfl (pgs_cons (pg_name (i := 1) sc__law_losses.nd rfl (by first | exact Or.inl rfl | exact Or.inr rfl)) (pgs_cons (pg_name (i := 2) sc__law_losses.nd rfl (by first | exact Or.inl rfl | exact Or.inr rfl)) (pgs_cons (pg_name (i := 3) sc__law_losses.nd rfl (by first | exact Or.inl rfl | exact Or.inr rfl)) (pgs_cons (pg_name (i := 4) sc__law_losses.nd rfl (by first | exact Or.inl rfl | exact Or.inr rfl)) (pgs_cons (pg_name (i := 5) sc__law_losses.nd rfl (by first | exact Or.inl rfl | exact Or.inr rfl)) pgs_nil))))) rfl rfl)) (pss_cons (ps_set (i := 6) sc__law_losses.nd rfl (by first | exact Or.inl rfl | exact Or.inr rfl) (pe_lst pa_nil)) (pss_cons (ps_for (passes_of rfl) rfl (pi_range1 (by rfl) T.b_range (pa_cons (pe_callB (gLen (P := P) (w := w) (K := K) ⟨rfl, rfl, rfl⟩ (hu65 hr)) (by rfl) T.b_len boot_k_len (pa_cons (pv 3) pa_nil)) pa_nil)) (pg_name (i := 7) sc__law_losses.nd rfl (by first | exact Or.inl rfl | exact Or.inr rfl)) (pss_one (ps_if (pt_cmpR op_gt (pe_ix (gIx (P := P) (w := w) (K := K) ⟨rfl, rfl, rfl⟩ (hu65 hr)) (pv 3) (pv 7) (fun _ _ => rfl)) pe_int (nomark _)) (pss_one (ps_expr (pe_bm PySem.F.plainAttrs_list PySem.F.slot_list_append PySem.F.type_list_append mt_append (pv 6) (pa_cons (pe_tup (pa_cons (pe_tup (pa_cons pe_str (pa_cons (pe_op (gAdd (P := P) (w := w) (K := K) ⟨rfl, rfl, rfl⟩) (pv 7) pe_int) pa_nil))) (pa_cons (pe_tup (pa_cons (pv 1) (pa_cons (pv 2) (pa_cons (pe_op (gAdd (P := P) (w := w) (K := K) ⟨rfl, rfl, rfl⟩) (pe_op (gAdd (P := P) (w := w) (K := K) ⟨rfl, rfl, rfl⟩) (pe_slice (gSl (P := P) (w := w) (K := K) ⟨rfl, rfl, rfl⟩) (pv 3) po_none (po_some (pv 7))) (pe_tup (pa_cons (pe_op op_sub (pe_ix (gIx (P := P) (w := w) (K := K) ⟨rfl, rfl, rfl⟩ (hu65 hr)) (pv 3) (pv 7) (fun _ _ => rfl)) pe_int) pa_nil))) (pe_slice (gSl (P := P) (w := w) (K := K) ⟨rfl, rfl, rfl⟩) (pv 3) (po_some (pe_op (gAdd (P := P) (w := w) (K := K) ⟨rfl, rfl, rfl⟩) (pv 7) pe_int)) po_none)) (pa_cons (pv 4) (pa_cons (pv 5) pa_nil)))))) pa_nil))) pa_nil)))) pss_nil))) (pss_cons (ps_for (passes_of rfl) rfl (pi_range1 (by rfl) T.b_range (pa_cons (pe_callB (gLen (P := P) (w := w) (K := K) ⟨rfl, rfl, rfl⟩ (hu65 hr)) (by rfl) T.b_len boot_k_len (pa_cons (pv 4) pa_nil)) pa_nil)) (pg_name (i := 7) sc__law_losses.nd rfl (by first | exact Or.inl rfl | exact Or.inr rfl)) (pss_one (ps_if (pt_cmpR op_gt (pe_ix (gIx (P := P) (w := w) (K := K) ⟨rfl, rfl, rfl⟩ (hu65 hr)) (pv 4) (pv 7) (fun _ _ => rfl)) pe_int (nomark _)) (pss_one (ps_expr (pe_bm PySem.F.plainAttrs_list PySem.F.slot_list_append PySem.F.type_list_append mt_append (pv 6) (pa_cons (pe_tup (pa_cons (pe_tup (pa_cons pe_str (pa_cons (pe_op (gAdd (P := P) (w := w) (K := K) ⟨rfl, rfl, rfl⟩) (pv 7) pe_int) pa_nil))) (pa_cons (pe_tup (pa_cons (pv 1) (pa_cons (pv 2) (pa_cons (pv 3) (pa_cons (pe_op (gAdd (P := P) (w := w) (K := K) ⟨rfl, rfl, rfl⟩) (pe_op (gAdd (P := P) (w := w) (K := K) ⟨rfl, rfl, rfl⟩) (pe_slice (gSl (P := P) (w := w) (K := K) ⟨rfl, rfl, rfl⟩) (pv 4) po_none (po_some (pv 7))) (pe_tup (pa_cons (pe_op op_sub (pe_ix (gIx (P := P) (w := w) (K := K) ⟨rfl, rfl, rfl⟩ (hu65 hr)) (pv 4) (pv 7) (fun _ _ => rfl)) pe_int) pa_nil))) (pe_slice (gSl (P := P) (w := w) (K := K) ⟨rfl, rfl, rfl⟩) (pv 4) (po_some (pe_op (gAdd (P := P) (w := w) (K := K) ⟨rfl, rfl, rfl⟩) (pv 7) pe_int)) po_none)) (pa_cons (pv 5) pa_nil)))))) pa_nil))) pa_nil)))) pss_nil))) (pss_cons (ps_if (pt_cmpR op_gt (pv 5) pe_int (nomark _)) (pss_one (ps_expr (pe_bm PySem.F.plainAttrs_list PySem.F.slot_list_append PySem.F.type_list_append mt_append (pv 6) (pa_cons (pe_tup (pa_cons (pe_tup (pa_cons pe_str pa_nil)) (pa_cons (pe_tup (pa_cons (pv 1) (pa_cons (pv 2) (pa_cons (pv 3) (pa_cons (pv 4) (pa_cons (pe_op op_sub (pv 5) pe_int) pa_nil)))))) pa_nil))) pa_nil)))) pss_nil) (pss_one (ps_ret (pv 6)))))))), fun v hv hq => ?_⟩)
  obtain ⟨v, s⟩ := v
  replace hq : RsOk P w K H Q E (.lst ((losses s).map Ls.d)) := hq _ rfl
  obtain ⟨hv, hs⟩ : v.Ok ∧ s.Ok v := hv
  have l2 : s.on.length ≤ 3 := by have := hs.on.1; have := hv.run.2; omega
  have l3 : s.off.length ≤ 3 := by have := hs.off.1; have := hv.rest.2; omega
  show Nx _ [.dat s.d, .any, .any, .any, .any, .any, .any, .any] _ _
  (try dsimp only [List.set, setAll])
  refine nx_sq ?_
  refine nx_unpack (js := [1, 2, 3, 4, 5]) (ds := [.int s.lev, intsD s.past, intsD s.on, intsD s.off, .int s.ready]) (ev_var rfl) rfl rfl ?_
  (try dsimp only [List.set, setAll])
  refine nx_sq ?_
  refine nx_asgL (evl_lst eva_nil (Nat.zero_le _)) fun p => ?_
  (try dsimp only [List.set, setAll])
  refine nx_sq ?_
  have step : ∀ {l : List Int} {i : Nat} {x : Int}, l.length ≤ 3 → l[i]? = some x → (cutL (l.map PyData.int) none (some (i : Int))).length ≤ 3 ∧ (cutL (l.map PyData.int) (some ((i : Int) + 1)) none).length ≤ 3 := fun {l i x} hl _ =>
    ⟨by rw [cutL_to]; simp; omega, by rw [show (i : Int) + 1 = ((i + 1 : Nat) : Int) from rfl, cutL_from]; simp; omega⟩
  refine nx_for (wd_rng1 (j := (s.on.length : Int)) (eva_cons ?_ eva_nil) (by omega)) (fun i Γ Δ => (∃ a, Γ = [.dat s.d, .dat (.int s.lev), .dat (intsD s.past), .dat (intsD s.on), .dat (intsD s.off), .dat (.int s.ready), .loc p, a]) ∧ Δ = [(p, .ml (((List.range i).flatMap (lossOn s)).map Ls.d))]) ⟨⟨_, rfl⟩, rfl⟩ ?_ ?_
  · apply EV.to
    · (repeat' (first
      | exact hix | exact hix2 | exact hix3 | exact hix4
      | ((with_reducible apply ev_var) <;> rfl)
      | (with_reducible exact ev_int) | (with_reducible exact ev_bl) | (with_reducible exact ev_str) | (with_reducible exact ev_non) | (with_reducible exact eva_nil) | (with_reducible exact evo_none)
      | (with_reducible (first | apply eva_cons | apply ev_tup | apply evo_some | apply x_add | apply e_sub | apply x_mul | apply ev_mod | apply ev_neg | apply e_div))
      | refine e_lenN (evm_var rfl) rfl ?_
      | (with_reducible (first | apply x_len | apply x_ix | apply x_sl | apply ev_isN | apply ev_notN | apply ev_eqD | apply ev_neD | apply e_lt | apply ev_le | apply ev_gt | apply ev_ge | apply ev_isInt | apply ev_isBool | apply ev_isTup | apply ev_isStr | apply ec_whole | apply eca_counts | apply eca_levels | exact ⟨rfl, rfl⟩ | apply ev_min | apply ev_intc | apply ev_sumT | apply evt_B | apply evt_test | apply evt_not | apply evt_and | apply evt_or | apply ev_andV | apply ev_orV | apply ev_notV | apply ev_ite | intro _ | exact True.intro | rfl))
      | exact True.intro | exact ⟨rfl, rfl⟩ | exact Nat.le_of_ble_eq_true rfl | rfl))
    · simp
  · rintro hs' i d Γ Δ hd ⟨⟨a, rfl⟩, rfl⟩
    obtain ⟨rfl, hi⟩ := rng0_at hd
    rw [Int.toNat_natCast] at hi
    have hx := List.getElem?_eq_getElem hi
    generalize s.on[i] = x at hx
    have hix : ixD (intsD s.on) (.int (i : Int)) = some (.int x) := ixI (by rw [atI_nat, hx])
    refine ⟨[7], _, tg_name, ?_⟩
    (try dsimp only [List.set, setAll])
    by_cases h : 0 < x
    · apply nx_ifT
      · (repeat' (first
      | exact hix | exact hix2 | exact hix3 | exact hix4
      | ((with_reducible apply ev_var) <;> rfl)
      | (with_reducible exact ev_int) | (with_reducible exact ev_bl) | (with_reducible exact ev_str) | (with_reducible exact ev_non) | (with_reducible exact eva_nil) | (with_reducible exact evo_none)
      | (with_reducible (first | apply eva_cons | apply ev_tup | apply evo_some | apply x_add | apply e_sub | apply x_mul | apply ev_mod | apply ev_neg | apply e_div))
      | refine e_lenN (evm_var rfl) rfl ?_
      | (with_reducible (first | apply x_len | apply x_ix | apply x_sl | apply ev_isN | apply ev_notN | apply ev_eqD | apply ev_neD | apply e_lt | apply ev_le | apply ev_gt | apply ev_ge | apply ev_isInt | apply ev_isBool | apply ev_isTup | apply ev_isStr | apply ec_whole | apply eca_counts | apply eca_levels | exact ⟨rfl, rfl⟩ | apply ev_min | apply ev_intc | apply ev_sumT | apply evt_B | apply evt_test | apply evt_not | apply evt_and | apply evt_or | apply ev_andV | apply ev_orV | apply ev_notV | apply ev_ite | intro _ | exact True.intro | rfl))
      | exact True.intro | exact ⟨rfl, rfl⟩ | exact Nat.le_of_ble_eq_true rfl | rfl))
      · exact decide_eq_true h
      obtain ⟨z1, z2⟩ := step l2 hx
      refine nx_app (k := 0) (evm_var rfl) (d := Ls.d (thOn i, { s with on := lessOne s.on i })) ?_ rfl ?_ ?_
      · refine ev_tup (ds := [thOn i, S.d { s with on := lessOne s.on i }]) (eva_cons ?_ (eva_cons ?_ eva_nil)) (Nat.le_of_ble_eq_true rfl)
        · show EV _ _ _ _ (.tuple [.str "on", .int ((i : Int) + 1)])
          (repeat' (first
      | exact hix | exact hix2 | exact hix3 | exact hix4
      | ((with_reducible apply ev_var) <;> rfl)
      | (with_reducible exact ev_int) | (with_reducible exact ev_bl) | (with_reducible exact ev_str) | (with_reducible exact ev_non) | (with_reducible exact eva_nil) | (with_reducible exact evo_none)
      | (with_reducible (first | apply eva_cons | apply ev_tup | apply evo_some | apply x_add | apply e_sub | apply x_mul | apply ev_mod | apply ev_neg | apply e_div))
      | refine e_lenN (evm_var rfl) rfl ?_
      | (with_reducible (first | apply x_len | apply x_ix | apply x_sl | apply ev_isN | apply ev_notN | apply ev_eqD | apply ev_neD | apply e_lt | apply ev_le | apply ev_gt | apply ev_ge | apply ev_isInt | apply ev_isBool | apply ev_isTup | apply ev_isStr | apply ec_whole | apply eca_counts | apply eca_levels | exact ⟨rfl, rfl⟩ | apply ev_min | apply ev_intc | apply ev_sumT | apply evt_B | apply evt_test | apply evt_not | apply evt_and | apply evt_or | apply ev_andV | apply ev_orV | apply ev_notV | apply ev_ite | intro _ | exact True.intro | rfl))
      | exact True.intro | exact ⟨rfl, rfl⟩ | exact Nat.le_of_ble_eq_true rfl | rfl))
        · refine ev_tup (ds := [.int s.lev, intsD s.past, intsD (lessOne s.on i), intsD s.off, .int s.ready]) (eva_cons (ev_var rfl) (eva_cons (ev_var rfl) (eva_cons ?_ (eva_cons (ev_var rfl) (eva_cons (ev_var rfl) eva_nil))))) (Nat.le_of_ble_eq_true rfl)
          apply EV.to
          · (repeat' (first
      | exact hix | exact hix2 | exact hix3 | exact hix4
      | ((with_reducible apply ev_var) <;> rfl)
      | (with_reducible exact ev_int) | (with_reducible exact ev_bl) | (with_reducible exact ev_str) | (with_reducible exact ev_non) | (with_reducible exact eva_nil) | (with_reducible exact evo_none)
      | (with_reducible (first | apply eva_cons | apply ev_tup | apply evo_some | apply x_add | apply e_sub | apply x_mul | apply ev_mod | apply ev_neg | apply e_div))
      | refine e_lenN (evm_var rfl) rfl ?_
      | (with_reducible (first | apply x_len | apply x_ix | apply x_sl | apply ev_isN | apply ev_notN | apply ev_eqD | apply ev_neD | apply e_lt | apply ev_le | apply ev_gt | apply ev_ge | apply ev_isInt | apply ev_isBool | apply ev_isTup | apply ev_isStr | apply ec_whole | apply eca_counts | apply eca_levels | exact ⟨rfl, rfl⟩ | apply ev_min | apply ev_intc | apply ev_sumT | apply evt_B | apply evt_test | apply evt_not | apply evt_and | apply evt_or | apply ev_andV | apply ev_orV | apply ev_notV | apply ev_ite | intro _ | exact True.intro | rfl))
      | exact True.intro | exact ⟨rfl, rfl⟩ | exact Nat.le_of_ble_eq_true rfl | rfl))
            · show (cutL (s.on.map PyData.int) none (some (i : Int))).length + 1 ≤ 1000000
              omega
            · show (cutL (s.on.map PyData.int) none (some (i : Int)) ++ [_]).length + (cutL (s.on.map PyData.int) (some ((i : Int) + 1)) none).length ≤ 1000000
              rw [List.length_append]
              simp only [List.length_cons, List.length_nil]
              omega
          · exact congrArg PyData.tuple (lessOne_eq hx)
      · have := len_flat (lossOn s) (lossOn_len s) i
        simp only [List.length_map]
        omega
      · show Nx _ _ ([(p, MO.ml (_ ++ [_]))] ++ hs') _
        refine nx_li ⟨⟨_, rfl⟩, ?_⟩
        rw [range_flat, List.map_append]
        simp [lossOn, hx, h]
    · apply nx_ifF
      · (repeat' (first
      | exact hix | exact hix2 | exact hix3 | exact hix4
      | ((with_reducible apply ev_var) <;> rfl)
      | (with_reducible exact ev_int) | (with_reducible exact ev_bl) | (with_reducible exact ev_str) | (with_reducible exact ev_non) | (with_reducible exact eva_nil) | (with_reducible exact evo_none)
      | (with_reducible (first | apply eva_cons | apply ev_tup | apply evo_some | apply x_add | apply e_sub | apply x_mul | apply ev_mod | apply ev_neg | apply e_div))
      | refine e_lenN (evm_var rfl) rfl ?_
      | (with_reducible (first | apply x_len | apply x_ix | apply x_sl | apply ev_isN | apply ev_notN | apply ev_eqD | apply ev_neD | apply e_lt | apply ev_le | apply ev_gt | apply ev_ge | apply ev_isInt | apply ev_isBool | apply ev_isTup | apply ev_isStr | apply ec_whole | apply eca_counts | apply eca_levels | exact ⟨rfl, rfl⟩ | apply ev_min | apply ev_intc | apply ev_sumT | apply evt_B | apply evt_test | apply evt_not | apply evt_and | apply evt_or | apply ev_andV | apply ev_orV | apply ev_notV | apply ev_ite | intro _ | exact True.intro | rfl))
      | exact True.intro | exact ⟨rfl, rfl⟩ | exact Nat.le_of_ble_eq_true rfl | rfl))
      · exact decide_eq_false h
      refine nx_nx ?_
      (try dsimp only [List.set, setAll])
      refine nx_li ⟨⟨_, rfl⟩, ?_⟩
      rw [range_flat, List.map_append]
      simp [lossOn, hx, h]
  rintro Γ Δ ⟨⟨a, rfl⟩, rfl⟩
  rw [rngD_len, Int.toNat_natCast]
  (try dsimp only [List.set, setAll])
  refine nx_sq ?_
  refine nx_for (wd_rng1 (j := (s.off.length : Int)) (eva_cons ?_ eva_nil) (by omega)) (fun i Γ Δ => (∃ a, Γ = [.dat s.d, .dat (.int s.lev), .dat (intsD s.past), .dat (intsD s.on), .dat (intsD s.off), .dat (.int s.ready), .loc p, a]) ∧ Δ = [(p, .ml (((List.range s.on.length).flatMap (lossOn s)).map Ls.d ++ ((List.range i).flatMap (lossOff s)).map Ls.d))]) ⟨⟨_, rfl⟩, by simp⟩ ?_ ?_
  · apply EV.to
    · (repeat' (first
      | exact hix | exact hix2 | exact hix3 | exact hix4
      | ((with_reducible apply ev_var) <;> rfl)
      | (with_reducible exact ev_int) | (with_reducible exact ev_bl) | (with_reducible exact ev_str) | (with_reducible exact ev_non) | (with_reducible exact eva_nil) | (with_reducible exact evo_none)
      | (with_reducible (first | apply eva_cons | apply ev_tup | apply evo_some | apply x_add | apply e_sub | apply x_mul | apply ev_mod | apply ev_neg | apply e_div))
      | refine e_lenN (evm_var rfl) rfl ?_
      | (with_reducible (first | apply x_len | apply x_ix | apply x_sl | apply ev_isN | apply ev_notN | apply ev_eqD | apply ev_neD | apply e_lt | apply ev_le | apply ev_gt | apply ev_ge | apply ev_isInt | apply ev_isBool | apply ev_isTup | apply ev_isStr | apply ec_whole | apply eca_counts | apply eca_levels | exact ⟨rfl, rfl⟩ | apply ev_min | apply ev_intc | apply ev_sumT | apply evt_B | apply evt_test | apply evt_not | apply evt_and | apply evt_or | apply ev_andV | apply ev_orV | apply ev_notV | apply ev_ite | intro _ | exact True.intro | rfl))
      | exact True.intro | exact ⟨rfl, rfl⟩ | exact Nat.le_of_ble_eq_true rfl | rfl))
    · simp
  · rintro hs' i d Γ Δ hd ⟨⟨a, rfl⟩, rfl⟩
    obtain ⟨rfl, hi⟩ := rng0_at hd
    rw [Int.toNat_natCast] at hi
    have hx := List.getElem?_eq_getElem hi
    generalize s.off[i] = x at hx
    have hix : ixD (intsD s.off) (.int (i : Int)) = some (.int x) := ixI (by rw [atI_nat, hx])
    refine ⟨[7], _, tg_name, ?_⟩
    (try dsimp only [List.set, setAll])
    by_cases h : 0 < x
    · apply nx_ifT
      · (repeat' (first
      | exact hix | exact hix2 | exact hix3 | exact hix4
      | ((with_reducible apply ev_var) <;> rfl)
      | (with_reducible exact ev_int) | (with_reducible exact ev_bl) | (with_reducible exact ev_str) | (with_reducible exact ev_non) | (with_reducible exact eva_nil) | (with_reducible exact evo_none)
      | (with_reducible (first | apply eva_cons | apply ev_tup | apply evo_some | apply x_add | apply e_sub | apply x_mul | apply ev_mod | apply ev_neg | apply e_div))
      | refine e_lenN (evm_var rfl) rfl ?_
      | (with_reducible (first | apply x_len | apply x_ix | apply x_sl | apply ev_isN | apply ev_notN | apply ev_eqD | apply ev_neD | apply e_lt | apply ev_le | apply ev_gt | apply ev_ge | apply ev_isInt | apply ev_isBool | apply ev_isTup | apply ev_isStr | apply ec_whole | apply eca_counts | apply eca_levels | exact ⟨rfl, rfl⟩ | apply ev_min | apply ev_intc | apply ev_sumT | apply evt_B | apply evt_test | apply evt_not | apply evt_and | apply evt_or | apply ev_andV | apply ev_orV | apply ev_notV | apply ev_ite | intro _ | exact True.intro | rfl))
      | exact True.intro | exact ⟨rfl, rfl⟩ | exact Nat.le_of_ble_eq_true rfl | rfl))
      · exact decide_eq_true h
      obtain ⟨z1, z2⟩ := step l3 hx
      refine nx_app (k := 0) (evm_var rfl) (d := Ls.d (thRest i, { s with off := lessOne s.off i })) ?_ rfl ?_ ?_
      · refine ev_tup (ds := [thRest i, S.d { s with off := lessOne s.off i }]) (eva_cons ?_ (eva_cons ?_ eva_nil)) (Nat.le_of_ble_eq_true rfl)
        · show EV _ _ _ _ (.tuple [.str "rest", .int ((i : Int) + 1)])
          (repeat' (first
      | exact hix | exact hix2 | exact hix3 | exact hix4
      | ((with_reducible apply ev_var) <;> rfl)
      | (with_reducible exact ev_int) | (with_reducible exact ev_bl) | (with_reducible exact ev_str) | (with_reducible exact ev_non) | (with_reducible exact eva_nil) | (with_reducible exact evo_none)
      | (with_reducible (first | apply eva_cons | apply ev_tup | apply evo_some | apply x_add | apply e_sub | apply x_mul | apply ev_mod | apply ev_neg | apply e_div))
      | refine e_lenN (evm_var rfl) rfl ?_
      | (with_reducible (first | apply x_len | apply x_ix | apply x_sl | apply ev_isN | apply ev_notN | apply ev_eqD | apply ev_neD | apply e_lt | apply ev_le | apply ev_gt | apply ev_ge | apply ev_isInt | apply ev_isBool | apply ev_isTup | apply ev_isStr | apply ec_whole | apply eca_counts | apply eca_levels | exact ⟨rfl, rfl⟩ | apply ev_min | apply ev_intc | apply ev_sumT | apply evt_B | apply evt_test | apply evt_not | apply evt_and | apply evt_or | apply ev_andV | apply ev_orV | apply ev_notV | apply ev_ite | intro _ | exact True.intro | rfl))
      | exact True.intro | exact ⟨rfl, rfl⟩ | exact Nat.le_of_ble_eq_true rfl | rfl))
        · refine ev_tup (ds := [.int s.lev, intsD s.past, intsD s.on, intsD (lessOne s.off i), .int s.ready]) (eva_cons (ev_var rfl) (eva_cons (ev_var rfl) (eva_cons (ev_var rfl) (eva_cons ?_ (eva_cons (ev_var rfl) eva_nil))))) (Nat.le_of_ble_eq_true rfl)
          apply EV.to
          · (repeat' (first
      | exact hix | exact hix2 | exact hix3 | exact hix4
      | ((with_reducible apply ev_var) <;> rfl)
      | (with_reducible exact ev_int) | (with_reducible exact ev_bl) | (with_reducible exact ev_str) | (with_reducible exact ev_non) | (with_reducible exact eva_nil) | (with_reducible exact evo_none)
      | (with_reducible (first | apply eva_cons | apply ev_tup | apply evo_some | apply x_add | apply e_sub | apply x_mul | apply ev_mod | apply ev_neg | apply e_div))
      | refine e_lenN (evm_var rfl) rfl ?_
      | (with_reducible (first | apply x_len | apply x_ix | apply x_sl | apply ev_isN | apply ev_notN | apply ev_eqD | apply ev_neD | apply e_lt | apply ev_le | apply ev_gt | apply ev_ge | apply ev_isInt | apply ev_isBool | apply ev_isTup | apply ev_isStr | apply ec_whole | apply eca_counts | apply eca_levels | exact ⟨rfl, rfl⟩ | apply ev_min | apply ev_intc | apply ev_sumT | apply evt_B | apply evt_test | apply evt_not | apply evt_and | apply evt_or | apply ev_andV | apply ev_orV | apply ev_notV | apply ev_ite | intro _ | exact True.intro | rfl))
      | exact True.intro | exact ⟨rfl, rfl⟩ | exact Nat.le_of_ble_eq_true rfl | rfl))
            · show (cutL (s.off.map PyData.int) none (some (i : Int))).length + 1 ≤ 1000000
              omega
            · show (cutL (s.off.map PyData.int) none (some (i : Int)) ++ [_]).length + (cutL (s.off.map PyData.int) (some ((i : Int) + 1)) none).length ≤ 1000000
              rw [List.length_append]
              simp only [List.length_cons, List.length_nil]
              omega
          · exact congrArg PyData.tuple (lessOne_eq hx)
      · have := len_flat (lossOn s) (lossOn_len s) s.on.length
        have := len_flat (lossOff s) (lossOff_len s) i
        simp only [List.length_map, List.length_append]
        omega
      · show Nx _ _ ([(p, MO.ml (_ ++ [_]))] ++ hs') _
        refine nx_li ⟨⟨_, rfl⟩, ?_⟩
        rw [range_flat, List.map_append]
        simp [lossOff, hx, h]
    · apply nx_ifF
      · (repeat' (first
      | exact hix | exact hix2 | exact hix3 | exact hix4
      | ((with_reducible apply ev_var) <;> rfl)
      | (with_reducible exact ev_int) | (with_reducible exact ev_bl) | (with_reducible exact ev_str) | (with_reducible exact ev_non) | (with_reducible exact eva_nil) | (with_reducible exact evo_none)
      | (with_reducible (first | apply eva_cons | apply ev_tup | apply evo_some | apply x_add | apply e_sub | apply x_mul | apply ev_mod | apply ev_neg | apply e_div))
      | refine e_lenN (evm_var rfl) rfl ?_
      | (with_reducible (first | apply x_len | apply x_ix | apply x_sl | apply ev_isN | apply ev_notN | apply ev_eqD | apply ev_neD | apply e_lt | apply ev_le | apply ev_gt | apply ev_ge | apply ev_isInt | apply ev_isBool | apply ev_isTup | apply ev_isStr | apply ec_whole | apply eca_counts | apply eca_levels | exact ⟨rfl, rfl⟩ | apply ev_min | apply ev_intc | apply ev_sumT | apply evt_B | apply evt_test | apply evt_not | apply evt_and | apply evt_or | apply ev_andV | apply ev_orV | apply ev_notV | apply ev_ite | intro _ | exact True.intro | rfl))
      | exact True.intro | exact ⟨rfl, rfl⟩ | exact Nat.le_of_ble_eq_true rfl | rfl))
      · exact decide_eq_false h
      refine nx_nx ?_
      (try dsimp only [List.set, setAll])
      refine nx_li ⟨⟨_, rfl⟩, ?_⟩
      rw [range_flat, List.map_append]
      simp [lossOff, hx, h]
  rintro Γ Δ ⟨⟨a, rfl⟩, rfl⟩
  rw [rngD_len, Int.toNat_natCast]
  (try dsimp only [List.set, setAll])
  refine nx_sq ?_
  by_cases h : 0 < s.ready
  · apply nx_ifT
    · (repeat' (first
      | exact hix | exact hix2 | exact hix3 | exact hix4
      | ((with_reducible apply ev_var) <;> rfl)
      | (with_reducible exact ev_int) | (with_reducible exact ev_bl) | (with_reducible exact ev_str) | (with_reducible exact ev_non) | (with_reducible exact eva_nil) | (with_reducible exact evo_none)
      | (with_reducible (first | apply eva_cons | apply ev_tup | apply evo_some | apply x_add | apply e_sub | apply x_mul | apply ev_mod | apply ev_neg | apply e_div))
      | refine e_lenN (evm_var rfl) rfl ?_
      | (with_reducible (first | apply x_len | apply x_ix | apply x_sl | apply ev_isN | apply ev_notN | apply ev_eqD | apply ev_neD | apply e_lt | apply ev_le | apply ev_gt | apply ev_ge | apply ev_isInt | apply ev_isBool | apply ev_isTup | apply ev_isStr | apply ec_whole | apply eca_counts | apply eca_levels | exact ⟨rfl, rfl⟩ | apply ev_min | apply ev_intc | apply ev_sumT | apply evt_B | apply evt_test | apply evt_not | apply evt_and | apply evt_or | apply ev_andV | apply ev_orV | apply ev_notV | apply ev_ite | intro _ | exact True.intro | rfl))
      | exact True.intro | exact ⟨rfl, rfl⟩ | exact Nat.le_of_ble_eq_true rfl | rfl))
    · exact decide_eq_true h
    refine nx_app (k := 0) (evm_var rfl) (d := Ls.d (thReady, { s with ready := s.ready - 1 })) ?_ rfl ?_ ?_
    · refine ev_tup (ds := [thReady, S.d { s with ready := s.ready - 1 }]) (eva_cons ?_ (eva_cons ?_ eva_nil)) (Nat.le_of_ble_eq_true rfl)
      · show EV _ _ _ _ (.tuple [.str "ready"])
        (repeat' (first
      | exact hix | exact hix2 | exact hix3 | exact hix4
      | ((with_reducible apply ev_var) <;> rfl)
      | (with_reducible exact ev_int) | (with_reducible exact ev_bl) | (with_reducible exact ev_str) | (with_reducible exact ev_non) | (with_reducible exact eva_nil) | (with_reducible exact evo_none)
      | (with_reducible (first | apply eva_cons | apply ev_tup | apply evo_some | apply x_add | apply e_sub | apply x_mul | apply ev_mod | apply ev_neg | apply e_div))
      | refine e_lenN (evm_var rfl) rfl ?_
      | (with_reducible (first | apply x_len | apply x_ix | apply x_sl | apply ev_isN | apply ev_notN | apply ev_eqD | apply ev_neD | apply e_lt | apply ev_le | apply ev_gt | apply ev_ge | apply ev_isInt | apply ev_isBool | apply ev_isTup | apply ev_isStr | apply ec_whole | apply eca_counts | apply eca_levels | exact ⟨rfl, rfl⟩ | apply ev_min | apply ev_intc | apply ev_sumT | apply evt_B | apply evt_test | apply evt_not | apply evt_and | apply evt_or | apply ev_andV | apply ev_orV | apply ev_notV | apply ev_ite | intro _ | exact True.intro | rfl))
      | exact True.intro | exact ⟨rfl, rfl⟩ | exact Nat.le_of_ble_eq_true rfl | rfl))
      · show EV _ _ _ _ (.tuple [.int s.lev, intsD s.past, intsD s.on, intsD s.off, .int (s.ready - 1)])
        (repeat' (first
      | exact hix | exact hix2 | exact hix3 | exact hix4
      | ((with_reducible apply ev_var) <;> rfl)
      | (with_reducible exact ev_int) | (with_reducible exact ev_bl) | (with_reducible exact ev_str) | (with_reducible exact ev_non) | (with_reducible exact eva_nil) | (with_reducible exact evo_none)
      | (with_reducible (first | apply eva_cons | apply ev_tup | apply evo_some | apply x_add | apply e_sub | apply x_mul | apply ev_mod | apply ev_neg | apply e_div))
      | refine e_lenN (evm_var rfl) rfl ?_
      | (with_reducible (first | apply x_len | apply x_ix | apply x_sl | apply ev_isN | apply ev_notN | apply ev_eqD | apply ev_neD | apply e_lt | apply ev_le | apply ev_gt | apply ev_ge | apply ev_isInt | apply ev_isBool | apply ev_isTup | apply ev_isStr | apply ec_whole | apply eca_counts | apply eca_levels | exact ⟨rfl, rfl⟩ | apply ev_min | apply ev_intc | apply ev_sumT | apply evt_B | apply evt_test | apply evt_not | apply evt_and | apply evt_or | apply ev_andV | apply ev_orV | apply ev_notV | apply ev_ite | intro _ | exact True.intro | rfl))
      | exact True.intro | exact ⟨rfl, rfl⟩ | exact Nat.le_of_ble_eq_true rfl | rfl))
    · have := len_flat (lossOn s) (lossOn_len s) s.on.length
      have := len_flat (lossOff s) (lossOff_len s) s.off.length
      simp only [List.length_map, List.length_append]
      omega
    · (try dsimp only [List.set, setAll])
      refine nx_retM (k := 0) (evm_var rfl) rfl (rtL_of (E := E) rfl ?_)
      have e : ((List.range s.on.length).flatMap (lossOn s)).map Ls.d ++ ((List.range s.off.length).flatMap (lossOff s)).map Ls.d ++ [Ls.d (thReady, { s with ready := s.ready - 1 })] = (losses s).map Ls.d := by
        simp [losses, lossRdy, h]
      rw [e]
      exact hq
  · apply nx_ifF
    · (repeat' (first
      | exact hix | exact hix2 | exact hix3 | exact hix4
      | ((with_reducible apply ev_var) <;> rfl)
      | (with_reducible exact ev_int) | (with_reducible exact ev_bl) | (with_reducible exact ev_str) | (with_reducible exact ev_non) | (with_reducible exact eva_nil) | (with_reducible exact evo_none)
      | (with_reducible (first | apply eva_cons | apply ev_tup | apply evo_some | apply x_add | apply e_sub | apply x_mul | apply ev_mod | apply ev_neg | apply e_div))
      | refine e_lenN (evm_var rfl) rfl ?_
      | (with_reducible (first | apply x_len | apply x_ix | apply x_sl | apply ev_isN | apply ev_notN | apply ev_eqD | apply ev_neD | apply e_lt | apply ev_le | apply ev_gt | apply ev_ge | apply ev_isInt | apply ev_isBool | apply ev_isTup | apply ev_isStr | apply ec_whole | apply eca_counts | apply eca_levels | exact ⟨rfl, rfl⟩ | apply ev_min | apply ev_intc | apply ev_sumT | apply evt_B | apply evt_test | apply evt_not | apply evt_and | apply evt_or | apply ev_andV | apply ev_orV | apply ev_notV | apply ev_ite | intro _ | exact True.intro | rfl))
      | exact True.intro | exact ⟨rfl, rfl⟩ | exact Nat.le_of_ble_eq_true rfl | rfl))
    · exact decide_eq_false h
    refine nx_nx ?_
    (try dsimp only [List.set, setAll])
    refine nx_retM (k := 0) (evm_var rfl) rfl (rtL_of (E := E) rfl ?_)
    have e : ((List.range s.on.length).flatMap (lossOn s)).map Ls.d ++ ((List.range s.off.length).flatMap (lossOff s)).map Ls.d = (losses s).map Ls.d := by
      simp [losses, lossRdy, h]
    rw [e]
    exact hq
abbrev Bg := Wl × Int × Int
def startF (a : Bg) : S := ⟨a.2.1, List.replicate a.1.lag.toNat a.2.1, List.replicate a.1.run.toNat 0, List.replicate (a.1.rest - 1).toNat 0, a.2.2⟩
theorem rep_ints (n : Nat) (x : Int) : PyData.tuple (List.replicate n [PyData.int x]).flatten = intsD (List.replicate n x) := by
  unfold intsD
  congr 1
  induction n with
  | zero => rfl
  | succ n ih => rw [List.replicate_succ, List.flatten_cons, ih, List.replicate_succ]; rfl
abbrev sp_begun_state (P : Program) (w : World) (K : PySem.W.Frag) : Sp := ASp (α := Bg) P w K (fun a => [a.1.d, .int a.2.1, .int a.2.2]) (fun a => a.1.Ok) fun a r => r = .dat (startF a).d
theorem ok_begun_state {f : Addr} {fd : FuncData} (T : Tx P K mg C1 C2 C3) (F : Fun K "_law_begun_state" "_law_begun_state" s__law_begun_state f fd) : FnG P w K mg base 1 f fd ["_law_well_here", "_law_level", "_law_number"] (sp_begun_state P w K) := by
  refine body_g F sc__law_begun_state (fun a => rfl) (fun cdv ar up z H Q E hgd hr => ⟨_, (pss_one (ps_ret (pe_tup (pa_cons (pv 1) (pa_cons (pe_op (gMul (P := P) (w := w) (K := K) ⟨rfl, rfl, rfl⟩) (pe_tup (pa_cons (pv 1) pa_nil)) (pe_ix (gIx (P := P) (w := w) (K := K) ⟨rfl, rfl, rfl⟩ (hu65 hr)) (pv 0) pe_int (fun _ _ => rfl))) (pa_cons (pe_op (gMul (P := P) (w := w) (K := K) ⟨rfl, rfl, rfl⟩) (pe_tup (pa_cons pe_int pa_nil)) (pe_ix (gIx (P := P) (w := w) (K := K) ⟨rfl, rfl, rfl⟩ (hu65 hr)) (pv 0) pe_int (fun _ _ => rfl))) (pa_cons (pe_op (gMul (P := P) (w := w) (K := K) ⟨rfl, rfl, rfl⟩) (pe_tup (pa_cons pe_int pa_nil)) (pe_op op_sub (pe_ix (gIx (P := P) (w := w) (K := K) ⟨rfl, rfl, rfl⟩ (hu65 hr)) (pv 0) pe_int (fun _ _ => rfl)) pe_int)) (pa_cons (pv 2) pa_nil)))))))), fun v hv hq => ?_⟩)
  obtain ⟨v, l, n⟩ := v
  replace hq : RsOk P w K H Q E (.dat (startF (v, l, n)).d) := hq _ rfl
  replace hv : v.Ok := hv
  have h1 := hv.run
  have h2 := hv.rest
  have h3 := hv.lag
  show Nx _ [.dat v.d, .dat (.int l), .dat (.int n)] _ _
  apply nx_ret2 (k := rt_of rfl hq)
  · (repeat' (first
      | exact hix | exact hix2 | exact hix3 | exact hix4
      | ((with_reducible apply ev_var) <;> rfl)
      | (with_reducible exact ev_int) | (with_reducible exact ev_bl) | (with_reducible exact ev_str) | (with_reducible exact ev_non) | (with_reducible exact eva_nil) | (with_reducible exact evo_none)
      | (with_reducible (first | apply eva_cons | apply ev_tup | apply evo_some | apply x_add | apply e_sub | apply x_mul | apply ev_mod | apply ev_neg | apply e_div))
      | refine e_lenN (evm_var rfl) rfl ?_
      | (with_reducible (first | apply x_len | apply x_ix | apply x_sl | apply ev_isN | apply ev_notN | apply ev_eqD | apply ev_neD | apply e_lt | apply ev_le | apply ev_gt | apply ev_ge | apply ev_isInt | apply ev_isBool | apply ev_isTup | apply ev_isStr | apply ec_whole | apply eca_counts | apply eca_levels | exact ⟨rfl, rfl⟩ | apply ev_min | apply ev_intc | apply ev_sumT | apply evt_B | apply evt_test | apply evt_not | apply evt_and | apply evt_or | apply ev_andV | apply ev_orV | apply ev_notV | apply ev_ite | intro _ | exact True.intro | rfl))
      | exact True.intro | exact ⟨rfl, rfl⟩ | exact Nat.le_of_ble_eq_true rfl | rfl))
    all_goals exact ⟨by simp, by omega, by simp⟩
  · show PyData.tuple [_, .tuple (List.replicate v.lag.toNat [PyData.int l]).flatten, .tuple (List.replicate v.run.toNat [PyData.int 0]).flatten, .tuple (List.replicate (v.rest - 1).toNat [PyData.int 0]).flatten, _] = _
    rw [rep_ints, rep_ints, rep_ints]
    rfl
end
end Kw

/-! text D8 -/
/-! things_of, _law_things -/
namespace Kw
open PySem PySem.Spec PyProof.Rows L2 PySem.Calls
abbrev s_things_of : Stmt := top 42
theorem sc_things_of : FnScope ["well", "pair", "low", "high", "state", "left", "found", "known", "inflow", "fresh", "thing"] ["well", "pair", "low", "high"] (defScope s_things_of) := ⟨rfl, rfl, rfl, by decide +kernel, rfl, by decide +kernel, by decide +kernel⟩
abbrev s__law_things : Stmt := top 59
theorem sc__law_things : FnScope ["_law_well_here", "_law_pair", "_law_low", "_law_high", "_law_state", "_law_left", "_law_found", "_law_inflow", "_law_fresh", "_law_thing"] ["_law_well_here", "_law_pair", "_law_low", "_law_high"] (defScope s__law_things) := ⟨rfl, rfl, rfl, by decide +kernel, rfl, by decide +kernel, by decide +kernel⟩
theorem canLay_ints (l : List Int) : PyData.canLayAll0 (l.map .int) = true := by
  induction l with
  | nil => rfl
  | cons x l ih => simp [PyData.canLayAll0, PyData.canLay0, ih]
theorem depth_ints (l : List Int) : PyData.depthAll (l.map .int) = 0 := by
  induction l with
  | nil => rfl
  | cons x l ih => simp [PyData.depthAll, PyData.depth, ih]
theorem S.canLay (s : S) : s.d.canLay0 = true := by simp [S.d, S.l, intsD, PyData.canLay0, PyData.canLayAll0, canLay_ints]
theorem S.dep (s : S) : s.d.depth ≤ 2 := by simp [S.d, S.l, intsD, PyData.depth, PyData.depthAll, depth_ints]
theorem S.shaped (s : S) : SeqAt.shaped s.d = true := by
  unfold SeqAt.shaped
  rw [s.canLay]
  have := s.dep
  simpa using by omega
theorem Nd.canLay (n : Nd) : n.d.canLay0 = true := by simp [Nd.d, PyData.canLay0, PyData.canLayAll0, S.canLay]
theorem Nd.dep (n : Nd) : n.d.depth ≤ 3 := by
  have := n.1.dep
  simp only [Nd.d, PyData.depth, PyData.depthAll]
  omega
theorem Nd.shaped (n : Nd) : SeqAt.shaped n.d = true := by
  unfold SeqAt.shaped
  rw [n.canLay]
  have := n.dep
  simpa using by omega
theorem str_shaped (x : Str) (h : PyData.strOk x = true) : SeqAt.shaped (.str x) = true := by
  unfold SeqAt.shaped
  simp [PyData.canLay0, PyData.depth, h]
theorem over_shaped : SeqAt.shaped (.str "over") = true := str_shaped _ (by decide +kernel)
theorem dry_shaped : SeqAt.shaped (.str "dry") = true := str_shaped _ (by decide +kernel)
theorem Out.shaped (o : Out) : SeqAt.shaped o.d = true := by
  cases o with
  | over => exact over_shaped
  | dry => exact dry_shaped
  | st s => exact s.shaped
theorem eqv_over_st (s : S) : PyData.eqv s.d (.str "over") = false := by simp [S.d, PyData.eqv]
theorem eqv_over_nd (n : Nd) : PyData.eqv n.d (.str "over") = false := by simp [Nd.d, PyData.eqv]
theorem eqv_over_over : PyData.eqv (.str "over") (.str "over") = true := by simp [PyData.eqv]
theorem eqv_dry_over : PyData.eqv (.str "dry") (.str "over") = false := by
  simp only [PyData.eqv]
  decide +kernel
def kS (s : S) : NestedKey × PyData := (.tup s.kl, .bool true)
theorem lookN_seen (l : List S) (s : S) : (lookN (l.map kS) (.tup s.kl)).isSome = decide (s ∈ l) := by
  unfold lookN
  induction l with
  | nil => simp
  | cons x l ih =>
    rw [List.map_cons, List.find?_cons]
    by_cases h : x = s
    · subst h
      simp [kS]
    · have e : decide ((kS x).1 = NestedKey.tup s.kl) = false := by
        simp only [kS, decide_eq_false_iff_not, NestedKey.tup.injEq]
        exact fun z => h (S.kl_inj z)
      rw [e]
      simp only [List.mem_cons]
      rw [ih]
      simp [Ne.symm h]
def vLs (left : Int) : PyData → PyData
  | .tuple [t, f] => .tuple [t, .tuple [f, .int (left - 1)]]
  | d => d
theorem vLs_map (n : Nd) (h : 0 < n.2) : ((losses n.1).map Ls.d).map (vLs n.2) = (lossTh n).map Th.d := by
  rw [lossTh, if_pos h, List.map_map, List.map_map]
  rfl
theorem lfree_nd (n : Nd) : lfree n.d = true := by simp [Nd.d, lfree, lfreeAll, lfree_S]
theorem lfree_th (t : Th) (h : lfree t.1 = true) : lfree t.d = true := by
  obtain ⟨a, b⟩ := t
  show (lfree a && (lfree (ndO b) && true)) = true
  rw [show lfree a = true from h]
  cases b with
  | none => rfl
  | some n => simp [ndO, lfree_nd]
theorem lossTh_free (n : Nd) : ∀ t ∈ lossTh n, lfree t.1 = true := fun t h => by
  unfold lossTh at h
  split at h
  · obtain ⟨x, hx, rfl⟩ := List.mem_map.mp h
    exact losses_free n.1 x hx
  · cases h
theorem beatP_free (v : Wl) (n : Nd) : ∀ (l : List Int) (k : List S), ∀ t ∈ beatP v n l k, lfree t.1 = true
  | [], _, t, h => by cases h
  | i :: r, k, t, h => by
    unfold beatP at h
    split at h
    · simp at h; subst h; rfl
    · exact beatP_free v n r k t h
    · split at h
      · exact beatP_free v n r k t h
      · rcases List.mem_cons.mp h with rfl | h
        · rfl
        · exact beatP_free v n r _ t h
theorem thP_free (v : Wl) (lo hi : Int) (n : Nd) : lfreeAll ((thP v lo hi n).map Th.d) = true := lfreeAll_mem fun d hd => by
  obtain ⟨t, ht, rfl⟩ := List.mem_map.mp hd
  refine lfree_th t ?_
  rcases List.mem_append.mp ht with h | h
  · exact lossTh_free n t h
  · exact beatP_free v n _ _ t h
theorem beat1_free (v : Wl) (n : Nd) (i : Int) : ∀ t ∈ beat1 v n i, lfree t.1 = true := fun t h => by
  unfold beat1 at h
  split at h <;> simp at h <;> subst h <;> rfl
theorem thL_free (v : Wl) (lo hi : Int) (n : Nd) : lfreeAll ((thL v lo hi n).map Th.d) = true := lfreeAll_mem fun d hd => by
  obtain ⟨t, ht, rfl⟩ := List.mem_map.mp hd
  refine lfree_th t ?_
  rcases List.mem_append.mp ht with h | h
  · exact lossTh_free n t h
  · obtain ⟨i, _, h⟩ := List.mem_flatMap.mp h
    exact beat1_free v n i t h
theorem lossTh_len (n : Nd) {v : Wl} (hv : v.Ok) (hs : n.1.Ok v) : (lossTh n).length ≤ 10 := by
  unfold lossTh
  split
  · rw [List.length_map, losses, List.length_append, List.length_append]
    have h1 := len_flat (lossOn n.1) (lossOn_len n.1) n.1.on.length
    have h2 := len_flat (lossOff n.1) (lossOff_len n.1) n.1.off.length
    have h3 : (lossRdy n.1).length ≤ 1 := by unfold lossRdy; split <;> simp
    have := hs.on.1; have := hv.run; have := hs.off.1; have := hv.rest
    omega
  · simp
abbrev Tg := Wl × Nd × Int × Int
def Tg.Ok (a : Tg) : Prop := a.1.Ok ∧ a.2.1.1.Ok a.1 ∧ 0 ≤ a.2.2.1 ∧ a.2.2.1 ≤ a.2.2.2 ∧ a.2.2.2 ≤ 10
theorem rngD_eq (lo hi : Int) : rngD lo (hi + 1 - lo).toNat = (rng lo hi).map .int := by
  unfold rngD rng
  rw [List.map_map]
  rfl
section
variable {P : Program} {w : World} {K : PySem.W.Frag} {mg : Str → Option Value} {base : Heap} {C1 C2 C3 : Addr}
theorem eca_after {C : Ct} {Γ : List SV} {Δ : Dl} {W : WX} {t0 t1 t2 : TE} {v : Wl} {s : S} {i : Int} (h : Pt.Ok (v, s)) (h0 : EV C Γ Δ t0 v.d) (h1 : EV C Γ Δ t1 s.d) (h2 : EV C Γ Δ t2 (.int i)) : EV C Γ Δ (tCallS (sp_after_in C.P C.w C.K) (WE W) (tCons t0 (tCons t1 (tCons t2 tNil)))) (stepF v s i).d :=
  x_call (α := Ps) ((v, s), i) (eva_cons h0 (eva_cons h1 (eva_cons h2 eva_nil))) h (lfree_out _)
theorem eca_losses {C : Ct} {Γ : List SV} {Δ : Dl} {W : WX} {t0 : TE} {v : Wl} {s : S} (h : Pt.Ok (v, s)) (h0 : EV C Γ Δ t0 s.d) : EVL C Γ Δ (tCallS (sp_losses C.P C.w C.K) (WE W) (tCons t0 tNil)) ((losses s).map Ls.d) :=
  x_callL (α := Pt) (v, s) (eva_cons h0 eva_nil) h (lfreeAll_mem fun d hd => by
    obtain ⟨x, hx, rfl⟩ := List.mem_map.mp hd
    exact lfree_ls x (losses_free s x hx))
abbrev sp_things_of (P : Program) (w : World) (K : PySem.W.Frag) : Sp := ASp (α := Tg) P w K (fun a => [a.1.d, a.2.1.d, .int a.2.2.1, .int a.2.2.2]) Tg.Ok fun a r => r = .lst ((thP a.1 a.2.2.1 a.2.2.2 a.2.1).map Th.d)
theorem ok_things_of {f : Addr} {fd : FuncData} (T : Tx P K mg C1 C2 C3) (F : Fun K "things_of" "things_of" s_things_of f fd) (c_after_in : Cl P w K mg base 3 "after_in" (sp_after_in P w K)) (c_losses_of : Cl P w K mg base 3 "losses_of" (sp_losses P w K)) : FnG P w K mg base 4 f fd ["well", "pair", "low", "high"] (sp_things_of P w K) := by
  refine body_g F sc_things_of (fun a => rfl) (fun cdv ar up z H Q E hgd hr => ⟨_, (pss_cons (ps_asg (pv 1) (gTupT (n := 2) (P := P) (w := w) (K := K) ⟨rfl, rfl, rfl⟩ rfl (pgs_cons (pg_name (i := 4) sc_things_of.nd rfl (by first | exact Or.inl rfl | exact Or.inr rfl)) (pgs_cons (pg_name (i := 5) sc_things_of.nd rfl (by first | exact Or.inl rfl | exact Or.inr rfl)) pgs_nil)) rfl rfl)) (pss_cons (ps_set (i := 6) sc_things_of.nd rfl (by first | exact Or.inl rfl | exact Or.inr rfl) (pe_ifExp (pt_cmpR op_gt (pv 5) pe_int (nomark _)) (pe_lc (own := [("thing", 10), ("fresh", 9)]) rfl sc_things_of.nd (gIt (P := P) (w := w) (K := K) ⟨rfl, rfl, rfl⟩ (gCl (P := P) (w := w) (K := K) ⟨rfl, rfl, rfl⟩ rfl rfl c_losses_of hr hgd (by rfl) takesF (pa_cons (pv 4) pa_nil))) (blkOk_by (N := ["well", "pair", "low", "high", "state", "left", "found", "known", "inflow", "fresh", "thing"]) (sc := defScope s_things_of) (by decide +kernel)) (fun _ _ _ _ _ => (gTupT (n := 2) (P := P) (w := w) (K := K) ⟨rfl, rfl, rfl⟩ rfl (pgs_cons (pg_name (i := 10) sc_things_of.nd rfl (by first | exact Or.inl rfl | exact Or.inr rfl)) (pgs_cons (pg_name (i := 9) sc_things_of.nd rfl (by first | exact Or.inl rfl | exact Or.inr rfl)) pgs_nil)) rfl rfl)) (fun _ _ _ _ _ => pts_nil) (fun _ _ _ _ _ => (pe_tup (pa_cons (pv 10) (pa_cons (pe_tup (pa_cons (pv 9) (pa_cons (pe_op op_sub (pv 5) pe_int) pa_nil))) pa_nil))))) (pe_lst pa_nil))) (pss_cons (ps_set (i := 7) sc_things_of.nd rfl (by first | exact Or.inl rfl | exact Or.inr rfl) (gDisp0 (P := P) (w := w) (K := K) ⟨rfl, rfl, rfl⟩)) (pss_cons (ps_for (passes_of rfl) rfl (pi_range2 (by rfl) T.b_range (pa_cons (pv 2) (pa_cons (pe_op (gAdd (P := P) (w := w) (K := K) ⟨rfl, rfl, rfl⟩) (pv 3) pe_int) pa_nil))) (pg_name (i := 8) sc_things_of.nd rfl (by first | exact Or.inl rfl | exact Or.inr rfl)) (pss_cons (ps_set (i := 9) sc_things_of.nd rfl (by first | exact Or.inl rfl | exact Or.inr rfl) (gCl (P := P) (w := w) (K := K) ⟨rfl, rfl, rfl⟩ rfl rfl c_after_in hr hgd (by rfl) takesF (pa_cons (pv 0) (pa_cons (pv 4) (pa_cons (pv 8) pa_nil))))) (pss_cons (ps_if (pt_cmpR (gEq (P := P) (w := w) (K := K) ⟨rfl, rfl, rfl⟩ (hu65 hr)) (pv 9) (pe_k (by rfl) T.c_OVER_crews) (nomark _)) (pss_one (ps_ret (pe_op (gAdd (P := P) (w := w) (K := K) ⟨rfl, rfl, rfl⟩) (pv 6) (pe_lst (pa_cons (pe_tup (pa_cons (pe_tup (pa_cons pe_str (pa_cons (pv 8) pa_nil))) (pa_cons (pe_k (by rfl) T.c_OVER_crews) pa_nil))) pa_nil))))) pss_nil) (pss_one (ps_if (PW.pt (pw_and (pt_val (gIsinst (P := P) (w := w) (K := K) ⟨rfl, rfl, rfl⟩ (by rfl) T.b_isinstance (pv 9) (pe_bltn (v := .ty "tuple") (by rfl) T.b_tuple boot_ty_tuple rfl))) (pw_and1 (pt_cmpR (gNin (P := P) (w := w) (K := K) ⟨rfl, rfl, rfl⟩ (hu65 hr)) (pv 9) (pv 7) (by rfl))))) (pss_cons (ps_asg pe_bl (pg_sub (pv 7) (pv 9) (gPut (P := P) (w := w) (K := K) ⟨rfl, rfl, rfl⟩ (hu64 hr)))) (pss_one (ps_expr (pe_bm PySem.F.plainAttrs_list PySem.F.slot_list_append PySem.F.type_list_append mt_append (pv 6) (pa_cons (pe_tup (pa_cons (pe_tup (pa_cons pe_str (pa_cons (pv 8) pa_nil))) (pa_cons (pe_tup (pa_cons (pv 9) (pa_cons (pv 5) pa_nil))) pa_nil))) pa_nil))))) pss_nil))))) (pss_one (ps_ret (pv 6))))))), fun v hv hq => ?_⟩)
  obtain ⟨v, ⟨s, left⟩, lo, hi⟩ := v
  replace hq : RsOk P w K H Q E (.lst ((thP v lo hi (s, left)).map Th.d)) := hq _ rfl
  obtain ⟨hv, hs, hlo, hlh, hhi⟩ : v.Ok ∧ s.Ok v ∧ 0 ≤ lo ∧ lo ≤ hi ∧ hi ≤ 10 := hv
  have hl := lossTh_len (s, left) hv hs
  show Nx _ [.dat v.d, .dat (Nd.d (s, left)), .dat (.int lo), .dat (.int hi), .any, .any, .any, .any, .any, .any, .any] _ _
  (try dsimp only [List.set, setAll])
  refine nx_sq ?_
  refine nx_unpack (js := [4, 5]) (ds := [s.d, .int left]) (ev_var rfl) rfl rfl ?_
  (try dsimp only [List.set, setAll])
  refine nx_sq ?_
  refine nx_asgL (ds := (lossTh (s, left)).map Th.d) (ev_ifL (b := decide (0 < left)) ?_ (fun h => ?_) (fun h => ?_)) fun p => ?_
  · (repeat' (first
      | exact hix | exact hix2 | exact hix3 | exact hix4
      | ((with_reducible apply ev_var) <;> rfl)
      | (with_reducible exact ev_int) | (with_reducible exact ev_bl) | (with_reducible exact ev_str) | (with_reducible exact ev_non) | (with_reducible exact eva_nil) | (with_reducible exact evo_none)
      | (with_reducible (first | apply eva_cons | apply ev_tup | apply evo_some | apply x_add | apply e_sub | apply x_mul | apply ev_mod | apply ev_neg | apply e_div))
      | refine e_lenN (evm_var rfl) rfl ?_
      | (with_reducible (first | apply x_len | apply x_ix | apply x_sl | apply ev_isN | apply ev_notN | apply ev_eqD | apply ev_neD | apply e_lt | apply ev_le | apply ev_gt | apply ev_ge | apply ev_isInt | apply ev_isBool | apply ev_isTup | apply ev_isStr | apply ec_whole | apply eca_counts | apply eca_levels | exact ⟨rfl, rfl⟩ | apply ev_min | apply ev_intc | apply ev_sumT | apply evt_B | apply evt_test | apply evt_not | apply evt_and | apply evt_or | apply ev_andV | apply ev_orV | apply ev_notV | apply ev_ite | intro _ | exact True.intro | rfl))
      | exact True.intro | exact ⟨rfl, rfl⟩ | exact Nat.le_of_ble_eq_true rfl | rfl))
  · rw [← vLs_map (s, left) (of_decide_eq_true h)]
    refine evl_map (vLs left) (w_list (evl_ev (eca_losses (v := v) ⟨hv, hs⟩ (ev_var rfl)))) (by simp only [List.length_map]; simp only [lossTh, if_pos (of_decide_eq_true h), List.length_map] at hl; omega) fun D hs' acc d hd => ?_
    obtain ⟨x, hx, rfl⟩ := List.mem_map.mp hd
    refine ⟨[10, 9], _, tg_tup rfl rfl, by decide, ?_⟩
    show EV _ _ _ _ (.tuple [x.1, .tuple [x.2.d, .int (left - 1)]])
    (repeat' (first
      | exact hix | exact hix2 | exact hix3 | exact hix4
      | ((with_reducible apply ev_var) <;> rfl)
      | (with_reducible exact ev_int) | (with_reducible exact ev_bl) | (with_reducible exact ev_str) | (with_reducible exact ev_non) | (with_reducible exact eva_nil) | (with_reducible exact evo_none)
      | (with_reducible (first | apply eva_cons | apply ev_tup | apply evo_some | apply x_add | apply e_sub | apply x_mul | apply ev_mod | apply ev_neg | apply e_div))
      | refine e_lenN (evm_var rfl) rfl ?_
      | (with_reducible (first | apply x_len | apply x_ix | apply x_sl | apply ev_isN | apply ev_notN | apply ev_eqD | apply ev_neD | apply e_lt | apply ev_le | apply ev_gt | apply ev_ge | apply ev_isInt | apply ev_isBool | apply ev_isTup | apply ev_isStr | apply ec_whole | apply eca_counts | apply eca_levels | exact ⟨rfl, rfl⟩ | apply ev_min | apply ev_intc | apply ev_sumT | apply evt_B | apply evt_test | apply evt_not | apply evt_and | apply evt_or | apply ev_andV | apply ev_orV | apply ev_notV | apply ev_ite | intro _ | exact True.intro | rfl))
      | exact True.intro | exact ⟨rfl, rfl⟩ | exact Nat.le_of_ble_eq_true rfl | rfl))
  · have h' : ¬ 0 < left := of_decide_eq_false h
    have e : (lossTh (s, left)).map Th.d = [] := by simp [lossTh, h']
    rw [e]
    exact evl_lst eva_nil (Nat.zero_le _)
  (try dsimp only [List.set, setAll])
  refine nx_sq ?_
  refine nx_asgK k_disp0 fun q => ?_
  (try dsimp only [List.set, setAll])
  refine nx_sq ?_
  refine nx_for (wd_rng2 (i := lo) (j := hi + 1) ?_ (by omega) (by omega)) (fun i Γ Δ => ∃ (acc : List Th) (seen : List S) (a b c : SV), thP v lo hi (s, left) = acc ++ beatP v (s, left) ((rng lo hi).drop i) seen ∧ acc.length ≤ 10 + i ∧ seen.length ≤ i ∧
      Γ = [.dat v.d, .dat (Nd.d (s, left)), .dat (.int lo), .dat (.int hi), .dat s.d, .dat (.int left), .loc p, .loc q, a, b, c] ∧ Δ = [(q, .md (seen.map kS)), (p, .ml (acc.map Th.d))])
    ⟨lossTh (s, left), [], _, _, _, rfl, hl, Nat.le_refl _, rfl, rfl⟩ ?_ ?_
  · (repeat' (first
      | exact hix | exact hix2 | exact hix3 | exact hix4
      | ((with_reducible apply ev_var) <;> rfl)
      | (with_reducible exact ev_int) | (with_reducible exact ev_bl) | (with_reducible exact ev_str) | (with_reducible exact ev_non) | (with_reducible exact eva_nil) | (with_reducible exact evo_none)
      | (with_reducible (first | apply eva_cons | apply ev_tup | apply evo_some | apply x_add | apply e_sub | apply x_mul | apply ev_mod | apply ev_neg | apply e_div))
      | refine e_lenN (evm_var rfl) rfl ?_
      | (with_reducible (first | apply x_len | apply x_ix | apply x_sl | apply ev_isN | apply ev_notN | apply ev_eqD | apply ev_neD | apply e_lt | apply ev_le | apply ev_gt | apply ev_ge | apply ev_isInt | apply ev_isBool | apply ev_isTup | apply ev_isStr | apply ec_whole | apply eca_counts | apply eca_levels | exact ⟨rfl, rfl⟩ | apply ev_min | apply ev_intc | apply ev_sumT | apply evt_B | apply evt_test | apply evt_not | apply evt_and | apply evt_or | apply ev_andV | apply ev_orV | apply ev_notV | apply ev_ite | intro _ | exact True.intro | rfl))
      | exact True.intro | exact ⟨rfl, rfl⟩ | exact Nat.le_of_ble_eq_true rfl | rfl))
  · rintro hs' i d Γ Δ hd ⟨acc, seen, a, b, c, hacc, hal, hsl, rfl, rfl⟩
    rw [rngD_eq, List.getElem?_map] at hd
    obtain ⟨x, hx, rfl⟩ := Option.map_eq_some_iff.mp hd
    have hi' : i < (rng lo hi).length := (List.getElem?_eq_some_iff.mp hx).1
    have hlen : (rng lo hi).length ≤ 11 := by simp [rng]; omega
    have hdr : (rng lo hi).drop i = x :: (rng lo hi).drop (i + 1) := by
      rw [List.drop_eq_getElem_cons hi', (List.getElem?_eq_some_iff.mp hx).2]
    rw [hdr] at hacc
    refine ⟨[8], _, tg_name, ?_⟩
    (try dsimp only [List.set, setAll])
    refine nx_sq ?_
    refine nx_asg (eca_after (v := v) (s := s) (i := x) ⟨hv, hs⟩ (ev_var rfl) (ev_var rfl) (ev_var rfl)) ?_
    (try dsimp only [List.set, setAll])
    refine nx_sq ?_
    have hsh := Out.shaped (stepF v s x)
    cases ho : stepF v s x with
    | over =>
      rw [ho] at hsh
      refine nx_ifT (evt_test (ev_eqD (ev_var rfl) ev_str hsh over_shaped)) eqv_over_over ?_
      refine nx_retL (l_catM (k := 1) (evm_var rfl) rfl (evl_lst (ds := [Th.d (thBeat x, none)]) (eva_cons ?_ eva_nil) (Nat.le_of_ble_eq_true rfl)) (by simp; omega)) (rtL_of (E := E) rfl ?_)
      · show EV _ _ _ _ (.tuple [.tuple [.str "beat", .int x], .str "over"])
        (repeat' (first
      | exact hix | exact hix2 | exact hix3 | exact hix4
      | ((with_reducible apply ev_var) <;> rfl)
      | (with_reducible exact ev_int) | (with_reducible exact ev_bl) | (with_reducible exact ev_str) | (with_reducible exact ev_non) | (with_reducible exact eva_nil) | (with_reducible exact evo_none)
      | (with_reducible (first | apply eva_cons | apply ev_tup | apply evo_some | apply x_add | apply e_sub | apply x_mul | apply ev_mod | apply ev_neg | apply e_div))
      | refine e_lenN (evm_var rfl) rfl ?_
      | (with_reducible (first | apply x_len | apply x_ix | apply x_sl | apply ev_isN | apply ev_notN | apply ev_eqD | apply ev_neD | apply e_lt | apply ev_le | apply ev_gt | apply ev_ge | apply ev_isInt | apply ev_isBool | apply ev_isTup | apply ev_isStr | apply ec_whole | apply eca_counts | apply eca_levels | exact ⟨rfl, rfl⟩ | apply ev_min | apply ev_intc | apply ev_sumT | apply evt_B | apply evt_test | apply evt_not | apply evt_and | apply evt_or | apply ev_andV | apply ev_orV | apply ev_notV | apply ev_ite | intro _ | exact True.intro | rfl))
      | exact True.intro | exact ⟨rfl, rfl⟩ | exact Nat.le_of_ble_eq_true rfl | rfl))
      · have e : acc.map Th.d ++ [Th.d (thBeat x, none)] = (thP v lo hi (s, left)).map Th.d := by
          rw [hacc]
          simp [beatP, ho]
        rw [e]
        exact hq
    | dry =>
      rw [ho] at hsh
      refine nx_ifF (evt_test (ev_eqD (ev_var rfl) ev_str hsh over_shaped)) eqv_dry_over (nx_nx ?_)
      (try dsimp only [List.set, setAll])
      refine nx_ifF (evt_andF (evt_B (ev_isTup (ev_var rfl))) rfl) rfl (nx_nx ?_)
      (try dsimp only [List.set, setAll])
      refine nx_li ⟨acc, seen, _, _, _, ?_, by omega, by omega, rfl, rfl⟩
      rw [hacc]
      simp [beatP, ho]
    | st s' =>
      rw [ho] at hsh
      refine nx_ifF (evt_test (ev_eqD (ev_var rfl) ev_str hsh over_shaped)) (eqv_over_st s') (nx_nx ?_)
      (try dsimp only [List.set, setAll])
      have hk : EV ⟨K, P, w, H⟩ [.dat v.d, .dat (Nd.d (s, left)), .dat (.int lo), .dat (.int hi), .dat s.d, .dat (.int left), .loc p, .loc q, .dat (.int x), .dat s'.d, c] ([(q, .md (seen.map kS)), (p, .ml (acc.map Th.d))] ++ hs') (tVar 9) (NestedKey.tup s'.kl).data := (ev_var rfl).to (S.kl_data s').symm
      have hdp : (NestedKey.tup s'.kl).depth ≤ 8 := by have := s'.kl_depth; omega
      by_cases hm : s' ∈ seen
      · refine nx_ifF (evt_andT (evt_B (ev_isTup (ev_var rfl))) rfl (evt_test (e_ninN (k := 0) hk hdp (evm_var rfl) rfl))) (by rw [lookN_seen]; simp [hm]) (nx_nx ?_)
        (try dsimp only [List.set, setAll])
        refine nx_li ⟨acc, seen, _, _, _, ?_, by omega, by omega, rfl, rfl⟩
        rw [hacc]
        simp [beatP, ho, hm]
      · have hno : lookN (seen.map kS) (.tup s'.kl) = none := by
          have z := lookN_seen seen s'
          rw [decide_eq_false hm] at z
          exact Option.isNone_iff_eq_none.mp (by simpa using z)
        refine nx_ifT (evt_andT (evt_B (ev_isTup (ev_var rfl))) rfl (evt_test (e_ninN (k := 0) hk hdp (evm_var rfl) rfl))) (by rw [lookN_seen]; simp [hm]) ?_
        refine nx_sq (nx_putN (k := 0) ev_bl (evm_var rfl) hk hdp rfl (by simp; omega) ?_)
        (try dsimp only [List.set, setAll])
        rw [putN_new hno]
        refine nx_app (k := 1) (evm_var rfl) (d := Th.d (thBeat x, some (s', left))) ?_ rfl (by simp; omega) ?_
        · show EV _ _ _ _ (.tuple [.tuple [.str "beat", .int x], .tuple [s'.d, .int left]])
          (repeat' (first
      | exact hix | exact hix2 | exact hix3 | exact hix4
      | ((with_reducible apply ev_var) <;> rfl)
      | (with_reducible exact ev_int) | (with_reducible exact ev_bl) | (with_reducible exact ev_str) | (with_reducible exact ev_non) | (with_reducible exact eva_nil) | (with_reducible exact evo_none)
      | (with_reducible (first | apply eva_cons | apply ev_tup | apply evo_some | apply x_add | apply e_sub | apply x_mul | apply ev_mod | apply ev_neg | apply e_div))
      | refine e_lenN (evm_var rfl) rfl ?_
      | (with_reducible (first | apply x_len | apply x_ix | apply x_sl | apply ev_isN | apply ev_notN | apply ev_eqD | apply ev_neD | apply e_lt | apply ev_le | apply ev_gt | apply ev_ge | apply ev_isInt | apply ev_isBool | apply ev_isTup | apply ev_isStr | apply ec_whole | apply eca_counts | apply eca_levels | exact ⟨rfl, rfl⟩ | apply ev_min | apply ev_intc | apply ev_sumT | apply evt_B | apply evt_test | apply evt_not | apply evt_and | apply evt_or | apply ev_andV | apply ev_orV | apply ev_notV | apply ev_ite | intro _ | exact True.intro | rfl))
      | exact True.intro | exact ⟨rfl, rfl⟩ | exact Nat.le_of_ble_eq_true rfl | rfl))
        · show Nx _ _ ([(q, MO.md (_ ++ [_])), (p, MO.ml (_ ++ [_]))] ++ hs') _
          refine nx_li ⟨acc ++ [(thBeat x, some (s', left))], seen ++ [s'], _, _, _, ?_, by simp; omega, by simp; omega, rfl, ?_⟩
          · rw [hacc]
            simp [beatP, ho, hm]
          · simp [kS]
  · rintro Γ Δ ⟨acc, seen, a, b, c, hacc, hal, hsl, rfl, rfl⟩
    have e : (rngD lo (hi + 1 - lo).toNat).length = (rng lo hi).length := by rw [rngD_eq, List.length_map]
    rw [e, List.drop_length] at hacc
    (try dsimp only [List.set, setAll])
    refine nx_retM (k := 1) (evm_var rfl) rfl (rtL_of (E := E) rfl ?_)
    have e2 : acc = thP v lo hi (s, left) := by rw [hacc]; simp [beatP]
    rw [e2]
    exact hq
theorem eqv_st_dry (s : S) : PyData.eqv s.d (.str "dry") = false := by simp [S.d, PyData.eqv]
theorem eqv_dry_dry : PyData.eqv (.str "dry") (.str "dry") = true := by simp [PyData.eqv]
theorem eca_step {C : Ct} {Γ : List SV} {Δ : Dl} {W : WX} {t0 t1 t2 : TE} {v : Wl} {s : S} {i : Int} (h : Pt.Ok (v, s)) (h0 : EV C Γ Δ t0 v.d) (h1 : EV C Γ Δ t1 s.d) (h2 : EV C Γ Δ t2 (.int i)) : EV C Γ Δ (tCallS (sp_law_step C.P C.w C.K) (WE W) (tCons t0 (tCons t1 (tCons t2 tNil)))) (stepF v s i).d :=
  x_call (α := Ps) ((v, s), i) (eva_cons h0 (eva_cons h1 (eva_cons h2 eva_nil))) h (lfree_out _)
abbrev sp_law_things (P : Program) (w : World) (K : PySem.W.Frag) : Sp := ASp (α := Tg) P w K (fun a => [a.1.d, a.2.1.d, .int a.2.2.1, .int a.2.2.2]) Tg.Ok fun a r => r = .lst ((thL a.1 a.2.2.1 a.2.2.2 a.2.1).map Th.d)
theorem beat1_len (v : Wl) (n : Nd) (i : Int) : (beat1 v n i).length ≤ 1 := by unfold beat1; split <;> simp
theorem ok_law_things {f : Addr} {fd : FuncData} (T : Tx P K mg C1 C2 C3) (F : Fun K "_law_things" "_law_things" s__law_things f fd) (c__law_step : Cl P w K mg base 3 "_law_step" (sp_law_step P w K)) (c__law_losses : Cl P w K mg base 3 "_law_losses" (sp_losses P w K)) : FnG P w K mg base 4 f fd ["_law_well_here", "_law_pair", "_law_low", "_law_high"] (sp_law_things P w K) := by
  refine body_g F sc__law_things (fun a => rfl) (fun cdv ar up z H Q E hgd hr => ⟨_, (pss_cons (ps_asg (pv 1) (gTupT (n := 2) (P := P) (w := w) (K := K) ⟨rfl, rfl, rfl⟩ rfl (pgs_cons (pg_name (i := 4) sc__law_things.nd rfl (by first | exact Or.inl rfl | exact Or.inr rfl)) (pgs_cons (pg_name (i := 5) sc__law_things.nd rfl (by first | exact Or.inl rfl | exact Or.inr rfl)) pgs_nil)) rfl rfl)) (pss_cons (ps_set (i := 6) sc__law_things.nd rfl (by first | exact Or.inl rfl | exact Or.inr rfl) (pe_ifExp (pt_cmpR op_gt (pv 5) pe_int (nomark _)) (pe_lc (own := [("_law_thing", 9), ("_law_fresh", 8)]) rfl sc__law_things.nd (gIt (P := P) (w := w) (K := K) ⟨rfl, rfl, rfl⟩ (gCl (P := P) (w := w) (K := K) ⟨rfl, rfl, rfl⟩ rfl rfl c__law_losses hr hgd (by rfl) takesF (pa_cons (pv 4) pa_nil))) (blkOk_by (N := ["_law_well_here", "_law_pair", "_law_low", "_law_high", "_law_state", "_law_left", "_law_found", "_law_inflow", "_law_fresh", "_law_thing"]) (sc := defScope s__law_things) (by decide +kernel)) (fun _ _ _ _ _ => (gTupT (n := 2) (P := P) (w := w) (K := K) ⟨rfl, rfl, rfl⟩ rfl (pgs_cons (pg_name (i := 9) sc__law_things.nd rfl (by first | exact Or.inl rfl | exact Or.inr rfl)) (pgs_cons (pg_name (i := 8) sc__law_things.nd rfl (by first | exact Or.inl rfl | exact Or.inr rfl)) pgs_nil)) rfl rfl)) (fun _ _ _ _ _ => pts_nil) (fun _ _ _ _ _ => (pe_tup (pa_cons (pv 9) (pa_cons (pe_tup (pa_cons (pv 8) (pa_cons (pe_op op_sub (pv 5) pe_int) pa_nil))) pa_nil))))) (pe_lst pa_nil))) (pss_cons (ps_for (passes_of rfl) rfl (pi_range2 (by rfl) T.b_range (pa_cons (pv 2) (pa_cons (pe_op (gAdd (P := P) (w := w) (K := K) ⟨rfl, rfl, rfl⟩) (pv 3) pe_int) pa_nil))) (pg_name (i := 7) sc__law_things.nd rfl (by first | exact Or.inl rfl | exact Or.inr rfl)) (pss_cons (ps_set (i := 8) sc__law_things.nd rfl (by first | exact Or.inl rfl | exact Or.inr rfl) (gCl (P := P) (w := w) (K := K) ⟨rfl, rfl, rfl⟩ rfl rfl c__law_step hr hgd (by rfl) takesF (pa_cons (pv 0) (pa_cons (pv 4) (pa_cons (pv 7) pa_nil))))) (pss_one (ps_if (pt_cmpR (gEq (P := P) (w := w) (K := K) ⟨rfl, rfl, rfl⟩ (hu65 hr)) (pv 8) pe_str (nomark _)) (pss_one (ps_expr (pe_bm PySem.F.plainAttrs_list PySem.F.slot_list_append PySem.F.type_list_append mt_append (pv 6) (pa_cons (pe_tup (pa_cons (pe_tup (pa_cons pe_str (pa_cons (pv 7) pa_nil))) (pa_cons pe_str pa_nil))) pa_nil)))) (pss_one (ps_if (pt_cmpR (gNe (P := P) (w := w) (K := K) ⟨rfl, rfl, rfl⟩ (hu65 hr)) (pv 8) pe_str (nomark _)) (pss_one (ps_expr (pe_bm PySem.F.plainAttrs_list PySem.F.slot_list_append PySem.F.type_list_append mt_append (pv 6) (pa_cons (pe_tup (pa_cons (pe_tup (pa_cons pe_str (pa_cons (pv 7) pa_nil))) (pa_cons (pe_tup (pa_cons (pv 8) (pa_cons (pv 5) pa_nil))) pa_nil))) pa_nil)))) pss_nil)))))) (pss_one (ps_ret (pv 6)))))), fun v hv hq => ?_⟩)
  obtain ⟨v, ⟨s, left⟩, lo, hi⟩ := v
  replace hq : RsOk P w K H Q E (.lst ((thL v lo hi (s, left)).map Th.d)) := hq _ rfl
  obtain ⟨hv, hs, hlo, hlh, hhi⟩ : v.Ok ∧ s.Ok v ∧ 0 ≤ lo ∧ lo ≤ hi ∧ hi ≤ 10 := hv
  have hl := lossTh_len (s, left) hv hs
  show Nx _ [.dat v.d, .dat (Nd.d (s, left)), .dat (.int lo), .dat (.int hi), .any, .any, .any, .any, .any, .any] _ _
  (try dsimp only [List.set, setAll])
  refine nx_sq ?_
  refine nx_unpack (js := [4, 5]) (ds := [s.d, .int left]) (ev_var rfl) rfl rfl ?_
  (try dsimp only [List.set, setAll])
  refine nx_sq ?_
  refine nx_asgL (ds := (lossTh (s, left)).map Th.d) (ev_ifL (b := decide (0 < left)) ?_ (fun h => ?_) (fun h => ?_)) fun p => ?_
  · (repeat' (first
      | exact hix | exact hix2 | exact hix3 | exact hix4
      | ((with_reducible apply ev_var) <;> rfl)
      | (with_reducible exact ev_int) | (with_reducible exact ev_bl) | (with_reducible exact ev_str) | (with_reducible exact ev_non) | (with_reducible exact eva_nil) | (with_reducible exact evo_none)
      | (with_reducible (first | apply eva_cons | apply ev_tup | apply evo_some | apply x_add | apply e_sub | apply x_mul | apply ev_mod | apply ev_neg | apply e_div))
      | refine e_lenN (evm_var rfl) rfl ?_
      | (with_reducible (first | apply x_len | apply x_ix | apply x_sl | apply ev_isN | apply ev_notN | apply ev_eqD | apply ev_neD | apply e_lt | apply ev_le | apply ev_gt | apply ev_ge | apply ev_isInt | apply ev_isBool | apply ev_isTup | apply ev_isStr | apply ec_whole | apply eca_counts | apply eca_levels | exact ⟨rfl, rfl⟩ | apply ev_min | apply ev_intc | apply ev_sumT | apply evt_B | apply evt_test | apply evt_not | apply evt_and | apply evt_or | apply ev_andV | apply ev_orV | apply ev_notV | apply ev_ite | intro _ | exact True.intro | rfl))
      | exact True.intro | exact ⟨rfl, rfl⟩ | exact Nat.le_of_ble_eq_true rfl | rfl))
  · rw [← vLs_map (s, left) (of_decide_eq_true h)]
    refine evl_map (vLs left) (w_list (evl_ev (eca_losses (v := v) ⟨hv, hs⟩ (ev_var rfl)))) (by simp only [List.length_map]; simp only [lossTh, if_pos (of_decide_eq_true h), List.length_map] at hl; omega) fun D hs' acc d hd => ?_
    obtain ⟨x, hx, rfl⟩ := List.mem_map.mp hd
    refine ⟨[9, 8], _, tg_tup rfl rfl, by decide, ?_⟩
    show EV _ _ _ _ (.tuple [x.1, .tuple [x.2.d, .int (left - 1)]])
    (repeat' (first
      | exact hix | exact hix2 | exact hix3 | exact hix4
      | ((with_reducible apply ev_var) <;> rfl)
      | (with_reducible exact ev_int) | (with_reducible exact ev_bl) | (with_reducible exact ev_str) | (with_reducible exact ev_non) | (with_reducible exact eva_nil) | (with_reducible exact evo_none)
      | (with_reducible (first | apply eva_cons | apply ev_tup | apply evo_some | apply x_add | apply e_sub | apply x_mul | apply ev_mod | apply ev_neg | apply e_div))
      | refine e_lenN (evm_var rfl) rfl ?_
      | (with_reducible (first | apply x_len | apply x_ix | apply x_sl | apply ev_isN | apply ev_notN | apply ev_eqD | apply ev_neD | apply e_lt | apply ev_le | apply ev_gt | apply ev_ge | apply ev_isInt | apply ev_isBool | apply ev_isTup | apply ev_isStr | apply ec_whole | apply eca_counts | apply eca_levels | exact ⟨rfl, rfl⟩ | apply ev_min | apply ev_intc | apply ev_sumT | apply evt_B | apply evt_test | apply evt_not | apply evt_and | apply evt_or | apply ev_andV | apply ev_orV | apply ev_notV | apply ev_ite | intro _ | exact True.intro | rfl))
      | exact True.intro | exact ⟨rfl, rfl⟩ | exact Nat.le_of_ble_eq_true rfl | rfl))
  · have h' : ¬ 0 < left := of_decide_eq_false h
    have e : (lossTh (s, left)).map Th.d = [] := by simp [lossTh, h']
    rw [e]
    exact evl_lst eva_nil (Nat.zero_le _)
  (try dsimp only [List.set, setAll])
  refine nx_sq ?_
  refine nx_for (wd_rng2 (i := lo) (j := hi + 1) ?_ (by omega) (by omega)) (fun i Γ Δ => ∃ (acc : List Th) (a b c : SV), thL v lo hi (s, left) = acc ++ ((rng lo hi).drop i).flatMap (beat1 v (s, left)) ∧ acc.length ≤ 10 + i ∧
      Γ = [.dat v.d, .dat (Nd.d (s, left)), .dat (.int lo), .dat (.int hi), .dat s.d, .dat (.int left), .loc p, a, b, c] ∧ Δ = [(p, .ml (acc.map Th.d))])
    ⟨lossTh (s, left), _, _, _, rfl, hl, rfl, rfl⟩ ?_ ?_
  · (repeat' (first
      | exact hix | exact hix2 | exact hix3 | exact hix4
      | ((with_reducible apply ev_var) <;> rfl)
      | (with_reducible exact ev_int) | (with_reducible exact ev_bl) | (with_reducible exact ev_str) | (with_reducible exact ev_non) | (with_reducible exact eva_nil) | (with_reducible exact evo_none)
      | (with_reducible (first | apply eva_cons | apply ev_tup | apply evo_some | apply x_add | apply e_sub | apply x_mul | apply ev_mod | apply ev_neg | apply e_div))
      | refine e_lenN (evm_var rfl) rfl ?_
      | (with_reducible (first | apply x_len | apply x_ix | apply x_sl | apply ev_isN | apply ev_notN | apply ev_eqD | apply ev_neD | apply e_lt | apply ev_le | apply ev_gt | apply ev_ge | apply ev_isInt | apply ev_isBool | apply ev_isTup | apply ev_isStr | apply ec_whole | apply eca_counts | apply eca_levels | exact ⟨rfl, rfl⟩ | apply ev_min | apply ev_intc | apply ev_sumT | apply evt_B | apply evt_test | apply evt_not | apply evt_and | apply evt_or | apply ev_andV | apply ev_orV | apply ev_notV | apply ev_ite | intro _ | exact True.intro | rfl))
      | exact True.intro | exact ⟨rfl, rfl⟩ | exact Nat.le_of_ble_eq_true rfl | rfl))
  · rintro hs' i d Γ Δ hd ⟨acc, a, b, c, hacc, hal, rfl, rfl⟩
    rw [rngD_eq, List.getElem?_map] at hd
    obtain ⟨x, hx, rfl⟩ := Option.map_eq_some_iff.mp hd
    have hi' : i < (rng lo hi).length := (List.getElem?_eq_some_iff.mp hx).1
    have hlen : (rng lo hi).length ≤ 11 := by simp [rng]; omega
    have hdr : (rng lo hi).drop i = x :: (rng lo hi).drop (i + 1) := by
      rw [List.drop_eq_getElem_cons hi', (List.getElem?_eq_some_iff.mp hx).2]
    rw [hdr, List.flatMap_cons, ← List.append_assoc] at hacc
    refine ⟨[7], _, tg_name, ?_⟩
    (try dsimp only [List.set, setAll])
    refine nx_sq ?_
    refine nx_asg (eca_step (v := v) (s := s) (i := x) ⟨hv, hs⟩ (ev_var rfl) (ev_var rfl) (ev_var rfl)) ?_
    (try dsimp only [List.set, setAll])
    have hsh := Out.shaped (stepF v s x)
    have hb1 := beat1_len v (s, left) x
    cases ho : stepF v s x with
    | over =>
      rw [ho] at hsh
      refine nx_ifT (evt_test (ev_eqD (ev_var rfl) ev_str hsh over_shaped)) eqv_over_over ?_
      refine nx_app (k := 0) (evm_var rfl) (d := Th.d (thBeat x, none)) ?_ rfl (by simp; omega) ?_
      · show EV _ _ _ _ (.tuple [.tuple [.str "beat", .int x], .str "over"])
        (repeat' (first
      | exact hix | exact hix2 | exact hix3 | exact hix4
      | ((with_reducible apply ev_var) <;> rfl)
      | (with_reducible exact ev_int) | (with_reducible exact ev_bl) | (with_reducible exact ev_str) | (with_reducible exact ev_non) | (with_reducible exact eva_nil) | (with_reducible exact evo_none)
      | (with_reducible (first | apply eva_cons | apply ev_tup | apply evo_some | apply x_add | apply e_sub | apply x_mul | apply ev_mod | apply ev_neg | apply e_div))
      | refine e_lenN (evm_var rfl) rfl ?_
      | (with_reducible (first | apply x_len | apply x_ix | apply x_sl | apply ev_isN | apply ev_notN | apply ev_eqD | apply ev_neD | apply e_lt | apply ev_le | apply ev_gt | apply ev_ge | apply ev_isInt | apply ev_isBool | apply ev_isTup | apply ev_isStr | apply ec_whole | apply eca_counts | apply eca_levels | exact ⟨rfl, rfl⟩ | apply ev_min | apply ev_intc | apply ev_sumT | apply evt_B | apply evt_test | apply evt_not | apply evt_and | apply evt_or | apply ev_andV | apply ev_orV | apply ev_notV | apply ev_ite | intro _ | exact True.intro | rfl))
      | exact True.intro | exact ⟨rfl, rfl⟩ | exact Nat.le_of_ble_eq_true rfl | rfl))
      · show Nx _ _ ([(p, MO.ml (_ ++ [_]))] ++ hs') _
        refine nx_li ⟨acc ++ beat1 v (s, left) x, _, _, _, hacc, by simp; omega, rfl, ?_⟩
        simp [beat1, ho]
    | dry =>
      rw [ho] at hsh
      refine nx_ifF (evt_test (ev_eqD (ev_var rfl) ev_str hsh over_shaped)) eqv_dry_over ?_
      (try dsimp only [List.set, setAll])
      refine nx_ifF (evt_test (ev_neD (ev_var rfl) ev_str hsh dry_shaped)) (by simp only [Out.d]; rw [eqv_dry_dry]; rfl) (nx_nx ?_)
      (try dsimp only [List.set, setAll])
      refine nx_li ⟨acc ++ beat1 v (s, left) x, _, _, _, hacc, by simp; omega, rfl, ?_⟩
      simp [beat1, ho]
    | st s' =>
      rw [ho] at hsh
      refine nx_ifF (evt_test (ev_eqD (ev_var rfl) ev_str hsh over_shaped)) (eqv_over_st s') ?_
      (try dsimp only [List.set, setAll])
      refine nx_ifT (evt_test (ev_neD (ev_var rfl) ev_str hsh dry_shaped)) (by simp only [Out.d]; rw [eqv_st_dry]; rfl) ?_
      refine nx_app (k := 0) (evm_var rfl) (d := Th.d (thBeat x, some (s', left))) ?_ rfl (by simp; omega) ?_
      · show EV _ _ _ _ (.tuple [.tuple [.str "beat", .int x], .tuple [s'.d, .int left]])
        (repeat' (first
      | exact hix | exact hix2 | exact hix3 | exact hix4
      | ((with_reducible apply ev_var) <;> rfl)
      | (with_reducible exact ev_int) | (with_reducible exact ev_bl) | (with_reducible exact ev_str) | (with_reducible exact ev_non) | (with_reducible exact eva_nil) | (with_reducible exact evo_none)
      | (with_reducible (first | apply eva_cons | apply ev_tup | apply evo_some | apply x_add | apply e_sub | apply x_mul | apply ev_mod | apply ev_neg | apply e_div))
      | refine e_lenN (evm_var rfl) rfl ?_
      | (with_reducible (first | apply x_len | apply x_ix | apply x_sl | apply ev_isN | apply ev_notN | apply ev_eqD | apply ev_neD | apply e_lt | apply ev_le | apply ev_gt | apply ev_ge | apply ev_isInt | apply ev_isBool | apply ev_isTup | apply ev_isStr | apply ec_whole | apply eca_counts | apply eca_levels | exact ⟨rfl, rfl⟩ | apply ev_min | apply ev_intc | apply ev_sumT | apply evt_B | apply evt_test | apply evt_not | apply evt_and | apply evt_or | apply ev_andV | apply ev_orV | apply ev_notV | apply ev_ite | intro _ | exact True.intro | rfl))
      | exact True.intro | exact ⟨rfl, rfl⟩ | exact Nat.le_of_ble_eq_true rfl | rfl))
      · show Nx _ _ ([(p, MO.ml (_ ++ [_]))] ++ hs') _
        refine nx_li ⟨acc ++ beat1 v (s, left) x, _, _, _, hacc, by simp; omega, rfl, ?_⟩
        simp [beat1, ho]
  · rintro Γ Δ ⟨acc, a, b, c, hacc, hal, rfl, rfl⟩
    have e : (rngD lo (hi + 1 - lo).toNat).length = (rng lo hi).length := by rw [rngD_eq, List.length_map]
    rw [e, List.drop_length] at hacc
    (try dsimp only [List.set, setAll])
    refine nx_retM (k := 0) (evm_var rfl) rfl (rtL_of (E := E) rfl ?_)
    have e2 : acc = thL v lo hi (s, left) := by rw [hacc]; simp
    rw [e2]
    exact hq
end
end Kw

/-! text M2 -/
/-! The data, in plain Lean, part 2: beats and losses keep a state's form; the two searches go hand in hand. -/
namespace Kw
open PySem PySem.Spec PyProof.Rows L2 PySem.Calls

/-! ### sums -/
theorem sum_nonneg {l : List Int} (h : ∀ x ∈ l, 0 ≤ x) : 0 ≤ l.sum := by
  induction l with
  | nil => simp
  | cons x l ih =>
    rw [List.sum_cons]
    have := h x List.mem_cons_self
    have := ih fun y hy => h y (List.mem_cons_of_mem _ hy)
    omega
theorem last_split {l : List Int} (h : l ≠ []) : ∃ r x, l = r ++ [x] := ⟨l.dropLast, l.getLast h, (List.dropLast_concat_getLast h).symm⟩
theorem atI_last (r : List Int) (x : Int) : (atI (r ++ [x]) (-1)).getD 0 = x := by
  rw [show (-1 : Int) = -((1 : Nat) : Int) from rfl, atI_neg _ 1 (by decide) (by simp)]
  simp
theorem atI_prev (r : List Int) (x y : Int) : (atI (r ++ [x, y]) (-2)).getD 0 = x := by
  rw [show (-2 : Int) = -((2 : Nat) : Int) from rfl, atI_neg _ 2 (by decide) (by simp)]
  simp
/-- the pumps that run, one beat on -/
theorem agedOn_facts {s : S} {a b : Int} (hon : s.on ≠ []) (ha : 0 ≤ a) (hp : ∀ x ∈ s.on, 0 ≤ x) (hb : b = 0 ∨ b = (atI s.on (-1)).getD 0) :
    (agedOn s a b).length = s.on.length ∧ (∀ x ∈ agedOn s a b, 0 ≤ x) ∧ (agedOn s a b).sum = a + s.on.sum - b := by
  obtain ⟨r, y, e⟩ := last_split hon
  obtain ⟨q, x, e2⟩ := last_split (l := a :: r) (by simp)
  have e3 : a :: s.on = q ++ [x, y] := by
    rw [e, ← List.cons_append, e2, List.append_assoc]
    rfl
  have lq : s.on.length - 1 = q.length := by
    have := congrArg List.length e3
    simp at this
    omega
  have ey : (atI (a :: s.on) (-1)).getD 0 = y := by
    rw [e3, show q ++ [x, y] = (q ++ [x]) ++ [y] by simp, atI_last]
  have ex : (atI (a :: s.on) (-2)).getD 0 = x := by rw [e3, atI_prev]
  have ey2 : (atI s.on (-1)).getD 0 = y := by rw [e, atI_last]
  have et : (a :: s.on).take (s.on.length - 1) = q := by rw [e3, lq, List.take_left]
  have hx : ∀ z ∈ q ++ [x], 0 ≤ z := by
    rw [← e2]
    intro z hz
    rcases List.mem_cons.mp hz with rfl | hz
    · exact ha
    · exact hp z (by rw [e]; exact List.mem_append_left _ hz)
  have hy : 0 ≤ y := hp y (by rw [e]; simp)
  have eA : agedOn s a b = q ++ [x + y - b] := by unfold agedOn; rw [et, ex, ey]
  rw [eA]
  rw [ey2] at hb
  refine ⟨?_, fun z hz => ?_, ?_⟩
  · have := congrArg List.length e3
    simp at this ⊢
    omega
  · rcases List.mem_append.mp hz with hz | hz
    · exact hx z (List.mem_append_left _ hz)
    · have := hx x (by simp)
      simp at hz
      omega
  · have h1 : (a :: s.on).sum = (q ++ [x, y]).sum := by rw [e3]
    simp at h1 ⊢
    omega
theorem agedOff_facts {s : S} {b : Int} (hb : 0 ≤ b) (hp : ∀ x ∈ s.off, 0 ≤ x) :
    (agedOff s b).length = s.off.length ∧ (∀ x ∈ agedOff s b, 0 ≤ x) ∧ 0 ≤ (atI (b :: s.off) (-1)).getD 0 ∧ (agedOff s b).sum + (atI (b :: s.off) (-1)).getD 0 = b + s.off.sum := by
  obtain ⟨q, x, e⟩ := last_split (l := b :: s.off) (by simp)
  have lq : s.off.length = q.length := by
    have := congrArg List.length e
    simp at this
    omega
  have et : agedOff s b = q := by unfold agedOff; rw [e, lq, List.take_left]
  have hx : ∀ z ∈ q ++ [x], 0 ≤ z := by
    rw [← e]
    intro z hz
    rcases List.mem_cons.mp hz with rfl | hz
    · exact hb
    · exact hp z hz
  rw [et, e, atI_last]
  refine ⟨lq.symm, fun z hz => hx z (List.mem_append_left _ hz), hx x (by simp), ?_⟩
  have h1 : (b :: s.off).sum = (q ++ [x]).sum := by rw [e]
  simp at h1 ⊢
  omega
theorem step_ok {v : Wl} {s s' : S} {i : Int} (hv : v.Ok) (hs : s.Ok v) (h : stepF v s i = .st s') : s'.Ok v := by
  have hon := len_pos hs.on.1 hv.run.1
  have hst := hv.starts
  have hr := hs.ready
  unfold stepF at h
  have ha : 0 ≤ (movesF v s).1 ∧ (movesF v s).1 ≤ s.ready := by
    unfold movesF
    split
    · constructor <;> simp only <;> omega
    · exact ⟨Int.le_refl _, hr⟩
  have hb : (movesF v s).2 = 0 ∨ (movesF v s).2 = (atI s.on (-1)).getD 0 := by
    unfold movesF
    split
    · exact .inl rfl
    · simp only
      split
      · exact .inr rfl
      · exact .inl rfl
  have hb0 : 0 ≤ (movesF v s).2 := by
    rcases hb with hb | hb
    · omega
    · rw [hb]
      obtain ⟨r, x, e⟩ := last_split hon
      rw [e, atI_last]
      exact hs.on.2 x (by rw [e]; simp)
  generalize (movesF v s).1 = a at *
  generalize (movesF v s).2 = b at *
  obtain ⟨o1, o2, o3⟩ := agedOn_facts hon ha.1 hs.on.2 hb
  obtain ⟨f1, f2, f3, f4⟩ := agedOff_facts hb0 hs.off.2
  unfold ledF at h
  split at h
  · cases h
  split at h
  · cases h
  rename_i h1 h2
  cases h
  refine ⟨⟨by simp only; omega, by simp only; omega⟩, ?_, ?_, ?_, ?_, ?_⟩
  · have hp := hs.past
    have hl := hs.lev
    by_cases hg : 0 < v.lag
    · simp only [if_pos hg]
      constructor
      · simp
        omega
      · intro x hx
        rcases List.mem_append.mp hx with hx | hx
        · exact hp.2 x (List.mem_of_mem_drop hx)
        · simp at hx
          omega
    · simp only [if_neg hg]
      have := hv.lag
      exact ⟨by simp; omega, fun x hx => nomatch hx⟩
  · have := hs.on.1
    exact ⟨by simp only; omega, o2⟩
  · have := hs.off.1
    exact ⟨by simp only; omega, f2⟩
  · show 0 ≤ agedRdy s a b
    unfold agedRdy
    omega
  · show (agedOn s a b).sum + (agedOff s b).sum + agedRdy s a b ≤ 12
    unfold agedRdy
    have := hs.num
    unfold S.num at this
    omega
theorem lessOne_facts {l : List Int} {p : Nat} (h : 0 < (l[p]?).getD 0) (hp : ∀ x ∈ l, 0 ≤ x) : (lessOne l p).length = l.length ∧ (∀ x ∈ lessOne l p, 0 ≤ x) ∧ (lessOne l p).sum = l.sum - 1 := by
  have hl : p < l.length := by
    by_cases q : p < l.length
    · exact q
    · rw [List.getElem?_eq_none (by omega)] at h
      simp at h
  have e : l = l.take p ++ l[p] :: l.drop (p + 1) := by rw [← List.drop_eq_getElem_cons hl, List.take_append_drop]
  rw [List.getElem?_eq_getElem hl] at h
  simp only [Option.getD_some] at h
  unfold lessOne
  rw [List.getElem?_eq_getElem hl]
  simp only [Option.getD_some]
  refine ⟨?_, fun x hx => ?_, ?_⟩
  · simp
    omega
  · simp only [List.mem_append, List.mem_cons, List.not_mem_nil, or_false] at hx
    rcases hx with (hx | hx) | hx
    · exact hp x (List.mem_of_mem_take hx)
    · omega
    · exact hp x (List.mem_of_mem_drop hx)
  · have h1 : l.sum = (l.take p).sum + (l[p] + (l.drop (p + 1)).sum) := (congrArg List.sum e).trans (by rw [List.sum_append, List.sum_cons])
    rw [List.sum_append, List.sum_append, h1]
    simp
    omega
def ThOk (hi : Int) (d : PyData) : Prop := (∃ p : Nat, p < 3 ∧ d = thOn p) ∨ (∃ p : Nat, p < 3 ∧ d = thRest p) ∨ d = thReady ∨ ∃ i : Int, 0 ≤ i ∧ i ≤ hi ∧ d = thBeat i
theorem losses_ok {v : Wl} {s : S} (hv : v.Ok) (hs : s.Ok v) (hi : Int) : ∀ x ∈ losses s, ThOk hi x.1 ∧ x.2.Ok v := by
  intro x hx
  have l2 : s.on.length ≤ 3 := by have := hs.on.1; have := hv.run.2; omega
  have l3 : s.off.length ≤ 3 := by have := hs.off.1; have := hv.rest.2; omega
  have hn := hs.num
  unfold S.num at hn
  simp only [losses, lossOn, lossOff, lossRdy, List.mem_append, List.mem_flatMap, List.mem_range] at hx
  rcases hx with (⟨p, hp, h⟩ | ⟨p, hp, h⟩) | h
  · split at h <;> simp at h
    subst h
    rename_i h0
    obtain ⟨f1, f2, f3⟩ := lessOne_facts h0 hs.on.2
    exact ⟨.inl ⟨p, by omega, rfl⟩, hs.lev, hs.past, ⟨by simp only; rw [f1]; exact hs.on.1, f2⟩, hs.off, hs.ready, by unfold S.num; simp only; omega⟩
  · split at h <;> simp at h
    subst h
    rename_i h0
    obtain ⟨f1, f2, f3⟩ := lessOne_facts h0 hs.off.2
    exact ⟨.inr (.inl ⟨p, by omega, rfl⟩), hs.lev, hs.past, hs.on, ⟨by simp only; rw [f1]; exact hs.off.1, f2⟩, hs.ready, by unfold S.num; simp only; omega⟩
  · split at h <;> simp at h
    subst h
    rename_i h0
    exact ⟨.inr (.inr (.inl rfl)), hs.lev, hs.past, hs.on, hs.off, by simp only; omega, by unfold S.num; simp only; omega⟩
/-- a node in form -/
def NdOk (v : Wl) (m : Int) (n : Nd) : Prop := n.1.Ok v ∧ 0 ≤ n.2 ∧ n.2 ≤ m
theorem rng_mem {lo hi i : Int} (h : i ∈ rng lo hi) : lo ≤ i ∧ i ≤ hi := by
  obtain ⟨k, hk, rfl⟩ := List.mem_map.mp h
  have := List.mem_range.mp hk
  omega
theorem thL_ok {v : Wl} {lo hi m : Int} {n : Nd} (hv : v.Ok) (hn : NdOk v m n) (hlo : 0 ≤ lo) : ∀ t ∈ thL v lo hi n, ThOk hi t.1 ∧ ∀ n', t.2 = some n' → NdOk v m n' := by
  intro t ht
  rcases List.mem_append.mp ht with h | h
  · unfold lossTh at h
    split at h
    · rename_i h0
      obtain ⟨x, hx, rfl⟩ := List.mem_map.mp h
      obtain ⟨a, b⟩ := losses_ok hv hn.1 hi x hx
      refine ⟨a, fun n' e => ?_⟩
      cases e
      exact ⟨b, by simp only; omega, by have := hn.2.2; simp only; omega⟩
    · cases h
  · obtain ⟨i, hi', h⟩ := List.mem_flatMap.mp h
    have hr := rng_mem hi'
    unfold beat1 at h
    split at h
    · simp at h
      subst h
      exact ⟨.inr (.inr (.inr ⟨i, by omega, hr.2, rfl⟩)), fun n' e => nomatch e⟩
    · simp at h
    · rename_i s' hs'
      simp at h
      subst h
      refine ⟨.inr (.inr (.inr ⟨i, by omega, hr.2, rfl⟩)), fun n' e => ?_⟩
      cases e
      exact ⟨step_ok hv hn.1 hs', hn.2⟩
theorem beatP_sub (v : Wl) (n : Nd) : ∀ (l : List Int) (k : List S), ∀ t ∈ beatP v n l k, t ∈ l.flatMap (beat1 v n)
  | [], _, t, h => by cases h
  | i :: r, k, t, h => by
    rw [List.flatMap_cons]
    unfold beatP at h
    split at h
    · rename_i ho
      exact List.mem_append_left _ (by simpa [beat1, ho] using h)
    · exact List.mem_append_right _ (beatP_sub v n r k t h)
    · rename_i s ho
      split at h
      · exact List.mem_append_right _ (beatP_sub v n r k t h)
      · rcases List.mem_cons.mp h with rfl | h
        · exact List.mem_append_left _ (by simp [beat1, ho])
        · exact List.mem_append_right _ (beatP_sub v n r _ t h)
theorem thP_sub (v : Wl) (lo hi : Int) (n : Nd) : ∀ t ∈ thP v lo hi n, t ∈ thL v lo hi n := fun t h => by
  rcases List.mem_append.mp h with h | h
  · exact List.mem_append_left _ h
  · exact List.mem_append_right _ (beatP_sub v n _ _ t h)

/-! ### hand in hand -/
theorem visit_app : ∀ (a b : List Th) (kf : KF), visit (a ++ b) kf = (visit a kf).bind (visit b)
  | [], _, _ => rfl
  | (_, none) :: _, _, _ => rfl
  | (_, some n) :: r, b, kf => by
    rw [List.cons_append]
    show visit (r ++ b) _ = (visit r _).bind (visit b)
    exact visit_app r b _
theorem visit_beats (v : Wl) (n : Nd) : ∀ (l : List Int) (seen : List S) (kf : KF), (∀ s ∈ seen, (s, n.2) ∈ kf.1) → visit (beatP v n l seen) kf = visit (l.flatMap (beat1 v n)) kf
  | [], _, _, _ => rfl
  | i :: r, seen, kf, h => by
    rw [List.flatMap_cons, visit_app]
    unfold beatP
    cases ho : stepF v n.1 i with
    | over => simp [beat1, ho, visit]
    | dry =>
      simp only [beat1, ho, visit, Option.bind_some]
      exact visit_beats v n r seen kf h
    | st s =>
      simp only [beat1, ho, visit, Option.bind_some]
      by_cases hm : s ∈ seen
      · rw [if_pos hm, if_pos (h s hm)]
        exact visit_beats v n r seen kf h
      · rw [if_neg hm]
        simp only [visit]
        refine visit_beats v n r _ _ fun x hx => ?_
        rcases List.mem_append.mp hx with hx | hx
        · split
          · exact h x hx
          · exact List.mem_append_left _ (h x hx)
        · simp at hx
          subst hx
          split
          · assumption
          · exact List.mem_append_right _ (by simp)
theorem visit_eq (v : Wl) (lo hi : Int) (n : Nd) (kf : KF) : visit (thP v lo hi n) kf = visit (thL v lo hi n) kf := by
  unfold thP thL
  rw [visit_app, visit_app]
  cases visit (lossTh n) kf with
  | none => rfl
  | some q => exact visit_beats v n _ _ q fun s hs => nomatch hs
theorem layer_eq (v : Wl) (lo hi : Int) : ∀ (l : List Nd) (kf : KF), layerF (thP v lo hi) l kf = layerF (thL v lo hi) l kf
  | [], _ => rfl
  | n :: r, kf => by
    unfold layerF
    rw [visit_eq]
    cases visit (thL v lo hi n) kf with
    | none => rfl
    | some q => exact layer_eq v lo hi r q
theorem fine_P {v : Wl} {lo hi : Int} {k l : List Nd} (h : Fine (thL v lo hi) k l) : Fine (thP v lo hi) k l := by
  induction h with
  | done k => exact .done k
  | over h => exact .over (by rw [layer_eq]; exact h)
  | next h b r ih => exact .next (by rw [layer_eq]; exact h) b ih
end Kw

/-! text K15 -/
/-! My layer, part 15: three stored at once; other answers. -/
namespace Kw
open PySem PySem.Spec PyProof.Rows L2 PySem.Calls
section
variable {C : Ct} {Γ : List SV} {Δ : Dl} {D : Ends} {da db dc d : PyData}
theorem nx_par3 {t1 t2 t3 : TE} {i j l : Nat} {kvs : List (NestedKey × PyData)} (h1 : EVK C Γ Δ t1 kvs) (h2 : ∀ p, EV C Γ ((p, .md kvs) :: Δ) t2 db) (h3 : ∀ p, EV C Γ ((p, .md kvs) :: Δ) t3 dc)
    (k : ∀ p, Nx C (((Γ.set i (.loc p)).set j (.dat db)).set l (.dat dc)) ((p, .md kvs) :: Δ) D.nx) : Nx C Γ Δ (tPar3 i j l (tCons t1 (tCons t2 (tCons t3 tNil))) D) := fun G H σ S =>
  h1 G H σ S _ fun p G1 H1 s1 n a S1 m => h2 p G1 H1 σ (S1.loc n a m) _ fun v G2 H2 s2 S2 r2 => h3 p G2 H2 σ S2 _ fun u G3 H3 s3 S3 r3 =>
    ⟨_, _, _, rfl, k p G3 H3 _ (((S3.setLoc).set (dp_mono s3 _ _ r2)).set r3)⟩
theorem nx_retO {P : Program} {w : World} {K : PySem.W.Frag} {H : Hp} {Q : VK} {E : XK} {te : TE} {b : Bool} (hD : D.rt = Q) (h : EV ⟨K, P, w, H⟩ Γ Δ te d) (e : isNone d = b) (k : RsOk P w K H Q E (.opq b)) : Nx ⟨K, P, w, H⟩ Γ Δ (tRet te D) := fun G H1 σ S =>
  h G H1 σ S _ fun v G2 H2 s2 S2 r2 => by
    rw [hD]
    exact k v H2 (S2.g0.trans S2.g) ((dp_none r2).trans e)
theorem nx_retTK {P : Program} {w : World} {K : PySem.W.Frag} {H : Hp} {Q : VK} {E : XK} {t1 t2 : TE} {k : Nat} {q : Addr} {kvs : List (NestedKey × PyData)} (hD : D.rt = Q) (h1 : EV ⟨K, P, w, H⟩ Γ Δ t1 d) (h2 : EVM ⟨K, P, w, H⟩ Γ Δ t2 q) (hk : Δ[k]? = some (q, .md kvs))
    (r : RsOk P w K H Q E (.tupK d kvs)) : Nx ⟨K, P, w, H⟩ Γ Δ (tRet (tTup (tCons t1 (tCons t2 tNil))) D) := fun G H1 σ S =>
  h1 G H1 σ S _ fun v G2 H2 s2 S2 r2 => h2 G2 H2 σ S2 _ fun G3 H3 s3 S3 => ⟨by rw [sizeLine_eq]; show 2 ≤ _; decide, fun p hp => by
    rw [hD]
    obtain ⟨xs, e1, e2, e3⟩ := md_at S3 hk
    have n3 := (S3.mo q _ (List.mem_of_getElem? hk)).1 rfl
    have n : G3 p = none := S3.g.free hp
    have hqp : q ≠ p := fun z => by rw [z, hp] at e1; cases e1
    have sm : Same H3 (upd H3 p (.tup [v, .ref q])) := same_new hp
    have a := S3.g0.trans S3.g
    exact r p v q xs _ (a.trans sm) (a.free hp) (S3.g0.free n3) upd_same (dp_mono ((s3.trans S3.g).trans sm) _ _ r2) (by rw [upd_ne hqp]; exact e1) e2 (rows_mono (S3.g.trans sm) e3)⟩
/-- a, b = f(..), f giving a datum and a new dict -/
theorem nxc_tupK {W : WX} {i j : Nat} {kvs : List (NestedKey × PyData)} (l1 : lfree d = true) (l2 : ∀ r ∈ kvs, lfree r.1.data = true ∧ lfree r.2 = true) (k : ∀ q, Nx C ((Γ.set i (.dat d)).set j (.loc q)) ((q, .md kvs) :: Δ) D.nx) :
    NxC C Γ Δ W (fun v σ H => gTup C.K 2 (gCons (gName i) (gCons (gName j) gNil)) v σ H D.nx) (.tupK d kvs) :=
  ⟨l1, l2, fun G H σ p v q S e r => ⟨p, [v, .ref q], rfl, SqT.of (S.g _ _ e), rfl, _, _, rfl, _, _, rfl, rfl, k q G H _ ((S.set r).setLoc)⟩⟩
end
end Kw

/-! text D9 -/
/-! _law_reach -/
namespace Kw
open PySem PySem.Spec PyProof.Rows L2 PySem.Calls
abbrev s__law_reach : Stmt := top 61
theorem sc__law_reach : FnScope ["_law_well_here", "_law_state", "_law_low", "_law_high", "_law_fails", "_law_limit", "_law_kept", "_law_layer", "_law_total", "_law_further", "_law_pair", "_law_thing", "_law_fresh"] ["_law_well_here", "_law_state", "_law_low", "_law_high", "_law_fails", "_law_limit"] (defScope s__law_reach) := ⟨rfl, rfl, rfl, by decide +kernel, rfl, by decide +kernel, by decide +kernel⟩
def kN (n : Nd) : NestedKey × PyData := (.tup n.kl, .bool true)
theorem lookN_nd (l : List Nd) (n : Nd) : (lookN (l.map kN) (.tup n.kl)).isSome = decide (n ∈ l) := by
  unfold lookN
  induction l with
  | nil => simp
  | cons x l ih =>
    rw [List.map_cons, List.find?_cons]
    by_cases h : x = n
    · subst h
      simp [kN]
    · have e : decide ((kN x).1 = NestedKey.tup n.kl) = false := by
        simp only [kN, decide_eq_false_iff_not, NestedKey.tup.injEq]
        exact fun z => h (Nd.kl_inj z)
      rw [e]
      simp only [List.mem_cons]
      rw [ih]
      simp [Ne.symm h]
theorem nds_shaped (l : List Nd) : SeqAt.shaped (.list (l.map Nd.d)) = true := by
  have h1 : PyData.canLayAll0 (l.map Nd.d) = true := by
    induction l with
    | nil => rfl
    | cons x l ih => simp [PyData.canLayAll0, Nd.canLay, ih]
  have h2 : PyData.depthAll (l.map Nd.d) ≤ 3 := by
    induction l with
    | nil => simp [PyData.depthAll]
    | cons x l ih =>
      simp only [List.map_cons, PyData.depthAll]
      have := x.dep
      have := ih (by simp [PyData.canLayAll0] at h1; exact h1.2)
      omega
  have h3 : PyData.depth (.list (l.map Nd.d)) ≤ 64 := by
    show PyData.depthAll (l.map Nd.d) + 1 ≤ 64
    omega
  have h4 : PyData.canLay0 (.list (l.map Nd.d)) = true := h1
  unfold SeqAt.shaped
  rw [h4, decide_eq_true h3]
  rfl
theorem nil_shaped : SeqAt.shaped (.list []) = true := nds_shaped []
theorem eqv_nil (l : List Nd) : PyData.eqv (.list (l.map Nd.d)) (.list []) = decide (l = []) := by
  cases l <;> simp [PyData.eqv, PyData.eqvAll]
theorem alikeAll_ints : ∀ l m : List Int, PySem.W.alikeAll (l.map .int) (m.map .int) = true
  | [], _ => by simp [PySem.W.alikeAll]
  | _ :: _, [] => by simp [PySem.W.alikeAll]
  | _ :: l, _ :: m => by simp [PySem.W.alikeAll, PySem.W.alike, alikeAll_ints l m]
theorem S.alike (s t : S) : PySem.W.alike s.d t.d = true := by simp [S.d, S.l, intsD, PySem.W.alike, PySem.W.alikeAll, alikeAll_ints]
theorem Nd.alike (n m : Nd) : PySem.W.alike n.d m.d = true := by simp [Nd.d, PySem.W.alike, PySem.W.alikeAll, S.alike]
theorem thL_len (v : Wl) (lo hi : Int) (n : Nd) (hv : v.Ok) (hs : n.1.Ok v) (h : 0 ≤ lo ∧ hi ≤ 10) : (thL v lo hi n).length ≤ 21 := by
  unfold thL
  rw [List.length_append]
  have h1 := lossTh_len n hv hs
  have h2 : ((rng lo hi).flatMap (beat1 v n)).length ≤ (rng lo hi).length := by
    induction rng lo hi with
    | nil => simp
    | cons i r ih =>
      rw [List.flatMap_cons, List.length_append, List.length_cons]
      have := beat1_len v n i
      omega
  have h3 : (rng lo hi).length ≤ 11 := by simp [rng]; omega
  omega
abbrev Rc := Wl × S × Int × Int × Int
def Rc.Ok (a : Rc) : Prop := a.1.Ok ∧ a.2.1.Ok a.1 ∧ 0 ≤ a.2.2.1 ∧ a.2.2.1 ≤ a.2.2.2.1 ∧ a.2.2.2.1 ≤ 10 ∧ 0 ≤ a.2.2.2.2
def FineAt (a : Rc) : Prop := Fine (thL a.1 a.2.2.1 a.2.2.2.1) [(a.2.1, a.2.2.2.2)] [(a.2.1, a.2.2.2.2)]
section
variable {P : Program} {w : World} {K : PySem.W.Frag} {mg : Str → Option Value} {base : Heap} {C1 C2 C3 : Addr}
theorem eca_things {C : Ct} {Γ : List SV} {Δ : Dl} {W : WX} {t0 t1 t2 t3 : TE} {v : Wl} {n : Nd} {lo hi : Int} (h : Tg.Ok (v, n, lo, hi)) (h0 : EV C Γ Δ t0 v.d) (h1 : EV C Γ Δ t1 n.d) (h2 : EV C Γ Δ t2 (.int lo)) (h3 : EV C Γ Δ t3 (.int hi)) :
    EVL C Γ Δ (tCallS (sp_law_things C.P C.w C.K) (WE W) (tCons t0 (tCons t1 (tCons t2 (tCons t3 tNil))))) ((thL v lo hi n).map Th.d) :=
  x_callL (α := Tg) (v, n, lo, hi) (eva_cons h0 (eva_cons h1 (eva_cons h2 (eva_cons h3 eva_nil)))) h (thL_free v lo hi n)
theorem ndO_shaped (o : Option Nd) : SeqAt.shaped (ndO o) = true := by
  cases o with
  | none => exact over_shaped
  | some n => exact n.shaped
abbrev sp_law_reach (P : Program) (w : World) (K : PySem.W.Frag) : Sp := ASp (α := Rc) P w K (fun a => [a.1.d, a.2.1.d, .int a.2.2.1, .int a.2.2.2.1, .int a.2.2.2.2, .int 80]) Rc.Ok fun a r => ∃ b, r = .opq b ∧ (b = false → FineAt a)
theorem ok_law_reach {f : Addr} {fd : FuncData} (T : Tx P K mg C1 C2 C3) (F : Fun K "_law_reach" "_law_reach" s__law_reach f fd) (c__law_things : Cl P w K mg base 4 "_law_things" (sp_law_things P w K)) : FnG P w K mg base 5 f fd ["_law_well_here", "_law_state", "_law_low", "_law_high", "_law_fails", "_law_limit"] (sp_law_reach P w K) := by
  refine body_g F sc__law_reach (fun a => rfl) (fun cdv ar up z H Q E hgd hr => ⟨_, (pss_cons (ps_par3 (i := 6) (j := 7) (l := 8) rfl sc__law_reach.nd rfl rfl rfl (by decide) (by decide) (by decide) rfl rfl rfl (pa_cons (gDisp1 (P := P) (w := w) (K := K) ⟨rfl, rfl, rfl⟩ (hu64 hr) (pe_tup (pa_cons (pv 1) (pa_cons (pv 4) pa_nil))) pe_bl) (pa_cons (pe_lst (pa_cons (pe_tup (pa_cons (pv 1) (pa_cons (pv 4) pa_nil))) pa_nil)) (pa_cons pe_int pa_nil))) rfl) (pss_cons (ps_while (passes_of rfl) (pt_cmpR (gNe (P := P) (w := w) (K := K) ⟨rfl, rfl, rfl⟩ (hu65 hr)) (pv 7) (pe_lst pa_nil) (nomark _)) (pss_cons (ps_par (i := 8) (j := 9) rfl sc__law_reach.nd rfl rfl (by decide) rfl rfl (pa_cons (pe_op (gAdd (P := P) (w := w) (K := K) ⟨rfl, rfl, rfl⟩) (pv 8) pe_int) (pa_cons (pe_lst pa_nil) pa_nil)) rfl) (pss_cons (ps_for (passes_of rfl) rfl (gIt (P := P) (w := w) (K := K) ⟨rfl, rfl, rfl⟩ (pv 7)) (pg_name (i := 10) sc__law_reach.nd rfl (by first | exact Or.inl rfl | exact Or.inr rfl)) (pss_one (ps_for (passes_of rfl) rfl (gIt (P := P) (w := w) (K := K) ⟨rfl, rfl, rfl⟩ (gCl (P := P) (w := w) (K := K) ⟨rfl, rfl, rfl⟩ rfl rfl c__law_things hr hgd (by rfl) takesF (pa_cons (pv 0) (pa_cons (pv 10) (pa_cons (pv 2) (pa_cons (pv 3) pa_nil)))))) (gTupT (n := 2) (P := P) (w := w) (K := K) ⟨rfl, rfl, rfl⟩ rfl (pgs_cons (pg_name (i := 11) sc__law_reach.nd rfl (by first | exact Or.inl rfl | exact Or.inr rfl)) (pgs_cons (pg_name (i := 12) sc__law_reach.nd rfl (by first | exact Or.inl rfl | exact Or.inr rfl)) pgs_nil)) rfl rfl) (pss_cons (ps_if (pt_cmpR (gEq (P := P) (w := w) (K := K) ⟨rfl, rfl, rfl⟩ (hu65 hr)) (pv 12) pe_str (nomark _)) (pss_one (ps_ret (pe_tup (pa_cons (pv 8) (pa_cons (pe_lst pa_nil) pa_nil))))) pss_nil) (pss_one (ps_if (pt_cmpR (gNin (P := P) (w := w) (K := K) ⟨rfl, rfl, rfl⟩ (hu65 hr)) (pv 12) (pv 6) (by rfl)) (pss_cons (ps_asg pe_bl (pg_sub (pv 6) (pv 12) (gPut (P := P) (w := w) (K := K) ⟨rfl, rfl, rfl⟩ (hu64 hr)))) (pss_one (ps_expr (pe_bm PySem.F.plainAttrs_list PySem.F.slot_list_append PySem.F.type_list_append mt_append (pv 9) (pa_cons (pv 12) pa_nil))))) pss_nil)))))) (pss_cons (ps_if (pt_cmpR op_gt (pe_callB (gLen (P := P) (w := w) (K := K) ⟨rfl, rfl, rfl⟩ (hu65 hr)) (by rfl) T.b_len boot_k_len (pa_cons (pv 6) pa_nil)) (pv 5) (nomark _)) (pss_one (ps_ret pe_non)) pss_nil) (pss_one (ps_set (i := 7) sc__law_reach.nd rfl (by first | exact Or.inl rfl | exact Or.inr rfl) (pv 9))))))) (pss_one (ps_ret (pe_tup (pa_cons pe_non (pa_cons (pe_callB (gSort (P := P) (w := w) (K := K) ⟨rfl, rfl, rfl⟩ (hu64 hr)) (by rfl) T.b_sorted boot_k_sorted (pa_cons (pe_callTy (gLst (P := P) (w := w) (K := K) ⟨rfl, rfl, rfl⟩ rfl) (by rfl) T.b_list boot_k_list (pa_cons (pv 6) pa_nil)) pa_nil)) pa_nil))))))), fun v hv hq => ?_⟩)
  obtain ⟨v, s, lo, hi, fl⟩ := v
  obtain ⟨hv, hs, hlo, hlh, hhi, hfl⟩ : v.Ok ∧ s.Ok v ∧ 0 ≤ lo ∧ lo ≤ hi ∧ hi ≤ 10 ∧ 0 ≤ fl := hv
  have hqN : RsOk P w K H Q E (.opq true) := hq _ ⟨true, rfl, fun h => nomatch h⟩
  have hqF : FineAt (v, s, lo, hi, fl) → RsOk P w K H Q E (.opq false) := fun h => hq _ ⟨false, rfl, fun _ => h⟩
  clear hq
  show Nx _ [.dat v.d, .dat s.d, .dat (.int lo), .dat (.int hi), .dat (.int fl), .dat (.int 80), .any, .any, .any, .any, .any, .any, .any] _ _
  (try dsimp only [List.set, setAll])
  refine nx_sq ?_
  have hdp0 : ∀ n : Nd, (NestedKey.tup n.kl).depth ≤ 8 := fun n => by have := n.kl_depth; omega
  refine nx_par3 (kvs := [kN (s, fl)]) (db := .list ([(s, fl)].map Nd.d)) (dc := .int 0) (evk_disp1 (ks := Nd.kl (s, fl)) (fun p => ?_) (hdp0 _) (fun p => ev_bl)) (fun p => ?_) (fun p => ev_int) fun pk => ?_
  · rw [Nd.kl_data]
    show EV _ _ _ _ (.tuple [s.d, .int fl])
    (repeat' (first
      | exact hix | exact hix2 | exact hix3 | exact hix4
      | ((with_reducible apply ev_var) <;> rfl)
      | (with_reducible exact ev_int) | (with_reducible exact ev_bl) | (with_reducible exact ev_str) | (with_reducible exact ev_non) | (with_reducible exact eva_nil) | (with_reducible exact evo_none)
      | (with_reducible (first | apply eva_cons | apply ev_tup | apply evo_some | apply x_add | apply e_sub | apply x_mul | apply ev_mod | apply ev_neg | apply e_div))
      | refine e_lenN (evm_var rfl) rfl ?_
      | (with_reducible (first | apply x_len | apply x_ix | apply x_sl | apply ev_isN | apply ev_notN | apply ev_eqD | apply ev_neD | apply e_lt | apply ev_le | apply ev_gt | apply ev_ge | apply ev_isInt | apply ev_isBool | apply ev_isTup | apply ev_isStr | apply ec_whole | apply eca_counts | apply eca_levels | exact ⟨rfl, rfl⟩ | apply ev_min | apply ev_intc | apply ev_sumT | apply evt_B | apply evt_test | apply evt_not | apply evt_and | apply evt_or | apply ev_andV | apply ev_orV | apply ev_notV | apply ev_ite | intro _ | exact True.intro | rfl))
      | exact True.intro | exact ⟨rfl, rfl⟩ | exact Nat.le_of_ble_eq_true rfl | rfl))
  · refine evl_ev (evl_lst (eva_cons ?_ eva_nil) (Nat.le_of_ble_eq_true rfl))
    show EV _ _ _ _ (.tuple [s.d, .int fl])
    (repeat' (first
      | exact hix | exact hix2 | exact hix3 | exact hix4
      | ((with_reducible apply ev_var) <;> rfl)
      | (with_reducible exact ev_int) | (with_reducible exact ev_bl) | (with_reducible exact ev_str) | (with_reducible exact ev_non) | (with_reducible exact eva_nil) | (with_reducible exact evo_none)
      | (with_reducible (first | apply eva_cons | apply ev_tup | apply evo_some | apply x_add | apply e_sub | apply x_mul | apply ev_mod | apply ev_neg | apply e_div))
      | refine e_lenN (evm_var rfl) rfl ?_
      | (with_reducible (first | apply x_len | apply x_ix | apply x_sl | apply ev_isN | apply ev_notN | apply ev_eqD | apply ev_neD | apply e_lt | apply ev_le | apply ev_gt | apply ev_ge | apply ev_isInt | apply ev_isBool | apply ev_isTup | apply ev_isStr | apply ec_whole | apply eca_counts | apply eca_levels | exact ⟨rfl, rfl⟩ | apply ev_min | apply ev_intc | apply ev_sumT | apply evt_B | apply evt_test | apply evt_not | apply evt_and | apply evt_or | apply ev_andV | apply ev_orV | apply ev_notV | apply ev_ite | intro _ | exact True.intro | rfl))
      | exact True.intro | exact ⟨rfl, rfl⟩ | exact Nat.le_of_ble_eq_true rfl | rfl))
  (try dsimp only [List.set, setAll])
  refine nx_sq ?_
  refine nx_while (fun m Γ Δ => ∃ (kept layer : List Nd) (tot : Int) (a b c d : SV) (Δ' : Dl), m = (if layer = [] then 0 else 82 - kept.length) ∧ (Fine (thL v lo hi) kept layer → FineAt (v, s, lo, hi, fl)) ∧ kept.length ≤ 80 ∧ layer.length ≤ kept.length ∧ (∀ n ∈ kept, NdOk v fl n) ∧ (∀ n ∈ layer, NdOk v fl n) ∧
      Γ = [.dat v.d, .dat s.d, .dat (.int lo), .dat (.int hi), .dat (.int fl), .dat (.int 80), .loc pk, .dat (.list (layer.map Nd.d)), .dat (.int tot), a, b, c, d] ∧ Δ = (pk, .md (kept.map kN)) :: Δ') 81
    ⟨[(s, fl)], [(s, fl)], 0, _, _, _, _, _, rfl, id, by simp, by simp, by simpa using ⟨hs, hfl, Int.le_refl _⟩, by simpa using ⟨hs, hfl, Int.le_refl _⟩, rfl, rfl⟩ ?_
  rintro m Γ Δ ⟨kept, layer, tot, a, b, c, d, Δ', rfl, hF, hk80, hlk, hok, hol, rfl, rfl⟩
  refine ⟨!(decide (layer = [])), ?_, fun hb => ?_, fun hb => ?_⟩
  · rw [← eqv_nil]
    exact evt_test (ev_neD (ev_var rfl) (evl_ev (evl_lst eva_nil (Nat.zero_le _))) (nds_shaped _) nil_shaped)
  · have hne : layer ≠ [] := by simpa using hb
    (try dsimp only [List.set, setAll])
    refine nx_sq ?_
    refine nx_parL (da := .int (tot + 1)) ?_ (evl_lst eva_nil (Nat.zero_le _)) fun pf => ?_
    · (repeat' (first
      | exact hix | exact hix2 | exact hix3 | exact hix4
      | ((with_reducible apply ev_var) <;> rfl)
      | (with_reducible exact ev_int) | (with_reducible exact ev_bl) | (with_reducible exact ev_str) | (with_reducible exact ev_non) | (with_reducible exact eva_nil) | (with_reducible exact evo_none)
      | (with_reducible (first | apply eva_cons | apply ev_tup | apply evo_some | apply x_add | apply e_sub | apply x_mul | apply ev_mod | apply ev_neg | apply e_div))
      | refine e_lenN (evm_var rfl) rfl ?_
      | (with_reducible (first | apply x_len | apply x_ix | apply x_sl | apply ev_isN | apply ev_notN | apply ev_eqD | apply ev_neD | apply e_lt | apply ev_le | apply ev_gt | apply ev_ge | apply ev_isInt | apply ev_isBool | apply ev_isTup | apply ev_isStr | apply ec_whole | apply eca_counts | apply eca_levels | exact ⟨rfl, rfl⟩ | apply ev_min | apply ev_intc | apply ev_sumT | apply evt_B | apply evt_test | apply evt_not | apply evt_and | apply evt_or | apply ev_andV | apply ev_orV | apply ev_notV | apply ev_ite | intro _ | exact True.intro | rfl))
      | exact True.intro | exact ⟨rfl, rfl⟩ | exact Nat.le_of_ble_eq_true rfl | rfl))
    (try dsimp only [List.set, setAll])
    refine nx_sq ?_
    refine nx_for (w_list (ev_var rfl)) (fun i Γ Δ => ∃ (k f : List Nd) (b c d : SV), layerF (thL v lo hi) layer (kept, []) = layerF (thL v lo hi) (layer.drop i) (k, f) ∧ k.length = kept.length + f.length ∧ f.length ≤ 21 * i ∧ (∀ n ∈ k, NdOk v fl n) ∧ (∀ n ∈ f, NdOk v fl n) ∧
        Γ = [.dat v.d, .dat s.d, .dat (.int lo), .dat (.int hi), .dat (.int fl), .dat (.int 80), .loc pk, .dat (.list (layer.map Nd.d)), .dat (.int (tot + 1)), .loc pf, b, c, d] ∧ Δ = (pf, .ml (f.map Nd.d)) :: (pk, .md (k.map kN)) :: Δ')
      ⟨kept, [], _, _, _, rfl, by simp, by simp, hok, (fun n h => nomatch h), rfl, rfl⟩ ?_ ?_
    · rintro hs' i dd Γ Δ hd ⟨k, f, b, c, d, hlay, hkl, hfl2, hk, hf, rfl, rfl⟩
      rw [List.getElem?_map] at hd
      obtain ⟨n, hn, rfl⟩ := Option.map_eq_some_iff.mp hd
      have hi' : i < layer.length := (List.getElem?_eq_some_iff.mp hn).1
      have hno : NdOk v fl n := hol n (List.mem_of_getElem? hn)
      have hdr : layer.drop i = n :: layer.drop (i + 1) := by rw [List.drop_eq_getElem_cons hi', (List.getElem?_eq_some_iff.mp hn).2]
      rw [hdr] at hlay
      have hth := thL_ok (lo := lo) (hi := hi) hv hno hlo
      have htl := thL_len v lo hi n hv hno.1 ⟨hlo, hhi⟩
      refine ⟨[10], _, tg_name, ?_⟩
      (try dsimp only [List.set, setAll])
      refine nx_for (w_list (evl_ev (eca_things (v := v) (n := n) ⟨hv, hno.1, hlo, hlh, hhi⟩ (ev_var rfl) (ev_var rfl) (ev_var rfl) (ev_var rfl)))) (fun j Γ Δ => ∃ (k' f' : List Nd) (c d : SV), visit (thL v lo hi n) (k, f) = visit ((thL v lo hi n).drop j) (k', f') ∧ k'.length = kept.length + f'.length ∧ f'.length ≤ f.length + j ∧ (∀ n ∈ k', NdOk v fl n) ∧ (∀ n ∈ f', NdOk v fl n) ∧
        Γ = [.dat v.d, .dat s.d, .dat (.int lo), .dat (.int hi), .dat (.int fl), .dat (.int 80), .loc pk, .dat (.list (layer.map Nd.d)), .dat (.int (tot + 1)), .loc pf, .dat n.d, c, d] ∧ Δ = (pf, .ml (f'.map Nd.d)) :: (pk, .md (k'.map kN)) :: (Δ' ++ hs'))
        ⟨k, f, _, _, rfl, hkl, by omega, hk, hf, rfl, rfl⟩ ?_ ?_
      · rintro hs2 j dd Γ Δ hd ⟨k', f', c, d, hvis, hkl', hfl', hk', hf', rfl, rfl⟩
        rw [List.getElem?_map] at hd
        obtain ⟨t, ht, rfl⟩ := Option.map_eq_some_iff.mp hd
        have hj : j < (thL v lo hi n).length := (List.getElem?_eq_some_iff.mp ht).1
        have hdr2 : (thL v lo hi n).drop j = t :: (thL v lo hi n).drop (j + 1) := by rw [List.drop_eq_getElem_cons hj, (List.getElem?_eq_some_iff.mp ht).2]
        have htm := hth t (List.mem_of_getElem? ht)
        rw [hdr2] at hvis
        obtain ⟨tt, o⟩ := t
        refine ⟨[11, 12], _, tg_tup (ds := [tt, ndO o]) rfl rfl, ?_⟩
        (try dsimp only [List.set, setAll])
        refine nx_sq ?_
        cases o with
        | none =>
          refine nx_ifT (evt_test (ev_eqD (ev_var rfl) ev_str over_shaped over_shaped)) eqv_over_over ?_
          refine nx_retO rfl (ev_tup (ds := [.int (tot + 1), .list []]) (eva_cons (ev_var rfl) (eva_cons (evl_ev (evl_lst eva_nil (Nat.zero_le _))) eva_nil)) (Nat.le_of_ble_eq_true rfl)) rfl (hqF (hF (.over ?_)))
          rw [hlay]
          simp only [layerF, hvis, visit, Option.bind_none]
        | some n' =>
          have hn' := htm.2 n' rfl
          refine nx_ifF (evt_test (ev_eqD (ev_var rfl) ev_str n'.shaped over_shaped)) (eqv_over_nd n') (nx_nx ?_)
          (try dsimp only [List.set, setAll])
          have hkk : EV ⟨K, P, w, H⟩ [.dat v.d, .dat s.d, .dat (.int lo), .dat (.int hi), .dat (.int fl), .dat (.int 80), .loc pk, .dat (.list (layer.map Nd.d)), .dat (.int (tot + 1)), .loc pf, .dat n.d, .dat tt, .dat n'.d] ((pf, .ml (f'.map Nd.d)) :: (pk, .md (k'.map kN)) :: (Δ' ++ hs') ++ hs2) (tVar 12) (NestedKey.tup n'.kl).data := (ev_var rfl).to (Nd.kl_data n').symm
          by_cases hm : n' ∈ k'
          · refine nx_ifF (evt_test (e_ninN (k := 1) hkk (hdp0 n') (evm_var rfl) rfl)) (by rw [lookN_nd]; simp [hm]) (nx_nx ?_)
            (try dsimp only [List.set, setAll])
            refine nx_li ⟨k', f', _, _, ?_, hkl', by omega, hk', hf', rfl, rfl⟩
            rw [hvis]
            simp [visit, hm]
          · have hnone : lookN (k'.map kN) (.tup n'.kl) = none := by
              have z := lookN_nd k' n'
              rw [decide_eq_false hm] at z
              exact Option.isNone_iff_eq_none.mp (by simpa using z)
            refine nx_ifT (evt_test (e_ninN (k := 1) hkk (hdp0 n') (evm_var rfl) rfl)) (by rw [lookN_nd]; simp [hm]) ?_
            refine nx_sq (nx_putN (k := 1) ev_bl (evm_var rfl) hkk (hdp0 n') rfl (by simp; omega) ?_)
            (try dsimp only [List.set, setAll])
            rw [putN_new hnone]
            refine nx_app (k := 0) (evm_var rfl) (d := n'.d) (ev_var rfl) rfl (by simp; omega) ?_
            show Nx _ _ (((pf, MO.ml (_ ++ [_])) :: (pk, MO.md (_ ++ [_])) :: (Δ' ++ hs')) ++ hs2) _
            refine nx_li ⟨k' ++ [n'], f' ++ [n'], _, _, ?_, by simp; omega, by simp; omega, ?_, ?_, rfl, ?_⟩
            · rw [hvis]
              simp [visit, hm]
            · intro x hx
              rcases List.mem_append.mp hx with hx | hx
              · exact hk' x hx
              · simp at hx; subst hx; exact hn'
            · intro x hx
              rcases List.mem_append.mp hx with hx | hx
              · exact hf' x hx
              · simp at hx; subst hx; exact hn'
            · simp [kN]
      · rintro Γ Δ ⟨k', f', c, d, hvis, hkl', hfl', hk', hf', rfl, rfl⟩
        rw [List.length_map, List.drop_length] at hvis
        rw [List.length_map] at hfl'
        (try dsimp only [List.set, setAll])
        show Nx _ _ (((pf, MO.ml (f'.map Nd.d)) :: (pk, MO.md (k'.map kN)) :: Δ') ++ hs') _
        refine nx_li ⟨k', f', _, _, _, ?_, hkl', by omega, hk', hf', rfl, rfl⟩
        rw [hlay]
        simp only [layerF, hvis, visit, Option.bind_some]
    · rintro Γ Δ ⟨k, f, b, c, d, hlay, hkl, hfl2, hk, hf, rfl, rfl⟩
      rw [List.length_map] at hlay hfl2
      rw [List.drop_length] at hlay
      (try dsimp only [List.set, setAll])
      refine nx_sq ?_
      by_cases h80 : (80 : Int) < (k.length : Int)
      · refine nx_ifT (evt_test (ev_gt (e_lenN (k := 1) (evm_var rfl) rfl (by simp; omega)) (ev_var rfl))) (by simpa using h80) ?_
        exact nx_retO rfl ev_non rfl hqN
      refine nx_ifF (evt_test (ev_gt (e_lenN (k := 1) (evm_var rfl) rfl (by simp; omega)) (ev_var rfl))) (by simpa using h80) (nx_nx ?_)
      (try dsimp only [List.set, setAll])
      refine nx_freeze (k := 0) (m := 9) rfl rfl ?_
      (try dsimp only [List.set, setAll, List.eraseIdx])
      refine nx_asg (ev_var rfl) ?_
      (try dsimp only [List.set, setAll])
      refine nx_lw (m' := if f = [] then 0 else 82 - k.length) ?_ ⟨k, f, _, _, _, _, _, Δ', rfl, fun h => hF (.next (k' := k) (f := f) ?_ (by omega) h), by omega, by omega, hk, hf, rfl, rfl⟩
      · rw [if_neg hne]
        by_cases he : f = []
        · rw [if_pos he]
          omega
        · rw [if_neg he]
          have := List.length_pos_iff.mpr he
          omega
      · rw [hlay]
        rfl
  · have hne : layer = [] := by simpa using hb
    subst hne
    (try dsimp only [List.set, setAll])
    refine nx_retO rfl (ev_tup (ds := [.none, .list _]) (eva_cons ev_non (eva_cons (evl_ev (evl_sort (evl_ev (l_listN (k := 0) (evm_var rfl) rfl (by simp; omega))) ?_ ?_ (by simp; omega) ?_)) eva_nil)) (Nat.le_of_ble_eq_true rfl)) rfl (hqF (hF (.done _)))
    · intro x hx y hy
      simp only [List.map_map, List.mem_map, Function.comp_apply, kN, Nd.kl_data] at hx hy
      obtain ⟨n, _, rfl⟩ := hx
      obtain ⟨m, _, rfl⟩ := hy
      exact n.alike m
    · refine .inl fun x hx => ?_
      simp only [List.map_map, List.mem_map, Function.comp_apply, kN, Nd.kl_data] at hx
      obtain ⟨n, _, rfl⟩ := hx
      exact ⟨_, _, rfl⟩
    · intro x hx
      simp only [List.map_map, List.mem_map, Function.comp_apply, kN, Nd.kl_data] at hx
      obtain ⟨n, _, rfl⟩ := hx
      have := n.dep
      omega
end
end Kw

/-! text D10 -/
/-! searched -/
namespace Kw
open PySem PySem.Spec PyProof.Rows L2 PySem.Calls
abbrev s_searched : Stmt := top 43
theorem sc_searched : FnScope ["well", "state", "low", "high", "fails", "known", "layer", "further", "pair", "thing", "fresh"] ["well", "state", "low", "high", "fails"] (defScope s_searched) := ⟨rfl, rfl, rfl, by decide +kernel, rfl, by decide +kernel, by decide +kernel⟩
abbrev Kp := Nd × List PyData
def kP (x : Kp) : NestedKey × PyData := (.tup x.1.kl, .tuple x.2)
theorem lookN_kp (l : List Kp) (n : Nd) : (lookN (l.map kP) (.tup n.kl)).isSome = decide (n ∈ l.map Prod.fst) := by
  unfold lookN
  induction l with
  | nil => simp
  | cons x l ih =>
    rw [List.map_cons, List.find?_cons]
    by_cases h : x.1 = n
    · subst h
      simp [kP]
    · have e : decide ((kP x).1 = NestedKey.tup n.kl) = false := by
        simp only [kP, decide_eq_false_iff_not, NestedKey.tup.injEq]
        exact fun z => h (Nd.kl_inj z)
      rw [e]
      simp only [List.map_cons, List.mem_cons]
      rw [ih]
      simp [Ne.symm h]
theorem lookN_kp_at {l : List Kp} {n : Nd} (h : n ∈ l.map Prod.fst) : ∃ x ∈ l, lookN (l.map kP) (.tup n.kl) = some (.tuple x.2) := by
  have z := lookN_kp l n
  rw [decide_eq_true h] at z
  obtain ⟨d, hd⟩ := Option.isSome_iff_exists.mp z
  unfold lookN at hd
  obtain ⟨r, hr, rfl⟩ := Option.map_eq_some_iff.mp hd
  obtain ⟨x, hx, rfl⟩ := List.mem_map.mp (List.mem_of_find?_eq_some hr)
  exact ⟨x, hx, by unfold lookN; rw [hr]; rfl⟩
theorem th_free {hi : Int} {d : PyData} (h : ThOk hi d) : lfree d = true := by
  rcases h with ⟨p, _, rfl⟩ | ⟨p, _, rfl⟩ | rfl | ⟨i, _, _, rfl⟩ <;> rfl
theorem nkeys_free (n : Nd) : lfree (NestedKey.tup n.kl).data = true := by rw [Nd.kl_data]; exact lfree_nd n
structure KpOk (v : Wl) (hi m : Int) (kp : List Kp) : Prop where
  nd : ∀ x ∈ kp, NdOk v m x.1
  th : ∀ x ∈ kp, ∀ t ∈ x.2, ThOk hi t
  len : ∀ x ∈ kp, x.2.length ≤ kp.length
theorem KpOk.free {v : Wl} {hi m : Int} {kp : List Kp} (h : KpOk v hi m kp) : ∀ r ∈ kp.map kP, lfree r.1.data = true ∧ lfree r.2 = true := by
  intro r hr
  obtain ⟨x, hx, rfl⟩ := List.mem_map.mp hr
  exact ⟨nkeys_free x.1, lfreeAll_mem fun t ht => th_free (h.th x hx t ht)⟩
theorem kp_snoc {v : Wl} {hi m : Int} {kp : List Kp} (h : KpOk v hi m kp) {n : Nd} {ts : List PyData} (hn : NdOk v m n) (ht : ∀ t ∈ ts, ThOk hi t) (hl : ts.length ≤ kp.length + 1) : KpOk v hi m (kp ++ [(n, ts)]) where
  nd := fun x hx => by
    rcases List.mem_append.mp hx with hx | hx
    · exact h.nd x hx
    · simp at hx; subst hx; exact hn
  th := fun x hx => by
    rcases List.mem_append.mp hx with hx | hx
    · exact h.th x hx
    · simp at hx; subst hx; exact ht
  len := fun x hx => by
    rw [List.length_append]
    rcases List.mem_append.mp hx with hx | hx
    · have := h.len x hx
      simp
      omega
    · simp at hx; subst hx; simpa using hl
theorem thP_len (v : Wl) (lo hi : Int) (n : Nd) (hv : v.Ok) (hs : n.1.Ok v) (h : 0 ≤ lo ∧ hi ≤ 10) : (thP v lo hi n).length ≤ 21 := by
  unfold thP
  rw [List.length_append]
  have h1 := lossTh_len n hv hs
  have h2 : ∀ (l : List Int) (k : List S), (beatP v n l k).length ≤ l.length := by
    intro l
    induction l with
    | nil => intro k; simp [beatP]
    | cons i r ih =>
      intro k
      unfold beatP
      split
      · simp
      · have := ih k; simp; omega
      · split
        · have := ih k; simp; omega
        · have := ih (k ++ [‹S›]); simp; omega
  have h4 := h2 (rng lo hi) []
  have h3 : (rng lo hi).length ≤ 11 := by simp [rng]; omega
  omega
def TrOk (hi : Int) (d : PyData) : Prop := d = .none ∨ ∃ ts : List PyData, d = .tuple ts ∧ ts ≠ [] ∧ ts.length ≤ 5000 ∧ ∀ t ∈ ts, ThOk hi t
section
variable {P : Program} {w : World} {K : PySem.W.Frag} {mg : Str → Option Value} {base : Heap} {C1 C2 C3 : Addr}
theorem eca_thP {C : Ct} {Γ : List SV} {Δ : Dl} {W : WX} {t0 t1 t2 t3 : TE} {v : Wl} {n : Nd} {lo hi : Int} (h : Tg.Ok (v, n, lo, hi)) (h0 : EV C Γ Δ t0 v.d) (h1 : EV C Γ Δ t1 n.d) (h2 : EV C Γ Δ t2 (.int lo)) (h3 : EV C Γ Δ t3 (.int hi)) :
    EVL C Γ Δ (tCallS (sp_things_of C.P C.w C.K) (WE W) (tCons t0 (tCons t1 (tCons t2 (tCons t3 tNil))))) ((thP v lo hi n).map Th.d) :=
  x_callL (α := Tg) (v, n, lo, hi) (eva_cons h0 (eva_cons h1 (eva_cons h2 (eva_cons h3 eva_nil)))) h (thP_free v lo hi n)
abbrev sp_searched (P : Program) (w : World) (K : PySem.W.Frag) : Sp := ASp (α := Rc) P w K (fun a => [a.1.d, a.2.1.d, .int a.2.2.1, .int a.2.2.2.1, .int a.2.2.2.2]) (fun a => Rc.Ok a ∧ FineAt a)
  fun a r => ∃ d kp, r = .tupK d (kp.map kP) ∧ TrOk a.2.2.2.1 d ∧ KpOk a.1 a.2.2.2.1 a.2.2.2.2 kp ∧ kp.length ≤ 5000
theorem ok_searched {f : Addr} {fd : FuncData} (T : Tx P K mg C1 C2 C3) (F : Fun K "searched" "searched" s_searched f fd) (c_things_of : Cl P w K mg base 4 "things_of" (sp_things_of P w K)) : FnG P w K mg base 5 f fd ["well", "state", "low", "high", "fails"] (sp_searched P w K) := by
  refine body_g F sc_searched (fun a => rfl) (fun cdv ar up z H Q E hgd hr => ⟨_, (pss_cons (ps_set (i := 5) sc_searched.nd rfl (by first | exact Or.inl rfl | exact Or.inr rfl) (gDisp1 (P := P) (w := w) (K := K) ⟨rfl, rfl, rfl⟩ (hu64 hr) (pe_tup (pa_cons (pv 1) (pa_cons (pv 4) pa_nil))) (pe_tup pa_nil))) (pss_cons (ps_set (i := 6) sc_searched.nd rfl (by first | exact Or.inl rfl | exact Or.inr rfl) (pe_callTy (gLst (P := P) (w := w) (K := K) ⟨rfl, rfl, rfl⟩ rfl) (by rfl) T.b_list boot_k_list (pa_cons (pv 5) pa_nil))) (pss_cons (ps_while (passes_of rfl) (pt_cmpR (gNe (P := P) (w := w) (K := K) ⟨rfl, rfl, rfl⟩ (hu65 hr)) (pv 6) (pe_lst pa_nil) (nomark _)) (pss_cons (ps_if (pt_cmpR op_gt (pe_callB (gLen (P := P) (w := w) (K := K) ⟨rfl, rfl, rfl⟩ (hu65 hr)) (by rfl) T.b_len boot_k_len (pa_cons (pv 5) pa_nil)) (pe_k (by rfl) T.c_MOST_PAIRS) (nomark _)) (pss_one ps_never) pss_nil) (pss_cons (ps_set (i := 7) sc_searched.nd rfl (by first | exact Or.inl rfl | exact Or.inr rfl) (pe_lst pa_nil)) (pss_cons (ps_for (passes_of rfl) rfl (gIt (P := P) (w := w) (K := K) ⟨rfl, rfl, rfl⟩ (pv 6)) (pg_name (i := 8) sc_searched.nd rfl (by first | exact Or.inl rfl | exact Or.inr rfl)) (pss_one (ps_for (passes_of rfl) rfl (gIt (P := P) (w := w) (K := K) ⟨rfl, rfl, rfl⟩ (gCl (P := P) (w := w) (K := K) ⟨rfl, rfl, rfl⟩ rfl rfl c_things_of hr hgd (by rfl) takesF (pa_cons (pv 0) (pa_cons (pv 8) (pa_cons (pv 2) (pa_cons (pv 3) pa_nil)))))) (gTupT (n := 2) (P := P) (w := w) (K := K) ⟨rfl, rfl, rfl⟩ rfl (pgs_cons (pg_name (i := 9) sc_searched.nd rfl (by first | exact Or.inl rfl | exact Or.inr rfl)) (pgs_cons (pg_name (i := 10) sc_searched.nd rfl (by first | exact Or.inl rfl | exact Or.inr rfl)) pgs_nil)) rfl rfl) (pss_cons (ps_if (pt_cmpR (gEq (P := P) (w := w) (K := K) ⟨rfl, rfl, rfl⟩ (hu65 hr)) (pv 10) (pe_k (by rfl) T.c_OVER_crews) (nomark _)) (pss_one (ps_ret (pe_tup (pa_cons (pe_op (gAdd (P := P) (w := w) (K := K) ⟨rfl, rfl, rfl⟩) (pe_ix (gIx (P := P) (w := w) (K := K) ⟨rfl, rfl, rfl⟩ (hu65 hr)) (pv 5) (pv 8) (fun _ _ => rfl)) (pe_tup (pa_cons (pv 9) pa_nil))) (pa_cons (pv 5) pa_nil))))) pss_nil) (pss_one (ps_if (pt_cmpR (gNin (P := P) (w := w) (K := K) ⟨rfl, rfl, rfl⟩ (hu65 hr)) (pv 10) (pv 5) (by rfl)) (pss_cons (ps_asg (pe_op (gAdd (P := P) (w := w) (K := K) ⟨rfl, rfl, rfl⟩) (pe_ix (gIx (P := P) (w := w) (K := K) ⟨rfl, rfl, rfl⟩ (hu65 hr)) (pv 5) (pv 8) (fun _ _ => rfl)) (pe_tup (pa_cons (pv 9) pa_nil))) (pg_sub (pv 5) (pv 10) (gPut (P := P) (w := w) (K := K) ⟨rfl, rfl, rfl⟩ (hu64 hr)))) (pss_one (ps_expr (pe_bm PySem.F.plainAttrs_list PySem.F.slot_list_append PySem.F.type_list_append mt_append (pv 7) (pa_cons (pv 10) pa_nil))))) pss_nil)))))) (pss_one (ps_set (i := 6) sc_searched.nd rfl (by first | exact Or.inl rfl | exact Or.inr rfl) (pv 7))))))) (pss_one (ps_ret (pe_tup (pa_cons pe_non (pa_cons (pv 5) pa_nil)))))))), fun v hv hq => ?_⟩)
  obtain ⟨v, s, lo, hi, fl⟩ := v
  obtain ⟨⟨hv, hs, hlo, hlh, hhi, hfl⟩, hfine⟩ : (v.Ok ∧ s.Ok v ∧ 0 ≤ lo ∧ lo ≤ hi ∧ hi ≤ 10 ∧ 0 ≤ fl) ∧ FineAt (v, s, lo, hi, fl) := hv
  have hfP : Fine (thP v lo hi) [(s, fl)] [(s, fl)] := fine_P hfine
  replace hq : ∀ d kp, TrOk hi d → KpOk v hi fl kp → kp.length ≤ 5000 → RsOk P w K H Q E (.tupK d (kp.map kP)) := fun d kp a b c => hq _ ⟨d, kp, rfl, a, b, c⟩
  have hdp0 : ∀ n : Nd, (NestedKey.tup n.kl).depth ≤ 8 := fun n => by have := n.kl_depth; omega
  show Nx _ [.dat v.d, .dat s.d, .dat (.int lo), .dat (.int hi), .dat (.int fl), .any, .any, .any, .any, .any, .any] _ _
  (try dsimp only [List.set, setAll])
  refine nx_sq ?_
  refine nx_asgK (kvs := [kP ((s, fl), [])]) (evk_disp1 (ks := Nd.kl (s, fl)) (d := .tuple []) (fun p => ?_) (hdp0 _) (fun p => ?_)) fun pk => ?_
  · rw [Nd.kl_data]
    show EV _ _ _ _ (.tuple [s.d, .int fl])
    (repeat' (first
      | exact hix | exact hix2 | exact hix3 | exact hix4
      | ((with_reducible apply ev_var) <;> rfl)
      | (with_reducible exact ev_int) | (with_reducible exact ev_bl) | (with_reducible exact ev_str) | (with_reducible exact ev_non) | (with_reducible exact eva_nil) | (with_reducible exact evo_none)
      | (with_reducible (first | apply eva_cons | apply ev_tup | apply evo_some | apply x_add | apply e_sub | apply x_mul | apply ev_mod | apply ev_neg | apply e_div))
      | refine e_lenN (evm_var rfl) rfl ?_
      | (with_reducible (first | apply x_len | apply x_ix | apply x_sl | apply ev_isN | apply ev_notN | apply ev_eqD | apply ev_neD | apply e_lt | apply ev_le | apply ev_gt | apply ev_ge | apply ev_isInt | apply ev_isBool | apply ev_isTup | apply ev_isStr | apply ec_whole | apply eca_counts | apply eca_levels | exact ⟨rfl, rfl⟩ | apply ev_min | apply ev_intc | apply ev_sumT | apply evt_B | apply evt_test | apply evt_not | apply evt_and | apply evt_or | apply ev_andV | apply ev_orV | apply ev_notV | apply ev_ite | intro _ | exact True.intro | rfl))
      | exact True.intro | exact ⟨rfl, rfl⟩ | exact Nat.le_of_ble_eq_true rfl | rfl))
  · (repeat' (first
      | exact hix | exact hix2 | exact hix3 | exact hix4
      | ((with_reducible apply ev_var) <;> rfl)
      | (with_reducible exact ev_int) | (with_reducible exact ev_bl) | (with_reducible exact ev_str) | (with_reducible exact ev_non) | (with_reducible exact eva_nil) | (with_reducible exact evo_none)
      | (with_reducible (first | apply eva_cons | apply ev_tup | apply evo_some | apply x_add | apply e_sub | apply x_mul | apply ev_mod | apply ev_neg | apply e_div))
      | refine e_lenN (evm_var rfl) rfl ?_
      | (with_reducible (first | apply x_len | apply x_ix | apply x_sl | apply ev_isN | apply ev_notN | apply ev_eqD | apply ev_neD | apply e_lt | apply ev_le | apply ev_gt | apply ev_ge | apply ev_isInt | apply ev_isBool | apply ev_isTup | apply ev_isStr | apply ec_whole | apply eca_counts | apply eca_levels | exact ⟨rfl, rfl⟩ | apply ev_min | apply ev_intc | apply ev_sumT | apply evt_B | apply evt_test | apply evt_not | apply evt_and | apply evt_or | apply ev_andV | apply ev_orV | apply ev_notV | apply ev_ite | intro _ | exact True.intro | rfl))
      | exact True.intro | exact ⟨rfl, rfl⟩ | exact Nat.le_of_ble_eq_true rfl | rfl))
  (try dsimp only [List.set, setAll])
  refine nx_sq ?_
  apply nx_asg (d := .list ([(s, fl)].map Nd.d))
  · have e : [(s, fl)].map Nd.d = ([kP ((s, fl), [])]).map fun r => r.1.data := by
      simp only [List.map_cons, List.map_nil, kP, Nd.kl_data]
    rw [e]
    exact evl_ev (l_listN (k := 0) (evm_var rfl) rfl (by simp))
  (try dsimp only [List.set, setAll])
  refine nx_sq ?_
  refine nx_while (fun m Γ Δ => ∃ (kp : List Kp) (layer : List Nd) (a b c d : SV) (Δ' : Dl), m = (if layer = [] then 0 else 82 - kp.length) ∧ Fine (thP v lo hi) (kp.map Prod.fst) layer ∧ kp.length ≤ 80 ∧ layer.length ≤ kp.length ∧ KpOk v hi fl kp ∧ (∀ n ∈ layer, n ∈ kp.map Prod.fst) ∧
      Γ = [.dat v.d, .dat s.d, .dat (.int lo), .dat (.int hi), .dat (.int fl), .loc pk, .dat (.list (layer.map Nd.d)), a, b, c, d] ∧ Δ = (pk, .md (kp.map kP)) :: Δ') 81
    ⟨[((s, fl), [])], [(s, fl)], _, _, _, _, _, rfl, hfP, by simp, by simp, ⟨by simpa using ⟨hs, hfl, Int.le_refl _⟩, by simp, by simp⟩, by simp, rfl, rfl⟩ ?_
  rintro m Γ Δ ⟨kp, layer, a, b, c, d, Δ', rfl, hF, hk80, hlk, hok, hol, rfl, rfl⟩
  refine ⟨!(decide (layer = [])), ?_, fun hb => ?_, fun hb => ?_⟩
  · rw [← eqv_nil]
    exact evt_test (ev_neD (ev_var rfl) (evl_ev (evl_lst eva_nil (Nat.zero_le _))) (nds_shaped _) nil_shaped)
  · have hne : layer ≠ [] := by simpa using hb
    (try dsimp only [List.set, setAll])
    refine nx_sq ?_
    refine nx_ifF (evt_test (ev_gt (e_lenN (k := 0) (evm_var rfl) rfl (by simp; omega)) ev_int)) (by simp; omega) (nx_nx ?_)
    (try dsimp only [List.set, setAll])
    refine nx_sq ?_
    refine nx_asgL (evl_lst eva_nil (Nat.zero_le _)) fun pf => ?_
    (try dsimp only [List.set, setAll])
    refine nx_sq ?_
    refine nx_for (w_list (ev_var rfl)) (fun i Γ Δ => ∃ (kq : List Kp) (f : List Nd) (b c d : SV), layerF (thP v lo hi) layer (kp.map Prod.fst, []) = layerF (thP v lo hi) (layer.drop i) (kq.map Prod.fst, f) ∧ kq.length = kp.length + f.length ∧ f.length ≤ 21 * i ∧ KpOk v hi fl kq ∧ (∀ n ∈ f, n ∈ kq.map Prod.fst) ∧ (∀ n ∈ layer, n ∈ kq.map Prod.fst) ∧
        Γ = [.dat v.d, .dat s.d, .dat (.int lo), .dat (.int hi), .dat (.int fl), .loc pk, .dat (.list (layer.map Nd.d)), .loc pf, b, c, d] ∧ Δ = (pf, .ml (f.map Nd.d)) :: (pk, .md (kq.map kP)) :: Δ')
      ⟨kp, [], _, _, _, rfl, by simp, by simp, hok, (fun n h => nomatch h), hol, rfl, rfl⟩ ?_ ?_
    · rintro hs' i dd Γ Δ hd ⟨kq, f, b, c, d, hlay, hkl, hfl2, hk, hf, hlay2, rfl, rfl⟩
      rw [List.getElem?_map] at hd
      obtain ⟨n, hn, rfl⟩ := Option.map_eq_some_iff.mp hd
      have hi' : i < layer.length := (List.getElem?_eq_some_iff.mp hn).1
      have hnk : n ∈ kq.map Prod.fst := hlay2 n (List.mem_of_getElem? hn)
      have hno : NdOk v fl n := by
        obtain ⟨x, hx, rfl⟩ := List.mem_map.mp hnk
        exact hk.nd x hx
      have hdr : layer.drop i = n :: layer.drop (i + 1) := by rw [List.drop_eq_getElem_cons hi', (List.getElem?_eq_some_iff.mp hn).2]
      rw [hdr] at hlay
      have hth := fun t ht => thL_ok (lo := lo) (hi := hi) hv hno hlo t (thP_sub v lo hi n t ht)
      have htl := thP_len v lo hi n hv hno.1 ⟨hlo, hhi⟩
      refine ⟨[8], _, tg_name, ?_⟩
      (try dsimp only [List.set, setAll])
      refine nx_for (w_list (evl_ev (eca_thP (v := v) (n := n) ⟨hv, hno.1, hlo, hlh, hhi⟩ (ev_var rfl) (ev_var rfl) (ev_var rfl) (ev_var rfl)))) (fun j Γ Δ => ∃ (kr : List Kp) (f' : List Nd) (c d : SV), visit (thP v lo hi n) (kq.map Prod.fst, f) = visit ((thP v lo hi n).drop j) (kr.map Prod.fst, f') ∧ kr.length = kp.length + f'.length ∧ f'.length ≤ f.length + j ∧ KpOk v hi fl kr ∧ (∀ n ∈ f', n ∈ kr.map Prod.fst) ∧ (∀ x ∈ kq.map Prod.fst, x ∈ kr.map Prod.fst) ∧
        Γ = [.dat v.d, .dat s.d, .dat (.int lo), .dat (.int hi), .dat (.int fl), .loc pk, .dat (.list (layer.map Nd.d)), .loc pf, .dat n.d, c, d] ∧ Δ = (pf, .ml (f'.map Nd.d)) :: (pk, .md (kr.map kP)) :: (Δ' ++ hs'))
        ⟨kq, f, _, _, rfl, hkl, by omega, hk, hf, fun x hx => hx, rfl, rfl⟩ ?_ ?_
      · rintro hs2 j dd Γ Δ hd ⟨kr, f', c, d, hvis, hkl', hfl', hk', hf', hsub, rfl, rfl⟩
        rw [List.getElem?_map] at hd
        obtain ⟨t, ht, rfl⟩ := Option.map_eq_some_iff.mp hd
        have hj : j < (thP v lo hi n).length := (List.getElem?_eq_some_iff.mp ht).1
        have hdr2 : (thP v lo hi n).drop j = t :: (thP v lo hi n).drop (j + 1) := by rw [List.drop_eq_getElem_cons hj, (List.getElem?_eq_some_iff.mp ht).2]
        have htm := hth t (List.mem_of_getElem? ht)
        rw [hdr2] at hvis
        obtain ⟨tt, o⟩ := t
        obtain ⟨x, hx, hlook⟩ := lookN_kp_at (hsub n hnk)
        have hxl := hk'.len x hx
        have hxt := hk'.th x hx
        have htt : ∀ t ∈ x.2 ++ [tt], ThOk hi t := fun t ht => by
          rcases List.mem_append.mp ht with ht | ht
          · exact hxt t ht
          · simp at ht; subst ht; exact htm.1
        refine ⟨[9, 10], _, tg_tup (ds := [tt, ndO o]) rfl rfl, ?_⟩
        (try dsimp only [List.set, setAll])
        have hcat : ∀ o' : PyData, EV ⟨K, P, w, H⟩ [.dat v.d, .dat s.d, .dat (.int lo), .dat (.int hi), .dat (.int fl), .loc pk, .dat (.list (layer.map Nd.d)), .loc pf, .dat n.d, .dat tt, .dat o'] ((pf, .ml (f'.map Nd.d)) :: (pk, .md (kr.map kP)) :: (Δ' ++ hs') ++ hs2) (tOp (uAdd K) (tOp (uIx P w K) (tVar 5) (tVar 8)) (tTup (tCons (tVar 9) tNil))) (.tuple (x.2 ++ [tt])) := fun o' =>
          e_cat (e_get (k := 1) (ks := n.kl) (evm_var rfl) ((ev_var rfl).to (Nd.kl_data n).symm) (hdp0 n) rfl hlook) (ev_tup (eva_cons (ev_var rfl) eva_nil) (Nat.le_of_ble_eq_true rfl)) (by simp; omega)
        refine nx_sq ?_
        cases o with
        | none =>
          refine nx_ifT (evt_test (ev_eqD (ev_var rfl) ev_str over_shaped over_shaped)) eqv_over_over ?_
          exact nx_retTK (k := 1) rfl (hcat _) (evm_var rfl) rfl (hq _ kr (.inr ⟨_, rfl, by simp, by simp; omega, htt⟩) hk' (by omega))
        | some n' =>
          have hn' := htm.2 n' rfl
          refine nx_ifF (evt_test (ev_eqD (ev_var rfl) ev_str n'.shaped over_shaped)) (eqv_over_nd n') (nx_nx ?_)
          (try dsimp only [List.set, setAll])
          have hkk : EV ⟨K, P, w, H⟩ [.dat v.d, .dat s.d, .dat (.int lo), .dat (.int hi), .dat (.int fl), .loc pk, .dat (.list (layer.map Nd.d)), .loc pf, .dat n.d, .dat tt, .dat n'.d] ((pf, .ml (f'.map Nd.d)) :: (pk, .md (kr.map kP)) :: (Δ' ++ hs') ++ hs2) (tVar 10) (NestedKey.tup n'.kl).data := (ev_var rfl).to (Nd.kl_data n').symm
          by_cases hm : n' ∈ kr.map Prod.fst
          · refine nx_ifF (evt_test (e_ninN (k := 1) hkk (hdp0 n') (evm_var rfl) rfl)) (by rw [lookN_kp]; simp only [decide_eq_true hm]; rfl) (nx_nx ?_)
            (try dsimp only [List.set, setAll])
            refine nx_li ⟨kr, f', _, _, ?_, hkl', by omega, hk', hf', hsub, rfl, rfl⟩
            rw [hvis]
            simp only [visit, if_pos hm]
          · have hnone : lookN (kr.map kP) (.tup n'.kl) = none := by
              have z := lookN_kp kr n'
              rw [decide_eq_false hm] at z
              exact Option.isNone_iff_eq_none.mp (by simpa using z)
            refine nx_ifT (evt_test (e_ninN (k := 1) hkk (hdp0 n') (evm_var rfl) rfl)) (by rw [lookN_kp]; simp only [decide_eq_false hm]; rfl) ?_
            refine nx_sq (nx_putN (k := 1) (hcat _) (evm_var rfl) hkk (hdp0 n') rfl (by simp; omega) ?_)
            (try dsimp only [List.set, setAll])
            rw [putN_new hnone]
            refine nx_app (k := 0) (evm_var rfl) (d := n'.d) (ev_var rfl) rfl (by simp; omega) ?_
            show Nx _ _ (((pf, MO.ml (_ ++ [_])) :: (pk, MO.md (_ ++ [_])) :: (Δ' ++ hs')) ++ hs2) _
            refine nx_li ⟨kr ++ [(n', x.2 ++ [tt])], f' ++ [n'], _, _, ?_, by simp; omega, by simp; omega, kp_snoc hk' hn' htt (by simp; omega), ?_, ?_, rfl, ?_⟩
            · rw [hvis]
              simp only [visit, if_neg hm, List.map_append, List.map_cons, List.map_nil]
            · intro y hy
              rw [List.map_append]
              rcases List.mem_append.mp hy with hy | hy
              · exact List.mem_append_left _ (hf' y hy)
              · exact List.mem_append_right _ (by simpa using hy)
            · intro y hy
              rw [List.map_append]
              exact List.mem_append_left _ (hsub y hy)
            · simp [kP]
      · rintro Γ Δ ⟨kr, f', c, d, hvis, hkl', hfl', hk', hf', hsub, rfl, rfl⟩
        rw [List.length_map, List.drop_length] at hvis
        rw [List.length_map] at hfl'
        (try dsimp only [List.set, setAll])
        show Nx _ _ (((pf, MO.ml (f'.map Nd.d)) :: (pk, MO.md (kr.map kP)) :: Δ') ++ hs') _
        refine nx_li ⟨kr, f', _, _, _, ?_, hkl', by omega, hk', hf', fun y hy => hsub y (hlay2 y hy), rfl, rfl⟩
        rw [hlay]
        simp only [layerF, hvis, visit, Option.bind_some]
    · rintro Γ Δ ⟨kq, f, b, c, d, hlay, hkl, hfl2, hk, hf, hlay2, rfl, rfl⟩
      rw [List.length_map] at hlay hfl2
      rw [List.drop_length] at hlay
      (try dsimp only [List.set, setAll])
      refine nx_freeze (k := 0) (m := 7) rfl rfl ?_
      (try dsimp only [List.set, setAll, List.eraseIdx])
      refine nx_asg (ev_var rfl) ?_
      (try dsimp only [List.set, setAll])
      have hF2 : Fine (thP v lo hi) (kq.map Prod.fst) f ∧ kq.length ≤ 80 := by
        generalize e1 : kp.map Prod.fst = k1 at hF hlay
        cases hF with
        | done => exact absurd rfl hne
        | over h => rw [hlay] at h; cases h
        | next h b r =>
          rw [hlay] at h
          cases h
          exact ⟨r, by simpa using b⟩
      refine nx_lw (m' := if f = [] then 0 else 82 - kq.length) ?_ ⟨kq, f, _, _, _, _, Δ', rfl, hF2.1, hF2.2, by omega, hk, hf, rfl, rfl⟩
      rw [if_neg hne]
      by_cases he : f = []
      · rw [if_pos he]
        omega
      · rw [if_neg he]
        have := List.length_pos_iff.mpr he
        omega
  · (try dsimp only [List.set, setAll])
    exact nx_retTK (k := 0) rfl ev_non (evm_var rfl) rfl (hq _ kp (.inl rfl) hok (by omega))
end
end Kw

/-! text M3 -/
/-! The data, in plain Lean, part 3: which data are states of few pumps. -/
namespace Kw
open PySem PySem.Spec PyProof.Rows L2 PySem.Calls
theorem whole_int (i l h : Int) : whole (.int i) (.int l) (.int h) = (decide (l ≤ i) && decide (i ≤ h)) := rfl
theorem elem_le {l : List Int} (h : ∀ x ∈ l, 0 ≤ x) {x : Int} (hx : x ∈ l) : x ≤ l.sum := by
  induction l with
  | nil => cases hx
  | cons y l ih =>
    rw [List.sum_cons]
    have h0 := h y List.mem_cons_self
    have hl := fun z hz => h z (List.mem_cons_of_mem _ hz)
    have hs := sum_nonneg hl
    rcases List.mem_cons.mp hx with rfl | hx
    · omega
    · have := ih hl hx
      omega
theorem S.small {v : Wl} {s : S} (hs : s.Ok v) : 0 ≤ s.on.sum ∧ 0 ≤ s.off.sum ∧ s.on.sum ≤ 12 ∧ s.off.sum ≤ 12 ∧ s.ready ≤ 12 ∧ (∀ x ∈ s.on, x ≤ 12) ∧ (∀ x ∈ s.off, x ≤ 12) := by
  have h1 := sum_nonneg hs.on.2
  have h2 := sum_nonneg hs.off.2
  have h3 := hs.num
  have h4 := hs.ready
  unfold S.num at h3
  refine ⟨h1, h2, by omega, by omega, by omega, fun x hx => ?_, fun x hx => ?_⟩
  · have := elem_le hs.on.2 hx
    omega
  · have := elem_le hs.off.2 hx
    omega
theorem counts_of {l : List Int} {n : Int} (h1 : (l.length : Int) = n) (h2 : ∀ x ∈ l, 0 ≤ x ∧ x ≤ 1000) : counts (intsD l) n = true := by
  simp only [counts, intsD, List.length_map, h1, decide_true, Bool.true_and, List.all_eq_true]
  intro c hc
  obtain ⟨x, hx, rfl⟩ := List.mem_map.mp hc
  rw [whole_int]
  have := h2 x hx
  simp
  omega
theorem levels_of {v : Wl} {l : List Int} {n : Int} (h1 : (l.length : Int) = n) (h2 : ∀ x ∈ l, 0 ≤ x ∧ x ≤ v.top) : levels v (intsD l) n = true := by
  simp only [levels, intsD, List.length_map, h1, decide_true, Bool.true_and, List.all_eq_true]
  intro c hc
  obtain ⟨x, hx, rfl⟩ := List.mem_map.mp hc
  rw [whole_int]
  have := h2 x hx
  simp
  omega
theorem levels_ints {v : Wl} {d : PyData} {n : Int} (h : levels v d n = true) : ∃ xs : List Int, d = intsD xs ∧ (xs.length : Int) = n ∧ ∀ x ∈ xs, 0 ≤ x ∧ x ≤ v.top := by
  cases d with
  | tuple ds =>
    simp only [levels, Bool.and_eq_true, decide_eq_true_eq, List.all_eq_true] at h
    obtain ⟨h1, h2⟩ := h
    have : ∀ ds : List PyData, (∀ c ∈ ds, whole c (.int 0) (.int v.top) = true) → ∃ xs : List Int, ds = xs.map .int ∧ ∀ x ∈ xs, 0 ≤ x ∧ x ≤ v.top := by
      intro ds
      induction ds with
      | nil => exact fun _ => ⟨[], rfl, by simp⟩
      | cons c ds ih =>
        intro h
        obtain ⟨xs, e, hx⟩ := ih fun c hc => h c (List.mem_cons_of_mem _ hc)
        have hc := h c List.mem_cons_self
        cases c <;> first | (simp [whole] at hc; done) | skip
        rename_i i
        simp [whole, geD, leD] at hc
        exact ⟨i :: xs, by rw [e]; rfl, by simpa using ⟨hc, hx⟩⟩
    obtain ⟨xs, rfl, hx⟩ := this ds h2
    exact ⟨xs, rfl, by simpa using h1, hx⟩
  | _ => simp [levels] at h
theorem tail_ok {v : Wl} {s : S} (hv : v.Ok) (hs : s.Ok v) : tail5 (.int s.lev) (intsD s.past) (intsD s.on) (intsD s.off) (.int s.ready) v = true := by
  obtain ⟨a1, a2, a3, a4, a5, a6, a7⟩ := S.small hs
  have h1 : whole (.int s.lev) (.int 0) (.int v.top) = true := by rw [whole_int]; have := hs.lev; simp; omega
  have h2 := levels_of hs.past.1 hs.past.2
  have h3 := counts_of hs.on.1 fun x hx => ⟨hs.on.2 x hx, by have := a6 x hx; omega⟩
  have h4 := counts_of hs.off.1 fun x hx => ⟨hs.off.2 x hx, by have := a7 x hx; omega⟩
  have h5 : whole (.int s.ready) (.int 0) (.int 50) = true := by rw [whole_int]; have := hs.ready; simp; omega
  simp [tail5, h1, h2, h3, h4, h5]
theorem state_ok {v : Wl} {s : S} (hv : v.Ok) (hs : s.Ok v) : isState v s.d = true := by
  have h := tail_ok hv hs
  have hn := hs.num
  unfold S.num at hn
  show (tail5 _ _ _ _ _ v && (false || decide (((s.on.map PyData.int).map _).sum + ((s.off.map PyData.int).map _).sum + s.ready ≤ 50))) = true
  rw [h, sum_ints, sum_ints]
  simp
  omega
theorem few_ok {v : Wl} {s : S} (hv : v.Ok) (hs : s.Ok v) : isFew v s.d = true := by
  have h := state_ok hv hs
  have hn := hs.num
  unfold S.num at hn
  unfold isFew
  rw [h]
  show (true && decide (((s.on.map PyData.int).map _).sum + ((s.off.map PyData.int).map _).sum + s.ready ≤ 12)) = true
  rw [sum_ints, sum_ints]
  simp
  omega
theorem few_of {v : Wl} {d : PyData} (h : isFew v d = true) : ∃ s : S, d = s.d ∧ s.Ok v := by
  unfold isFew at h
  rw [Bool.and_eq_true] at h
  obtain ⟨h1, h2⟩ := h
  obtain ⟨a, b, xs, ys, f, rfl, hf, ht⟩ := isState_shape h1
  rcases hf with rfl | ⟨i, rfl, _⟩
  · simp at h2
  simp only [intsD, sum_ints, decide_eq_true_eq] at h2
  simp only [tail5, Bool.and_eq_true] at ht
  obtain ⟨t1, t2, t3, t4, t5⟩ := ht
  obtain ⟨l, rfl⟩ : ∃ l, a = .int l := by cases a <;> first | exact ⟨_, rfl⟩ | (simp [whole] at t1; done)
  obtain ⟨ps, rfl, p1, p2⟩ := levels_ints t2
  obtain ⟨xs', e1, x1, x2⟩ := counts_ints t3
  obtain ⟨ys', e2, y1, y2⟩ := counts_ints t4
  have inj : ∀ {l m : List Int}, intsD l = intsD m → l = m := fun {l m} e => by
    have e' : l.map PyData.int = m.map PyData.int := by injection e
    clear e
    induction l generalizing m with
    | nil => cases m with
      | nil => rfl
      | cons => simp at e'
    | cons x l ih => cases m with
      | nil => simp at e'
      | cons y m =>
        simp only [List.map_cons, List.cons.injEq, PyData.int.injEq] at e'
        rw [e'.1, ih e'.2]
  have q1 := inj e1
  have q2 := inj e2
  subst q1 q2
  rw [whole_int] at t1
  simp at t1
  have t5' : 0 ≤ i := by
    simp only [isNone, Bool.false_or] at t5
    rw [whole_int] at t5
    simp at t5
    exact t5.1
  exact ⟨⟨l, ps, xs, ys, i⟩, rfl, t1, ⟨p1, p2⟩, ⟨x1, fun x hx => (x2 x hx).1⟩, ⟨y1, fun x hx => (y2 x hx).1⟩, t5', h2⟩
theorem few_nd {v : Wl} {s : S} (hv : v.Ok) (h : isFew v s.d = true) : s.Ok v := by
  obtain ⟨t, e, ht⟩ := few_of h
  have : s = t := by
    have e' : s.l = t.l := by
      have := e
      unfold S.d at this
      injection this
    have inj : ∀ {l m : List Int}, intsD l = intsD m → l = m := fun {l m} e => by
      have e' : l.map PyData.int = m.map PyData.int := by injection e
      clear e
      induction l generalizing m with
      | nil => cases m with
        | nil => rfl
        | cons => simp at e'
      | cons x l ih => cases m with
        | nil => simp at e'
        | cons y m =>
          simp only [List.map_cons, List.cons.injEq, PyData.int.injEq] at e'
          rw [e'.1, ih e'.2]
    obtain ⟨a, b, c, d, e⟩ := s
    obtain ⟨a', b', c', d', e2⟩ := t
    simp only [S.l, List.cons.injEq, PyData.int.injEq, and_true] at e'
    obtain ⟨q1, q2, q3, q4, q5⟩ := e'
    rw [q1, inj q2, inj q3, inj q4, q5]
  rw [this]
  exact ht
theorem pick_all {α β : Type} {f : α → β} {p : α → Prop} : ∀ {l : List β}, (∀ x ∈ l, ∃ a, p a ∧ x = f a) → ∃ as : List α, l = as.map f ∧ ∀ a ∈ as, p a
  | [], _ => ⟨[], rfl, fun a h => nomatch h⟩
  | x :: l, h => by
    obtain ⟨a, pa, rfl⟩ := h x List.mem_cons_self
    obtain ⟨as, rfl, hp⟩ := pick_all (l := l) fun y hy => h y (List.mem_cons_of_mem _ hy)
    exact ⟨a :: as, rfl, fun b hb => by
      rcases List.mem_cons.mp hb with rfl | hb
      · exact pa
      · exact hp b hb⟩
theorem sm_ints {l : List Int} (h : l.length ≤ 1000) : sm (intsD l) := by
  show (l.map PyData.int).length ≤ 1000
  simpa using h
theorem sm5_S {v : Wl} {s : S} (hv : v.Ok) (hs : s.Ok v) : sm5 s.d := by
  have h1 := hs.past.1; have h2 := hs.on.1; have h3 := hs.off.1
  have := hv.lag; have := hv.run; have := hv.rest
  refine ⟨by simp [S.l], fun d hd => ?_⟩
  simp only [S.l, List.mem_cons, List.not_mem_nil, or_false] at hd
  rcases hd with rfl | rfl | rfl | rfl | rfl
  · exact trivial
  · exact sm_ints (by omega)
  · exact sm_ints (by omega)
  · exact sm_ints (by omega)
  · exact trivial
end Kw

/-! text D11 -/
/-! safe_paper, is_safe, least_number -/
namespace Kw
open PySem PySem.Spec PyProof.Rows L2 PySem.Calls
abbrev s_safe_paper : Stmt := top 45
theorem sc_safe_paper : FnScope ["well", "state", "low", "high", "fails", "found", "known"] ["well", "state", "low", "high", "fails"] (defScope s_safe_paper) := ⟨rfl, rfl, rfl, by decide +kernel, rfl, by decide +kernel, by decide +kernel⟩
abbrev s_is_safe : Stmt := top 44
theorem sc_is_safe : FnScope ["well", "state", "low", "high", "fails"] ["well", "state", "low", "high", "fails"] (defScope s_is_safe) := ⟨rfl, rfl, rfl, by decide +kernel, rfl, by decide +kernel, by decide +kernel⟩
abbrev s_least_number : Stmt := top 52
theorem sc_least_number : FnScope ["well", "level", "low", "high", "fails", "many", "state"] ["well", "level", "low", "high", "fails"] (defScope s_least_number) := ⟨rfl, rfl, rfl, by decide +kernel, rfl, by decide +kernel, by decide +kernel⟩
abbrev Ask := Bool × Wl × PyData × PyData × PyData × PyData
def Ask.l (a : Ask) : List PyData := [if a.1 then a.2.1.d else .tuple (a.2.1.l.take 8), a.2.2.1, a.2.2.2.1, a.2.2.2.2.1, a.2.2.2.2.2]
def Ask.Ok (a : Ask) : Prop := a.2.1.Ok ∧ sm5 a.2.2.1
def Ask.r (C1 C3 : Addr) (a : Ask) : Rs := asked C1 C3 a.1 a.2.1 a.2.2.1 a.2.2.2.1 a.2.2.2.2.1 a.2.2.2.2.2
def Bad (C1 C3 : Addr) (a : Ask) : Prop := ∃ c m, Ask.r C1 C3 a = .exc c m
section
variable {P : Program} {w : World} {K : PySem.W.Frag} {mg : Str → Option Value} {base : Heap} {C1 C2 C3 : Addr}
/-- a sheet of the program's: over, safe -/
def Told (v : Wl) (hi m : Int) (d : PyData) : Prop := (∃ ts : List PyData, d = .tuple [.str "over", .tuple ts] ∧ ts ≠ [] ∧ ts.length ≤ 5000 ∧ ∀ t ∈ ts, ThOk hi t) ∨ ∃ ns : List Nd, d = .tuple [.str "safe", .tuple (ns.map Nd.d)] ∧ ns.length ≤ 5000 ∧ ∀ n ∈ ns, NdOk v m n
def Rc.ask (a : Rc) : Ask := (true, a.1, a.2.1.d, .int a.2.2.1, .int a.2.2.2.1, .int a.2.2.2.2)
abbrev sp_safe_paper (C1 C3 : Addr) (P : Program) (w : World) (K : PySem.W.Frag) : Sp := ASp (α := Ask ⊕ Rc) P w K (fun a => match a with | .inl a => a.l | .inr a => a.ask.l) (fun a => match a with | .inl a => a.Ok ∧ Bad C1 C3 a | .inr a => Rc.Ok a ∧ FineAt a ∧ a.2.2.2.2 ≤ 4)
  fun a r => match a with | .inl a => r = a.r C1 C3 | .inr a => ∃ d, r = .dat d ∧ Told a.1 a.2.2.2.1 a.2.2.2.2 d
theorem asked_ok {a : Rc} (h : Rc.Ok a) (h4 : a.2.2.2.2 ≤ 4) : a.ask.r C1 C3 = .dat .none := by
  obtain ⟨v, s, lo, hi, fl⟩ := a
  obtain ⟨hv, hs, hlo, hlh, hhi, hfl⟩ : v.Ok ∧ s.Ok v ∧ 0 ≤ lo ∧ lo ≤ hi ∧ hi ≤ 10 ∧ 0 ≤ fl := h
  have hb : bounds (.int lo) (.int hi) (.int fl) = true := by
    simp only [bounds, whole_int]
    have h4' : fl ≤ 4 := h4
    simp
    omega
  show asked C1 C3 true v s.d (.int lo) (.int hi) (.int fl) = _
  unfold asked
  rw [if_pos rfl, few_ok hv hs, hb]
  rfl
theorem told_free {v : Wl} {hi m : Int} {d : PyData} (h : Told v hi m d) : lfree d = true := by
  rcases h with ⟨ts, rfl, _, _, ht⟩ | ⟨ns, rfl, _, _⟩
  · have : lfreeAll ts = true := lfreeAll_mem fun t h => th_free (ht t h)
    simp [lfree, lfreeAll, this]
  · have : lfreeAll (ns.map Nd.d) = true := lfreeAll_mem fun t h => by
      obtain ⟨n, _, rfl⟩ := List.mem_map.mp h
      exact lfree_nd n
    simp [lfree, lfreeAll, this]
theorem exc_nx {Γ : List SV} {Δ : Dl} {H : Hp} {Q : VK} {E : XK} {f : V → L2.St → Hp → Prop} {r : Rs} (hr : ∃ c m, r = .exc c m) (hq : RsOk P w K H Q E r) : NxC ⟨K, P, w, H⟩ Γ Δ (fun cls d _ H => E cls d H) f r := by
  obtain ⟨c, m, rfl⟩ := hr
  exact nx_exc hq
theorem ok_safe_paper {f : Addr} {fd : FuncData} (T : Tx P K mg C1 C2 C3) (F : Fun K "safe_paper" "safe_paper" s_safe_paper f fd) (c_need_asked : Cl P w K mg base 6 "need_asked" (sp_need_asked C1 C3 P w K)) (c_searched : Cl P w K mg base 6 "searched" (sp_searched P w K)) : FnG P w K mg base 7 f fd ["well", "state", "low", "high", "fails"] (sp_safe_paper C1 C3 P w K) := by
  refine body_g F sc_safe_paper (fun a => by cases a <;> rfl) (fun cdv ar up z H Q E hgd hr => ⟨_, (pss_cons (ps_expr (gCl (P := P) (w := w) (K := K) ⟨rfl, rfl, rfl⟩ rfl rfl c_need_asked hr hgd (by rfl) (takes_of rfl rfl rfl rfl) (pa_cons (pv 0) (pa_cons (pv 1) (pa_cons (pv 2) (pa_cons (pv 3) (pa_cons (pv 4) pa_nil))))))) (pss_cons (ps_asg (gCl (P := P) (w := w) (K := K) ⟨rfl, rfl, rfl⟩ rfl rfl c_searched hr hgd (by rfl) (takes_of rfl rfl rfl rfl) (pa_cons (pv 0) (pa_cons (pv 1) (pa_cons (pv 2) (pa_cons (pv 3) (pa_cons (pv 4) pa_nil)))))) (gTupT (n := 2) (P := P) (w := w) (K := K) ⟨rfl, rfl, rfl⟩ rfl (pgs_cons (pg_name (i := 5) sc_safe_paper.nd rfl (by first | exact Or.inl rfl | exact Or.inr rfl)) (pgs_cons (pg_name (i := 6) sc_safe_paper.nd rfl (by first | exact Or.inl rfl | exact Or.inr rfl)) pgs_nil)) rfl rfl)) (pss_one (ps_ret (pe_ifExp (pt_cmpR op_notN (pv 5) pe_non (nomark _)) (pe_tup (pa_cons (pe_k (by rfl) T.c_OVER_crews) (pa_cons (pv 5) pa_nil))) (pe_tup (pa_cons (pe_k (by rfl) T.c_SAFE) (pa_cons (pe_callTy (gTupO (P := P) (w := w) (K := K) ⟨rfl, rfl, rfl⟩) (by rfl) T.b_tuple boot_k_tuple (pa_cons (pe_callB (gSort (P := P) (w := w) (K := K) ⟨rfl, rfl, rfl⟩ (hu64 hr)) (by rfl) T.b_sorted boot_k_sorted (pa_cons (pe_callTy (gLst (P := P) (w := w) (K := K) ⟨rfl, rfl, rfl⟩ rfl) (by rfl) T.b_list boot_k_list (pa_cons (pv 6) pa_nil)) pa_nil)) pa_nil)) pa_nil)))))))), fun v hv hq => ?_⟩)
  have e5 : EVA ⟨K, P, w, H⟩ (Γ0 ["well", "state", "low", "high", "fails", "found", "known"] (match v with | .inl a => a.l | .inr a => a.ask.l)) [] (tCons (tVar 0) (tCons (tVar 1) (tCons (tVar 2) (tCons (tVar 3) (tCons (tVar 4) tNil))))) (match v with | .inl a => a.l | .inr a => a.ask.l) := by
    cases v <;> exact eva_cons (ev_var rfl) (eva_cons (ev_var rfl) (eva_cons (ev_var rfl) (eva_cons (ev_var rfl) (eva_cons (ev_var rfl) eva_nil))))
  cases v with
  | inl a =>
    obtain ⟨hok, hbad⟩ := hv
    refine nx_sq (nx_dropC (cl_call (α := Ask) a e5 hok) fun r hr => ?_)
    have hr' : r = a.r C1 C3 := hr
    subst hr'
    exact exc_nx hbad (hq _ rfl)
  | inr a =>
    obtain ⟨hok, hfine, h4⟩ := hv
    have hq' : ∀ d, Told a.1 a.2.2.2.1 a.2.2.2.2 d → RsOk P w K H Q E (.dat d) := fun d h => hq _ ⟨d, rfl, h⟩
    have ha := asked_ok (C1 := C1) (C3 := C3) hok h4
    obtain ⟨v, s, lo, hi, fl⟩ := a
    have hok0 := hok
    obtain ⟨hv, hs, hlo, hlh, hhi, hfl⟩ : v.Ok ∧ s.Ok v ∧ 0 ≤ lo ∧ lo ≤ hi ∧ hi ≤ 10 ∧ 0 ≤ fl := hok
    refine nx_sq (nx_dropC (cl_call (α := Ask) (Rc.ask (v, s, lo, hi, fl)) e5 ⟨hv, sm5_S hv hs⟩) fun r hr => ?_)
    have hr' : r = .dat .none := (show r = Ask.r C1 C3 (Rc.ask (v, s, lo, hi, fl)) from hr).trans ha
    subst hr'
    refine nxc_drop rfl ?_
    show Nx _ [.dat v.d, .dat s.d, .dat (.int lo), .dat (.int hi), .dat (.int fl), .any, .any] _ _
    (try dsimp only [List.set, setAll])
    refine nx_sq ?_
    refine cl_nx (cl_call (α := Rc) (v, s, lo, hi, fl) (eva_cons (ev_var rfl) (eva_cons (ev_var rfl) (eva_cons (ev_var rfl) (eva_cons (ev_var rfl) (eva_cons (ev_var rfl) eva_nil))))) ⟨hok0, hfine⟩) fun r hr => ?_
    obtain ⟨d, kp, rfl, hd, hkp, hkl⟩ := hr
    refine nxc_tupK ?_ hkp.free fun q => ?_
    · rcases hd with rfl | ⟨ts, rfl, _, _, ht⟩
      · rfl
      · exact lfreeAll_mem fun t h => th_free (ht t h)
    (try dsimp only [List.set, setAll])
    rcases hd with rfl | ⟨ts, rfl, hne, htl, ht⟩
    · obtain ⟨ns, ens, hns⟩ := pick_all (f := Nd.d) (p := NdOk v fl) (l := ((kp.map kP).map fun r => r.1.data).mergeSort (PySem.W.dataLe false id)) fun x hx => by
        have hx' := (List.mem_mergeSort.mp hx)
        simp only [List.map_map, List.mem_map, Function.comp_apply, kP, Nd.kl_data] at hx'
        obtain ⟨y, hy, rfl⟩ := hx'
        exact ⟨y.1, hkp.nd y hy, rfl⟩
      have hnl : ns.length = kp.length := by
        have := congrArg List.length ens
        simpa using this.symm
      refine nx_ret (d := .tuple [.str "safe", .tuple (ns.map Nd.d)]) ?_ (rt_of rfl (hq' _ (.inr ⟨ns, rfl, by omega, hns⟩)))
      apply ev_ifF
      · (repeat' (first
      | exact hix | exact hix2 | exact hix3 | exact hix4
      | ((with_reducible apply ev_var) <;> rfl)
      | (with_reducible exact ev_int) | (with_reducible exact ev_bl) | (with_reducible exact ev_str) | (with_reducible exact ev_non) | (with_reducible exact eva_nil) | (with_reducible exact evo_none)
      | (with_reducible (first | apply eva_cons | apply ev_tup | apply evo_some | apply x_add | apply e_sub | apply x_mul | apply ev_mod | apply ev_neg | apply e_div))
      | refine e_lenN (evm_var rfl) rfl ?_
      | (with_reducible (first | apply x_len | apply x_ix | apply x_sl | apply ev_isN | apply ev_notN | apply ev_eqD | apply ev_neD | apply e_lt | apply ev_le | apply ev_gt | apply ev_ge | apply ev_isInt | apply ev_isBool | apply ev_isTup | apply ev_isStr | apply ec_whole | apply eca_counts | apply eca_levels | exact ⟨rfl, rfl⟩ | apply ev_min | apply ev_intc | apply ev_sumT | apply evt_B | apply evt_test | apply evt_not | apply evt_and | apply evt_or | apply ev_andV | apply ev_orV | apply ev_notV | apply ev_ite | intro _ | exact True.intro | rfl))
      | exact True.intro | exact ⟨rfl, rfl⟩ | exact Nat.le_of_ble_eq_true rfl | rfl))
      · rfl
      rw [← ens]
      refine ev_tup (eva_cons ev_str (eva_cons (ev_tupL (evl_ev (evl_sort (evl_ev (l_listN (k := 0) (evm_var rfl) rfl (by simp; omega))) ?_ ?_ (by simp; omega) ?_))) eva_nil)) (Nat.le_of_ble_eq_true rfl)
      · intro x hx y hy
        simp only [List.map_map, List.mem_map, Function.comp_apply, kP, Nd.kl_data] at hx hy
        obtain ⟨n, _, rfl⟩ := hx
        obtain ⟨m, _, rfl⟩ := hy
        exact n.1.alike m.1
      · refine .inl fun x hx => ?_
        simp only [List.map_map, List.mem_map, Function.comp_apply, kP, Nd.kl_data] at hx
        obtain ⟨n, _, rfl⟩ := hx
        exact ⟨_, _, rfl⟩
      · intro x hx
        simp only [List.map_map, List.mem_map, Function.comp_apply, kP, Nd.kl_data] at hx
        obtain ⟨n, _, rfl⟩ := hx
        have := n.1.dep
        omega
    · refine nx_ret (d := .tuple [.str "over", .tuple ts]) ?_ (rt_of rfl (hq' _ (.inl ⟨ts, rfl, hne, htl, ht⟩)))
      apply ev_ifT
      · (repeat' (first
      | exact hix | exact hix2 | exact hix3 | exact hix4
      | ((with_reducible apply ev_var) <;> rfl)
      | (with_reducible exact ev_int) | (with_reducible exact ev_bl) | (with_reducible exact ev_str) | (with_reducible exact ev_non) | (with_reducible exact eva_nil) | (with_reducible exact evo_none)
      | (with_reducible (first | apply eva_cons | apply ev_tup | apply evo_some | apply x_add | apply e_sub | apply x_mul | apply ev_mod | apply ev_neg | apply e_div))
      | refine e_lenN (evm_var rfl) rfl ?_
      | (with_reducible (first | apply x_len | apply x_ix | apply x_sl | apply ev_isN | apply ev_notN | apply ev_eqD | apply ev_neD | apply e_lt | apply ev_le | apply ev_gt | apply ev_ge | apply ev_isInt | apply ev_isBool | apply ev_isTup | apply ev_isStr | apply ec_whole | apply eca_counts | apply eca_levels | exact ⟨rfl, rfl⟩ | apply ev_min | apply ev_intc | apply ev_sumT | apply evt_B | apply evt_test | apply evt_not | apply evt_and | apply evt_or | apply ev_andV | apply ev_orV | apply ev_notV | apply ev_ite | intro _ | exact True.intro | rfl))
      | exact True.intro | exact ⟨rfl, rfl⟩ | exact Nat.le_of_ble_eq_true rfl | rfl))
      · rfl
      (repeat' (first
      | exact hix | exact hix2 | exact hix3 | exact hix4
      | ((with_reducible apply ev_var) <;> rfl)
      | (with_reducible exact ev_int) | (with_reducible exact ev_bl) | (with_reducible exact ev_str) | (with_reducible exact ev_non) | (with_reducible exact eva_nil) | (with_reducible exact evo_none)
      | (with_reducible (first | apply eva_cons | apply ev_tup | apply evo_some | apply x_add | apply e_sub | apply x_mul | apply ev_mod | apply ev_neg | apply e_div))
      | refine e_lenN (evm_var rfl) rfl ?_
      | (with_reducible (first | apply x_len | apply x_ix | apply x_sl | apply ev_isN | apply ev_notN | apply ev_eqD | apply ev_neD | apply e_lt | apply ev_le | apply ev_gt | apply ev_ge | apply ev_isInt | apply ev_isBool | apply ev_isTup | apply ev_isStr | apply ec_whole | apply eca_counts | apply eca_levels | exact ⟨rfl, rfl⟩ | apply ev_min | apply ev_intc | apply ev_sumT | apply evt_B | apply evt_test | apply evt_not | apply evt_and | apply evt_or | apply ev_andV | apply ev_orV | apply ev_notV | apply ev_ite | intro _ | exact True.intro | rfl))
      | exact True.intro | exact ⟨rfl, rfl⟩ | exact Nat.le_of_ble_eq_true rfl | rfl))
abbrev sp_is_safe (C1 C3 : Addr) (P : Program) (w : World) (K : PySem.W.Frag) : Sp := ASp (α := Ask) P w K Ask.l (fun a => a.Ok ∧ Bad C1 C3 a) fun a r => r = a.r C1 C3
theorem ok_is_safe {f : Addr} {fd : FuncData} (T : Tx P K mg C1 C2 C3) (F : Fun K "is_safe" "is_safe" s_is_safe f fd) (c_need_asked : Cl P w K mg base 6 "need_asked" (sp_need_asked C1 C3 P w K)) : FnG P w K mg base 7 f fd ["well", "state", "low", "high", "fails"] (sp_is_safe C1 C3 P w K) := by
  refine body_g F sc_is_safe (fun a => rfl) (fun cdv ar up z H Q E hgd hr => ⟨_, (pss_cons (ps_expr (gCl (P := P) (w := w) (K := K) ⟨rfl, rfl, rfl⟩ rfl rfl c_need_asked hr hgd (by rfl) (takes_of rfl rfl rfl rfl) (pa_cons (pv 0) (pa_cons (pv 1) (pa_cons (pv 2) (pa_cons (pv 3) (pa_cons (pv 4) pa_nil))))))) (pss_one ps_never)), fun a hv hq => ?_⟩)
  refine nx_sq (nx_dropC (cl_call (α := Ask) a (eva_cons (ev_var rfl) (eva_cons (ev_var rfl) (eva_cons (ev_var rfl) (eva_cons (ev_var rfl) (eva_cons (ev_var rfl) eva_nil))))) hv.1) fun r hr => ?_)
  have hr' : r = a.r C1 C3 := hr
  subst hr'
  exact exc_nx hv.2 (hq _ rfl)
/-- least_number's arguments: level, low, high, fails -/
def leastR (C1 C3 : Addr) (a : Ask) : Rs := if a.1 then .exc C3 none else .exc C1 (some "form")
abbrev sp_least (C1 C3 : Addr) (P : Program) (w : World) (K : PySem.W.Frag) : Sp := ASp (α := Ask) P w K Ask.l (fun a => a.2.1.Ok ∧ (a.1 = true → (whole a.2.2.1 (.int 0) (.int a.2.1.top) && bounds a.2.2.2.1 a.2.2.2.2.1 a.2.2.2.2.2) = false)) fun a r => r = leastR C1 C3 a
theorem ok_least {f : Addr} {fd : FuncData} (T : Tx P K mg C1 C2 C3) (F : Fun K "least_number" "least_number" s_least_number f fd) (c_need_well : Cl P w K mg base 6 "need_well" (sp_need_well C1 P w K)) (c_need_bounds : Cl P w K mg base 6 "need_bounds" (sp_need_bounds C3 P w K)) (c_is_whole : Cl P w K mg base 6 "is_whole" (sp_is_whole P w K)) :
    FnG P w K mg base 7 f fd ["well", "level", "low", "high", "fails"] (sp_least C1 C3 P w K) := by
  refine body_g F sc_least_number (fun a => rfl) (fun cdv ar up z H Q E hgd hr => ⟨_, (pss_cons (ps_expr (gCl (P := P) (w := w) (K := K) ⟨rfl, rfl, rfl⟩ rfl rfl c_need_well hr hgd (by rfl) (takes_of rfl rfl rfl rfl) (pa_cons (pv 0) pa_nil))) (pss_cons (ps_if (pt_not (pt_val (gCl (P := P) (w := w) (K := K) ⟨rfl, rfl, rfl⟩ rfl rfl c_is_whole hr hgd (by rfl) (takes_of rfl rfl rfl rfl) (pa_cons (pv 1) (pa_cons pe_int (pa_cons (pe_ix (gIx (P := P) (w := w) (K := K) ⟨rfl, rfl, rfl⟩ (hu65 hr)) (pv 0) pe_int (fun _ _ => rfl)) pa_nil)))))) (pss_one (ps_raise rfl (takes_of rfl rfl rfl rfl) (pmk_text (k := 0) T.ox3 T.rx3 (hr.mono (by decide)) (by rfl) T.mx3 (pa_cons pe_str pa_nil)))) pss_nil) (pss_cons (ps_expr (gCl (P := P) (w := w) (K := K) ⟨rfl, rfl, rfl⟩ rfl rfl c_need_bounds hr hgd (by rfl) (takes_of rfl rfl rfl rfl) (pa_cons (pv 2) (pa_cons (pv 3) (pa_cons (pv 4) pa_nil))))) (pss_cons ps_never (pss_one ps_never))))), fun a hv hq => ?_⟩)
  obtain ⟨g, v, d, lo, hi, fl⟩ := a
  replace hq : RsOk P w K H Q E (leastR C1 C3 (g, v, d, lo, hi, fl)) := hq _ rfl
  obtain ⟨hv, hbad⟩ : v.Ok ∧ (g = true → (whole d (.int 0) (.int v.top) && bounds lo hi fl) = false) := hv
  show Nx _ [.dat (if g then v.d else .tuple (v.l.take 8)), .dat d, .dat lo, .dat hi, .dat fl, .any, .any] _ _
  (try dsimp only [List.set, setAll])
  refine nx_sq ?_
  refine nx_dropC (cl_call (α := Wl × Bool) (v, g) (eva_cons (ev_var rfl) eva_nil) hv) fun r hr => ?_
  have hr' : r = if g then .dat v.d else .exc C1 (some "form") := hr
  subst hr'
  cases g with
  | false => exact exc_nx ⟨_, _, rfl⟩ hq
  | true =>
    refine nxc_drop rfl ?_
    have hb := hbad rfl
    replace hq : RsOk P w K H Q E (.exc C3 none) := hq
    show Nx _ [.dat v.d, .dat d, .dat lo, .dat hi, .dat fl, .any, .any] _ _
    (try dsimp only [List.set, setAll])
    refine nx_sq ?_
    cases h1 : whole d (.int 0) (.int v.top) with
    | false =>
      apply nx_ifT
      · (repeat' (first
      | exact hix | exact hix2 | exact hix3 | exact hix4
      | ((with_reducible apply ev_var) <;> rfl)
      | (with_reducible exact ev_int) | (with_reducible exact ev_bl) | (with_reducible exact ev_str) | (with_reducible exact ev_non) | (with_reducible exact eva_nil) | (with_reducible exact evo_none)
      | (with_reducible (first | apply eva_cons | apply ev_tup | apply evo_some | apply x_add | apply e_sub | apply x_mul | apply ev_mod | apply ev_neg | apply e_div))
      | refine e_lenN (evm_var rfl) rfl ?_
      | (with_reducible (first | apply x_len | apply x_ix | apply x_sl | apply ev_isN | apply ev_notN | apply ev_eqD | apply ev_neD | apply e_lt | apply ev_le | apply ev_gt | apply ev_ge | apply ev_isInt | apply ev_isBool | apply ev_isTup | apply ev_isStr | apply ec_whole | apply eca_counts | apply eca_levels | exact ⟨rfl, rfl⟩ | apply ev_min | apply ev_intc | apply ev_sumT | apply evt_B | apply evt_test | apply evt_not | apply evt_and | apply evt_or | apply ev_andV | apply ev_orV | apply ev_notV | apply ev_ite | intro _ | exact True.intro | rfl))
      | exact True.intro | exact ⟨rfl, rfl⟩ | exact Nat.le_of_ble_eq_true rfl | rfl))
      · simp [h1]
      exact nx_raiseT ev_str hq
    | true =>
      apply nx_ifF
      · (repeat' (first
      | exact hix | exact hix2 | exact hix3 | exact hix4
      | ((with_reducible apply ev_var) <;> rfl)
      | (with_reducible exact ev_int) | (with_reducible exact ev_bl) | (with_reducible exact ev_str) | (with_reducible exact ev_non) | (with_reducible exact eva_nil) | (with_reducible exact evo_none)
      | (with_reducible (first | apply eva_cons | apply ev_tup | apply evo_some | apply x_add | apply e_sub | apply x_mul | apply ev_mod | apply ev_neg | apply e_div))
      | refine e_lenN (evm_var rfl) rfl ?_
      | (with_reducible (first | apply x_len | apply x_ix | apply x_sl | apply ev_isN | apply ev_notN | apply ev_eqD | apply ev_neD | apply e_lt | apply ev_le | apply ev_gt | apply ev_ge | apply ev_isInt | apply ev_isBool | apply ev_isTup | apply ev_isStr | apply ec_whole | apply eca_counts | apply eca_levels | exact ⟨rfl, rfl⟩ | apply ev_min | apply ev_intc | apply ev_sumT | apply evt_B | apply evt_test | apply evt_not | apply evt_and | apply evt_or | apply ev_andV | apply ev_orV | apply ev_notV | apply ev_ite | intro _ | exact True.intro | rfl))
      | exact True.intro | exact ⟨rfl, rfl⟩ | exact Nat.le_of_ble_eq_true rfl | rfl))
      · simp [h1]
      refine nx_nx ?_
      (try dsimp only [List.set, setAll])
      refine nx_sq ?_
      refine nx_dropC (cl_call (α := PyData × PyData × PyData) (lo, hi, fl) (eva_cons (ev_var rfl) (eva_cons (ev_var rfl) (eva_cons (ev_var rfl) eva_nil))) trivial) fun r hr => ?_
      have hr' : r = if bounds lo hi fl then .dat .none else .exc C3 none := hr
      rw [h1, Bool.true_and] at hb
      rw [hb] at hr'
      subst hr'
      exact exc_nx ⟨_, _, rfl⟩ hq
end
end Kw

/-! text M4 -/
/-! The data, in plain Lean, part 4: what the parts of a sheet are, and how they are shown. -/
namespace Kw
open PySem PySem.Spec PyProof.Rows L2 PySem.Calls
def shp : Nat → PyData
  | 0 => thOn 0
  | 1 => thOn 1
  | 2 => thOn 2
  | 3 => thRest 0
  | 4 => thRest 1
  | 5 => thRest 2
  | 6 => thReady
  | 7 => thBeat 0
  | 8 => thBeat 1
  | _ => thBeat 2
theorem shp_of {d : PyData} (h : ThOk 2 d) : ∃ i, i < 10 ∧ d = shp i := by
  rcases h with ⟨p, hp, rfl⟩ | ⟨p, hp, rfl⟩ | rfl | ⟨i, h0, h2, rfl⟩
  · have : p = 0 ∨ p = 1 ∨ p = 2 := by omega
    rcases this with rfl | rfl | rfl
    · exact ⟨0, by decide, rfl⟩
    · exact ⟨1, by decide, rfl⟩
    · exact ⟨2, by decide, rfl⟩
  · have : p = 0 ∨ p = 1 ∨ p = 2 := by omega
    rcases this with rfl | rfl | rfl
    · exact ⟨3, by decide, rfl⟩
    · exact ⟨4, by decide, rfl⟩
    · exact ⟨5, by decide, rfl⟩
  · exact ⟨6, by decide, rfl⟩
  · have : i = 0 ∨ i = 1 ∨ i = 2 := by omega
    rcases this with rfl | rfl | rfl
    · exact ⟨7, by decide, rfl⟩
    · exact ⟨8, by decide, rfl⟩
    · exact ⟨9, by decide, rfl⟩
def oddD : Nat → PyData
  | 0 => .none
  | 1 => .tuple [.str "beat", .bool true]
  | 2 => .str "x"
  | _ => .tuple []
theorem shown_shapes : ((List.range 10).all fun i => (List.range 10).all fun j => (decide ((shp i).shown = (shp j).shown)) == decide (i = j)) = true := by decide +kernel
theorem shown_odds : ((List.range 10).all fun i => (List.range 4).all fun j => !decide ((shp i).shown = (oddD j).shown)) = true := by decide +kernel
theorem shown_second : ((List.range 10).all fun i => decide (((shp i).shown.cps.toList)[1]? = some 39)) = true := by decide +kernel
theorem shp_inj {i j : Nat} (hi : i < 10) (hj : j < 10) (h : (shp i).shown = (shp j).shown) : i = j := by
  have h1 := List.all_eq_true.mp shown_shapes i (List.mem_range.mpr hi)
  have h2 := List.all_eq_true.mp h1 j (List.mem_range.mpr hj)
  rw [decide_eq_true h] at h2
  simpa using h2
theorem shp_odd {i j : Nat} (hi : i < 10) (hj : j < 4) : (shp i).shown ≠ (oddD j).shown := by
  have h1 := List.all_eq_true.mp shown_odds i (List.mem_range.mpr hi)
  have h2 := List.all_eq_true.mp h1 j (List.mem_range.mpr hj)
  simpa using h2
theorem cps_app (a b : Str) : (a ++ b).cps.toList = a.cps.toList ++ b.cps.toList := by
  show (a.cps ++ b.cps).toList = _
  simp
theorem cps_open : ("(" : Str).cps.toList = [40] := by decide +kernel
theorem tt_head (ts : List Str) : ∃ l, (tupleText ts).cps.toList = 40 :: l := by
  unfold tupleText
  rw [cps_app, cps_app, cps_open]
  exact ⟨_, rfl⟩
theorem tt_second (x y : Str) {l : List Nat} (h : x.cps.toList = 40 :: l) : ∃ l', (tupleText [x, y]).cps.toList = 40 :: 40 :: l' := by
  have e : Str.join ", " [x, y] = x ++ ", " ++ Str.join ", " [y] := rfl
  unfold tupleText
  rw [cps_app, cps_app, cps_open, e, cps_app, cps_app, h]
  exact ⟨_, rfl⟩
theorem nd_second (n : Nd) : (n.d.shown.cps.toList)[1]? = some 40 := by
  have e1 : n.1.d.shown = tupleText (PyData.shownAll n.1.l) := rfl
  obtain ⟨l, hl⟩ := tt_head (PyData.shownAll n.1.l)
  have e2 : n.d.shown = tupleText [n.1.d.shown, PyData.shown (.int n.2)] := rfl
  rw [← e1] at hl
  obtain ⟨l', h'⟩ := tt_second _ (PyData.shown (.int n.2)) hl
  rw [e2, h']
  rfl
theorem shp_nd {i : Nat} (hi : i < 10) (n : Nd) : (shp i).shown ≠ n.d.shown := fun h => by
  have h1 := of_decide_eq_true (List.all_eq_true.mp shown_second i (List.mem_range.mpr hi))
  rw [h, nd_second] at h1
  simp at h1
/-- a part of a sheet -/
def Elem (v : Wl) (d : PyData) : Prop := ThOk 2 d ∨ (∃ n : Nd, NdOk v 1 n ∧ d = n.d) ∨ ∃ j, j < 4 ∧ d = oddD j
/-! ### what repr asks -/
theorem ints_show : ((List.range 13).all fun i : Nat => decide ((PyData.shown (.int (i : Int))).length ≤ 13)) = true := by decide +kernel
theorem int_short {i : Int} (h0 : 0 ≤ i) (h1 : i ≤ 12) : PyData.leavesShort 13 (.int i) = true := by
  have h := List.all_eq_true.mp ints_show i.toNat (List.mem_range.mpr (by omega))
  rw [show ((i.toNat : Nat) : Int) = i by omega] at h
  simpa [PyData.leavesShort] using h
theorem int_weight {i : Int} (h0 : 0 ≤ i) (h1 : i ≤ 12) : PyData.weight (.int i) ≤ 4 ∧ PyData.showable (.int i) = true := by
  have hn : i.natAbs ≤ 12 := by omega
  have hl : i.natAbs.log2 ≤ 3 := by
    have : i.natAbs < 2 ^ 4 := by omega
    by_cases hz : i.natAbs = 0
    · rw [hz]; decide
    · have := (Nat.log2_lt hz).mpr this
      omega
  constructor
  · unfold PyData.weight
    split <;> omega
  · unfold PyData.showable
    exact decide_eq_true (by omega)
def allSmall (l : List Int) : Prop := ∀ x ∈ l, 0 ≤ x ∧ x ≤ 12
theorem ints_facts {l : List Int} (h : allSmall l) : PyData.leavesShort 13 (intsD l) = true ∧ PyData.weight (intsD l) ≤ 5 * l.length ∧ PyData.showable (intsD l) = true ∧ PyData.hasDict (intsD l) = false := by
  show PyData.leavesShortAll 13 (l.map .int) = true ∧ PyData.weightAll (l.map .int) ≤ 5 * l.length ∧ PyData.showableAll (l.map .int) = true ∧ PyData.hasDictAll (l.map .int) = false
  induction l with
  | nil => simp [PyData.leavesShortAll, PyData.weightAll, PyData.showableAll, PyData.hasDictAll]
  | cons x l ih =>
    obtain ⟨i1, i2, i3, i4⟩ := ih fun y hy => h y (List.mem_cons_of_mem _ hy)
    obtain ⟨x0, x1⟩ := h x List.mem_cons_self
    have w := int_weight x0 x1
    refine ⟨?_, ?_, ?_, ?_⟩
    · simp [PyData.leavesShortAll, int_short x0 x1, i1]
    · simp only [List.map_cons, PyData.weightAll, List.length_cons]
      omega
    · simp [PyData.showableAll, w.2, i3]
    · simp [PyData.hasDictAll, PyData.hasDict, i4]
structure ShowOk (d : PyData) : Prop where
  a : d.showable = true
  b : d.hasDict = false
  c : d.shown.length ≤ sizeLine
  e : d.depth ≤ 60
theorem nd_show {v : Wl} {n : Nd} (hv : v.Ok) (h : NdOk v 1 n) : ShowOk n.d := by
  obtain ⟨s, left⟩ := n
  obtain ⟨hs, h0, h1⟩ : s.Ok v ∧ 0 ≤ left ∧ left ≤ 1 := h
  obtain ⟨a1, a2, a3, a4, a5, a6, a7⟩ := S.small hs
  have t := hv.top
  have p1 : allSmall s.past := fun x hx => by have := hs.past.2 x hx; omega
  have p2 : allSmall s.on := fun x hx => ⟨hs.on.2 x hx, a6 x hx⟩
  have p3 : allSmall s.off := fun x hx => ⟨hs.off.2 x hx, a7 x hx⟩
  obtain ⟨b1, b2, b3, b4⟩ := ints_facts p1
  obtain ⟨c1, c2, c3, c4⟩ := ints_facts p2
  obtain ⟨d1, d2, d3, d4⟩ := ints_facts p3
  have l0 : 0 ≤ s.lev ∧ s.lev ≤ 12 := by have := hs.lev; omega
  have r0 : 0 ≤ s.ready ∧ s.ready ≤ 12 := ⟨hs.ready, a5⟩
  have w1 := int_weight l0.1 l0.2
  have w2 := int_weight r0.1 r0.2
  have w3 := int_weight (i := left) h0 (by omega)
  have n1 := hs.past.1; have n2 := hs.on.1; have n3 := hs.off.1
  have v1 := hv.lag; have v2 := hv.run; have v3 := hv.rest
  have hb : PyData.leavesShort 13 (Nd.d (s, left)) = true := by
    simp [Nd.d, S.d, S.l, PyData.leavesShort, PyData.leavesShortAll, int_short l0.1 l0.2, int_short r0.1 r0.2, int_short h0 (show left ≤ 12 by omega), b1, c1, d1]
    have q1 := int_short l0.1 l0.2; have q2 := int_short r0.1 r0.2; have q3 := int_short h0 (show left ≤ 12 by omega)
    simp [PyData.leavesShort] at q1 q2 q3
    exact ⟨⟨q1, q2⟩, q3⟩
  have hw : PyData.weight (Nd.d (s, left)) ≤ 100 := by
    simp only [Nd.d, S.d, S.l, PyData.weight, PyData.weightAll]
    simp only [PyData.weight] at w1 w2 w3 b2 c2 d2
    unfold intsD at b2 c2 d2 ⊢
    simp only [PyData.weight] at b2 c2 d2 ⊢
    omega
  refine ⟨?_, ?_, ?_, ?_⟩
  · simp [Nd.d, S.d, S.l, PyData.showable, PyData.showableAll, b3, c3, d3]
    have q1 := w1.2; have q2 := w2.2; have q3 := w3.2
    simp [PyData.showable] at q1 q2 q3
    exact ⟨⟨q1, q2⟩, q3⟩
  · simp [Nd.d, S.d, S.l, PyData.hasDict, PyData.hasDictAll, b4, c4, d4]
  · have := PyData.shown_le 13 (by decide) _ hb
    rw [sizeLine_eq]
    omega
  · have := Nd.dep (s, left)
    omega
theorem shp_show : ∀ i, i < 10 → ShowOk (shp i) := fun i hi => by
  have : ((List.range 10).all fun i => (shp i).showable && (!(shp i).hasDict && (decide ((shp i).shown.length ≤ 100) && decide ((shp i).depth ≤ 60)))) = true := by decide +kernel
  have h := List.all_eq_true.mp this i (List.mem_range.mpr hi)
  simp only [Bool.and_eq_true, Bool.not_eq_true', decide_eq_true_eq] at h
  exact ⟨h.1, h.2.1, by rw [sizeLine_eq]; omega, h.2.2.2⟩
theorem odd_show : ∀ i, i < 4 → ShowOk (oddD i) := fun i hi => by
  have : ((List.range 4).all fun i => (oddD i).showable && (!(oddD i).hasDict && (decide ((oddD i).shown.length ≤ 100) && decide ((oddD i).depth ≤ 60)))) = true := by decide +kernel
  have h := List.all_eq_true.mp this i (List.mem_range.mpr hi)
  simp only [Bool.and_eq_true, Bool.not_eq_true', decide_eq_true_eq] at h
  exact ⟨h.1, h.2.1, by rw [sizeLine_eq]; omega, h.2.2.2⟩
theorem elem_show {v : Wl} {d : PyData} (hv : v.Ok) (h : Elem v d) : ShowOk d := by
  rcases h with h | ⟨n, hn, rfl⟩ | ⟨j, hj, rfl⟩
  · obtain ⟨i, hi, rfl⟩ := shp_of h
    exact shp_show i hi
  · exact nd_show hv hn
  · exact odd_show j hj
theorem thOk_mono {h h' : Int} {d : PyData} (e : h ≤ h') (x : ThOk h d) : ThOk h' d := by
  rcases x with x | x | x | ⟨i, a, b, c⟩
  · exact .inl x
  · exact .inr (.inl x)
  · exact .inr (.inr (.inl x))
  · exact .inr (.inr (.inr ⟨i, a, by omega, c⟩))
theorem elem_free {v : Wl} {d : PyData} (h : Elem v d) : lfree d = true := by
  rcases h with h | ⟨n, hn, rfl⟩ | ⟨j, hj, rfl⟩
  · exact th_free h
  · exact lfree_nd n
  · match j, hj with
    | 0, _ => rfl
    | 1, _ => rfl
    | 2, _ => rfl
    | 3, _ => rfl
/-! ### what a thing leads to -/
def behindF (v : Wl) (lo hi : Int) (n : Nd) (d : PyData) : Option (Option Nd) := (((thL v lo hi n).filter fun t => decide (t.1.shown = d.shown)).map (·.2)).head?
def runsF (v : Wl) (lo hi : Int) : Nd → List PyData → Bool
  | _, [] => false
  | n, d :: r => match behindF v lo hi n d with
    | none => false
    | some none => r.isEmpty
    | some (some n') => !r.isEmpty && runsF v lo hi n' r
end Kw

/-! text D12 -/
/-! is_like, behind_thing -/
namespace Kw
open PySem PySem.Spec PyProof.Rows L2 PySem.Calls
abbrev s_is_like : Stmt := top 46
theorem sc_is_like : FnScope ["one", "thing"] ["one", "thing"] (defScope s_is_like) := ⟨rfl, rfl, rfl, by decide +kernel, rfl, by decide +kernel, by decide +kernel⟩
abbrev s_behind_thing : Stmt := top 47
theorem sc_behind_thing : FnScope ["well", "pair", "thing", "low", "high", "state", "left", "fresh", "one"] ["well", "pair", "thing", "low", "high"] (defScope s_behind_thing) := ⟨rfl, rfl, rfl, by decide +kernel, rfl, by decide +kernel, by decide +kernel⟩
/-! ### what a thing leads to, in parts -/
theorem behind_find (v : Wl) (lo hi : Int) (n : Nd) (d : PyData) : behindF v lo hi n d = ((thL v lo hi n).find? fun t => decide (t.1.shown = d.shown)).map (·.2) := by
  unfold behindF
  rw [List.head?_map, List.head?_filter]
theorem behind_none {v : Wl} {lo hi : Int} {n : Nd} {d : PyData} (h : ∀ t ∈ thL v lo hi n, t.1.shown ≠ d.shown) : behindF v lo hi n d = none := by
  rw [behind_find, List.find?_eq_none.mpr fun t ht => by simpa using h t ht]
  rfl
theorem beat_idx {i : Int} (h0 : 0 ≤ i) (h2 : i ≤ 2) : ∃ k, 7 ≤ k ∧ k < 10 ∧ thBeat i = shp k ∧ i = (k : Int) - 7 := by
  have : i = 0 ∨ i = 1 ∨ i = 2 := by omega
  rcases this with rfl | rfl | rfl
  · exact ⟨7, by decide, by decide, rfl, rfl⟩
  · exact ⟨8, by decide, by decide, rfl, rfl⟩
  · exact ⟨9, by decide, by decide, rfl, rfl⟩
theorem beat_inj {i j : Int} (hi : 0 ≤ i ∧ i ≤ 2) (hj : 0 ≤ j ∧ j ≤ 2) (h : (thBeat i).shown = (thBeat j).shown) : i = j := by
  obtain ⟨k, a1, a2, a3, a4⟩ := beat_idx hi.1 hi.2
  obtain ⟨m, b1, b2, b3, b4⟩ := beat_idx hj.1 hj.2
  rw [a3, b3] at h
  have := shp_inj a2 b2 h
  omega
def LsOk (d : PyData) : Prop := (∃ p : Nat, p < 3 ∧ d = thOn p) ∨ (∃ p : Nat, p < 3 ∧ d = thRest p) ∨ d = thReady
theorem ls_idx {d : PyData} (h : LsOk d) : ∃ k, k < 7 ∧ d = shp k := by
  rcases h with ⟨p, hp, rfl⟩ | ⟨p, hp, rfl⟩ | rfl
  · have : p = 0 ∨ p = 1 ∨ p = 2 := by omega
    rcases this with rfl | rfl | rfl
    · exact ⟨0, by decide, rfl⟩
    · exact ⟨1, by decide, rfl⟩
    · exact ⟨2, by decide, rfl⟩
  · have : p = 0 ∨ p = 1 ∨ p = 2 := by omega
    rcases this with rfl | rfl | rfl
    · exact ⟨3, by decide, rfl⟩
    · exact ⟨4, by decide, rfl⟩
    · exact ⟨5, by decide, rfl⟩
  · exact ⟨6, by decide, rfl⟩
theorem ls_beat {d : PyData} {i : Int} (h : LsOk d) (hi : 0 ≤ i ∧ i ≤ 2) : d.shown ≠ (thBeat i).shown := fun e => by
  obtain ⟨k, a1, rfl⟩ := ls_idx h
  obtain ⟨m, b1, b2, b3, _⟩ := beat_idx hi.1 hi.2
  rw [b3] at e
  have := shp_inj (by omega) b2 e
  omega
theorem losses_ls {v : Wl} {s : S} (hv : v.Ok) (hs : s.Ok v) : ∀ x ∈ losses s, LsOk x.1 := by
  intro x hx
  have l2 : s.on.length ≤ 3 := by have := hs.on.1; have := hv.run.2; omega
  have l3 : s.off.length ≤ 3 := by have := hs.off.1; have := hv.rest.2; omega
  simp only [losses, lossOn, lossOff, lossRdy, List.mem_append, List.mem_flatMap, List.mem_range] at hx
  rcases hx with (⟨p, hp, h⟩ | ⟨p, hp, h⟩) | h
  · split at h <;> simp at h
    subst h
    exact .inl ⟨p, by omega, rfl⟩
  · split at h <;> simp at h
    subst h
    exact .inr (.inl ⟨p, by omega, rfl⟩)
  · split at h <;> simp at h
    subst h
    exact .inr (.inr rfl)
theorem lossTh_mem {n : Nd} {t : Th} (h : t ∈ lossTh n) : 0 < n.2 ∧ ∃ x ∈ losses n.1, t = (x.1, some (x.2, n.2 - 1)) := by
  unfold lossTh at h
  split at h
  · obtain ⟨x, hx, rfl⟩ := List.mem_map.mp h
    exact ⟨‹_›, x, hx, rfl⟩
  · cases h
theorem behind_beat {v : Wl} {lo hi i : Int} {n : Nd} (hv : v.Ok) (hn : n.1.Ok v) (hlo : 0 ≤ lo) (hhi : hi ≤ 2) (hi0 : 0 ≤ i ∧ i ≤ 2) :
    behindF v lo hi n (thBeat i) = if lo ≤ i ∧ i ≤ hi then (match stepF v n.1 i with | .over => some none | .dry => none | .st s' => some (some (s', n.2))) else none := by
  rw [behind_find]
  unfold thL
  rw [List.find?_append]
  have e1 : (lossTh n).find? (fun t => decide (t.1.shown = (thBeat i).shown)) = none := List.find?_eq_none.mpr fun t ht => by
    obtain ⟨_, x, hx, rfl⟩ := lossTh_mem ht
    simpa using ls_beat (losses_ls hv hn x hx) hi0
  rw [e1, Option.none_or]
  have gen : ∀ l : List Int, (∀ j ∈ l, 0 ≤ j ∧ j ≤ 2) → l.Nodup → ((l.flatMap (beat1 v n)).find? fun t => decide (t.1.shown = (thBeat i).shown)).map (·.2) = if i ∈ l then (match stepF v n.1 i with | .over => some none | .dry => none | .st s' => some (some (s', n.2))) else none := by
    intro l
    induction l with
    | nil => intro _ _; simp
    | cons j r ih =>
      intro hj hnd
      rw [List.flatMap_cons, List.find?_append]
      have hj0 := hj j List.mem_cons_self
      have ih' := ih (fun k hk => hj k (List.mem_cons_of_mem _ hk)) (List.nodup_cons.mp hnd).2
      by_cases hji : j = i
      · subst hji
        have hno : ¬ j ∈ r := (List.nodup_cons.mp hnd).1
        rw [if_neg hno] at ih'
        rw [if_pos List.mem_cons_self]
        cases ho : stepF v n.1 j with
        | over => simp [beat1, ho]
        | dry =>
          simp only [beat1, ho, List.find?_nil, Option.none_or]
          exact ih'
        | st s' => simp [beat1, ho]
      · have hne : (thBeat j).shown ≠ (thBeat i).shown := fun e => hji (beat_inj hj0 hi0 e)
        have e2 : (beat1 v n j).find? (fun t => decide (t.1.shown = (thBeat i).shown)) = none := List.find?_eq_none.mpr fun t ht => by
          unfold beat1 at ht
          split at ht <;> simp at ht <;> subst ht <;> simpa using hne
        rw [e2, Option.none_or, ih']
        have : i ∈ j :: r ↔ i ∈ r := by simp [Ne.symm hji]
        by_cases hm : i ∈ r
        · rw [if_pos hm, if_pos (this.mpr hm)]
        · rw [if_neg hm, if_neg fun z => hm (this.mp z)]
  rw [gen (rng lo hi) (fun j hj => by have := rng_mem hj; omega) ?_]
  · have : i ∈ rng lo hi ↔ lo ≤ i ∧ i ≤ hi := ⟨rng_mem, fun h => List.mem_map.mpr ⟨(i - lo).toNat, List.mem_range.mpr (by omega), by omega⟩⟩
    by_cases hm : i ∈ rng lo hi
    · rw [if_pos hm, if_pos (this.mp hm)]
    · rw [if_neg hm, if_neg fun z => hm (this.mpr z)]
  · unfold rng
    refine List.Pairwise.map _ (fun a b h => ?_) List.nodup_range
    intro z
    exact h (by omega)
theorem behind_loss {v : Wl} {lo hi : Int} {n : Nd} {d : PyData} (hlo : 0 ≤ lo) (hhi : hi ≤ 2) (hd : LsOk d) :
    behindF v lo hi n d = if 0 < n.2 then ((losses n.1).find? fun x => decide (x.1.shown = d.shown)).map (fun x => some (x.2, n.2 - 1)) else none := by
  rw [behind_find]
  unfold thL
  rw [List.find?_append]
  have e1 : ((rng lo hi).flatMap (beat1 v n)).find? (fun t => decide (t.1.shown = d.shown)) = none := List.find?_eq_none.mpr fun t ht => by
    obtain ⟨i, hi', h⟩ := List.mem_flatMap.mp ht
    have hr := rng_mem hi'
    have hne := ls_beat hd (i := i) (by omega)
    unfold beat1 at h
    split at h <;> simp at h <;> subst h <;> simpa using Ne.symm hne
  rw [e1, Option.or_none]
  unfold lossTh
  by_cases h : 0 < n.2
  · rw [if_pos h, if_pos h, List.find?_map, Option.map_map]
    rfl
  · rw [if_neg h, if_neg h]
    rfl
section
variable {P : Program} {w : World} {K : PySem.W.Frag} {mg : Str → Option Value} {base : Heap} {C1 C2 C3 : Addr}
abbrev sp_is_like (P : Program) (w : World) (K : PySem.W.Frag) : Sp := ASp (α := PyData × PyData) P w K (fun a => [a.1, a.2]) (fun a => LsOk a.1 ∧ LsOk a.2) fun a r => r = .dat (.bool (decide (a.1.shown = a.2.shown)))
theorem str_ne {x y : Str} (h : (x == y) = false) : PyData.eqv (.str x) (.str y) = false := by rw [PyData.eqv]; exact h
theorem str_eq (x : Str) : PyData.eqv (.str x) (.str x) = true := by rw [PyData.eqv]; simp
theorem on_shaped : SeqAt.shaped (.str "on") = true := str_shaped _ (by decide +kernel)
theorem rest_shaped : SeqAt.shaped (.str "rest") = true := str_shaped _ (by decide +kernel)
theorem ready_shaped : SeqAt.shaped (.str "ready") = true := str_shaped _ (by decide +kernel)
theorem beat_shaped : SeqAt.shaped (.str "beat") = true := str_shaped _ (by decide +kernel)
theorem sh_on {p q : Nat} (hp : p < 3) (hq : q < 3) : decide ((thOn p).shown = (thOn q).shown) = decide (p = q) := by
  obtain ⟨e1, e2⟩ : thOn p = shp p ∧ thOn q = shp q := by
    constructor
    · match p, hp with | 0, _ => rfl | 1, _ => rfl | 2, _ => rfl
    · match q, hq with | 0, _ => rfl | 1, _ => rfl | 2, _ => rfl
  rw [e1, e2]
  by_cases h : p = q
  · subst h; simp
  · rw [decide_eq_false h]
    exact decide_eq_false fun z => h (shp_inj (by omega) (by omega) z)
theorem sh_rest {p q : Nat} (hp : p < 3) (hq : q < 3) : decide ((thRest p).shown = (thRest q).shown) = decide (p = q) := by
  obtain ⟨e1, e2⟩ : thRest p = shp (3 + p) ∧ thRest q = shp (3 + q) := by
    constructor
    · match p, hp with | 0, _ => rfl | 1, _ => rfl | 2, _ => rfl
    · match q, hq with | 0, _ => rfl | 1, _ => rfl | 2, _ => rfl
  rw [e1, e2]
  by_cases h : p = q
  · subst h; simp
  · rw [decide_eq_false h]
    exact decide_eq_false fun z => h (by have := shp_inj (by omega) (by omega) z; omega)
theorem sh_ne {a b : PyData} {i j : Nat} (ha : a = shp i) (hb : b = shp j) (hi : i < 10) (hj : j < 10) (h : i ≠ j) : decide (a.shown = b.shown) = false := by
  subst ha hb
  exact decide_eq_false fun z => h (shp_inj hi hj z)
theorem on_idx {p : Nat} (hp : p < 3) : thOn p = shp p := by match p, hp with | 0, _ => rfl | 1, _ => rfl | 2, _ => rfl
theorem rest_idx {p : Nat} (hp : p < 3) : thRest p = shp (3 + p) := by match p, hp with | 0, _ => rfl | 1, _ => rfl | 2, _ => rfl
theorem ok_is_like {f : Addr} {fd : FuncData} (T : Tx P K mg C1 C2 C3) (F : Fun K "is_like" "is_like" s_is_like f fd) (c_is_whole : Cl P w K mg base 1 "is_whole" (sp_is_whole P w K)) : FnG P w K mg base 2 f fd ["one", "thing"] (sp_is_like P w K) := by
  refine body_g F sc_is_like (fun a => rfl) (fun cdv ar up z H Q E hgd hr => ⟨_, (pss_cons (ps_if (PW.pt (pw_or (pt_cmpR (gNe (P := P) (w := w) (K := K) ⟨rfl, rfl, rfl⟩ (hu65 hr)) (pe_callB (gLen (P := P) (w := w) (K := K) ⟨rfl, rfl, rfl⟩ (hu65 hr)) (by rfl) T.b_len boot_k_len (pa_cons (pv 1) pa_nil)) (pe_callB (gLen (P := P) (w := w) (K := K) ⟨rfl, rfl, rfl⟩ (hu65 hr)) (by rfl) T.b_len boot_k_len (pa_cons (pv 0) pa_nil)) (nomark _)) (pw_or1 (pt_cmpR (gNe (P := P) (w := w) (K := K) ⟨rfl, rfl, rfl⟩ (hu65 hr)) (pe_ix (gIx (P := P) (w := w) (K := K) ⟨rfl, rfl, rfl⟩ (hu65 hr)) (pv 1) pe_int (fun _ _ => rfl)) (pe_ix (gIx (P := P) (w := w) (K := K) ⟨rfl, rfl, rfl⟩ (hu65 hr)) (pv 0) pe_int (fun _ _ => rfl)) (nomark _))))) (pss_one (ps_ret pe_bl)) pss_nil) (pss_one (ps_ret (pe_or (pe_cmpR (gEq (P := P) (w := w) (K := K) ⟨rfl, rfl, rfl⟩ (hu65 hr)) (pe_callB (gLen (P := P) (w := w) (K := K) ⟨rfl, rfl, rfl⟩ (hu65 hr)) (by rfl) T.b_len boot_k_len (pa_cons (pv 0) pa_nil)) pe_int (nomark _)) (pe_one (pe_and (gCl (P := P) (w := w) (K := K) ⟨rfl, rfl, rfl⟩ rfl rfl c_is_whole hr hgd (by rfl) takesF (pa_cons (pe_ix (gIx (P := P) (w := w) (K := K) ⟨rfl, rfl, rfl⟩ (hu65 hr)) (pv 1) pe_int (fun _ _ => rfl)) (pa_cons pe_int (pa_cons pe_non pa_nil)))) (pe_one (pe_cmpR (gEq (P := P) (w := w) (K := K) ⟨rfl, rfl, rfl⟩ (hu65 hr)) (pe_ix (gIx (P := P) (w := w) (K := K) ⟨rfl, rfl, rfl⟩ (hu65 hr)) (pv 1) pe_int (fun _ _ => rfl)) (pe_ix (gIx (P := P) (w := w) (K := K) ⟨rfl, rfl, rfl⟩ (hu65 hr)) (pv 0) pe_int (fun _ _ => rfl)) (nomark _))))))))), fun a hv hq => ?_⟩)
  obtain ⟨x, y⟩ := a
  replace hq : RsOk P w K H Q E (.dat (.bool (decide (x.shown = y.shown)))) := hq _ rfl
  obtain ⟨hx, hy⟩ : LsOk x ∧ LsOk y := hv
  show Nx _ [.dat x, .dat y] _ _
  have h2 : ∀ {a b : Str} {i j : Int}, SeqAt.shaped (.str a) = true → SeqAt.shaped (.str b) = true → RsOk P w K H Q E (.dat (.bool ((a == b) && decide (j = i)))) → 1 ≤ j →
      Nx ⟨K, P, w, H⟩ [.dat (.tuple [.str a, .int i]), .dat (.tuple [.str b, .int j])] [] (tSeq (tIfS (tOr (tTest (tOp (rNeD K) (tCB (uLen P w K) (tCons (tVar 1) tNil)) (tCB (uLen P w K) (tCons (tVar 0) tNil)))) (tTest (tOp (rNeD K) (tOp (uIx P w K) (tVar 1) (tC (.int 0))) (tOp (uIx P w K) (tVar 0) (tC (.int 0)))))) (tRet (tC (.bl false))) tNext)
        (tRet (tOrV (tOp (rEqD K) (tCB (uLen P w K) (tCons (tVar 0) tNil)) (tC (.int 1))) (tAndV (tCallS (sp_is_whole P w K) (WE fun _ _ _ _ => False) (tCons (tOp (uIx P w K) (tVar 1) (tC (.int 1))) (tCons (tC (.int 1)) (tCons (tC .non) tNil)))) (tOp (rEqD K) (tOp (uIx P w K) (tVar 1) (tC (.int 1))) (tOp (uIx P w K) (tVar 0) (tC (.int 1))))))) { nx := fun _ H' => Q .non H', rt := Q }) := fun {a b i j} ha hb hq hj => by
    have e3 : PyData.eqv (.str b) (.str a) = (a == b) := by
      rw [PyData.eqv]
      exact BEq.comm
    refine nx_sq ?_
    cases hab : (a == b) with
    | false =>
      rw [hab] at e3
      rw [hab, Bool.false_and] at hq
      apply nx_ifT
      · (repeat' (first
      | exact hix | exact hix2 | exact hix3 | exact hix4
      | ((with_reducible apply ev_var) <;> rfl)
      | (with_reducible exact ev_int) | (with_reducible exact ev_bl) | (with_reducible exact ev_str) | (with_reducible exact ev_non) | (with_reducible exact eva_nil) | (with_reducible exact evo_none)
      | (with_reducible (first | apply eva_cons | apply ev_tup | apply evo_some | apply x_add | apply e_sub | apply x_mul | apply ev_mod | apply ev_neg | apply e_div))
      | refine e_lenN (evm_var rfl) rfl ?_
      | (with_reducible (first | apply x_len | apply x_ix | apply x_sl | apply ev_isN | apply ev_notN | apply ev_eqD | apply ev_neD | apply e_lt | apply ev_le | apply ev_gt | apply ev_ge | apply ev_isInt | apply ev_isBool | apply ev_isTup | apply ev_isStr | apply ec_whole | apply eca_counts | apply eca_levels | exact ⟨rfl, rfl⟩ | apply ev_min | apply ev_intc | apply ev_sumT | apply evt_B | apply evt_test | apply evt_not | apply evt_and | apply evt_or | apply ev_andV | apply ev_orV | apply ev_notV | apply ev_ite | intro _ | exact True.intro | rfl))
      | exact True.intro | exact ⟨rfl, rfl⟩ | exact Nat.le_of_ble_eq_true rfl | rfl))
        · exact hb
        · exact ha
      · simp [eqv_ints, e3]
      exact nx_ret ev_bl (rt_of rfl hq)
    | true =>
      rw [hab] at e3
      rw [hab, Bool.true_and] at hq
      apply nx_ifF
      · (repeat' (first
      | exact hix | exact hix2 | exact hix3 | exact hix4
      | ((with_reducible apply ev_var) <;> rfl)
      | (with_reducible exact ev_int) | (with_reducible exact ev_bl) | (with_reducible exact ev_str) | (with_reducible exact ev_non) | (with_reducible exact eva_nil) | (with_reducible exact evo_none)
      | (with_reducible (first | apply eva_cons | apply ev_tup | apply evo_some | apply x_add | apply e_sub | apply x_mul | apply ev_mod | apply ev_neg | apply e_div))
      | refine e_lenN (evm_var rfl) rfl ?_
      | (with_reducible (first | apply x_len | apply x_ix | apply x_sl | apply ev_isN | apply ev_notN | apply ev_eqD | apply ev_neD | apply e_lt | apply ev_le | apply ev_gt | apply ev_ge | apply ev_isInt | apply ev_isBool | apply ev_isTup | apply ev_isStr | apply ec_whole | apply eca_counts | apply eca_levels | exact ⟨rfl, rfl⟩ | apply ev_min | apply ev_intc | apply ev_sumT | apply evt_B | apply evt_test | apply evt_not | apply evt_and | apply evt_or | apply ev_andV | apply ev_orV | apply ev_notV | apply ev_ite | intro _ | exact True.intro | rfl))
      | exact True.intro | exact ⟨rfl, rfl⟩ | exact Nat.le_of_ble_eq_true rfl | rfl))
        · exact hb
        · exact ha
      · simp [eqv_ints, e3]
      refine nx_nx ?_
      (try dsimp only [List.set, setAll])
      apply nx_ret2 (k := rt_of rfl hq)
      · (repeat' (first
      | exact hix | exact hix2 | exact hix3 | exact hix4
      | ((with_reducible apply ev_var) <;> rfl)
      | (with_reducible exact ev_int) | (with_reducible exact ev_bl) | (with_reducible exact ev_str) | (with_reducible exact ev_non) | (with_reducible exact eva_nil) | (with_reducible exact evo_none)
      | (with_reducible (first | apply eva_cons | apply ev_tup | apply evo_some | apply x_add | apply e_sub | apply x_mul | apply ev_mod | apply ev_neg | apply e_div))
      | refine e_lenN (evm_var rfl) rfl ?_
      | (with_reducible (first | apply x_len | apply x_ix | apply x_sl | apply ev_isN | apply ev_notN | apply ev_eqD | apply ev_neD | apply e_lt | apply ev_le | apply ev_gt | apply ev_ge | apply ev_isInt | apply ev_isBool | apply ev_isTup | apply ev_isStr | apply ec_whole | apply eca_counts | apply eca_levels | exact ⟨rfl, rfl⟩ | apply ev_min | apply ev_intc | apply ev_sumT | apply evt_B | apply evt_test | apply evt_not | apply evt_and | apply evt_or | apply ev_andV | apply ev_orV | apply ev_notV | apply ev_ite | intro _ | exact True.intro | rfl))
      | exact True.intro | exact ⟨rfl, rfl⟩ | exact Nat.le_of_ble_eq_true rfl | rfl))
      · rw [eqv_ints, eqv_ints]
        simp [whole, geD, leD, hj]
  rcases hx with ⟨p, hp, rfl⟩ | ⟨p, hp, rfl⟩ | rfl
  · rcases hy with ⟨q, hq', rfl⟩ | ⟨q, hq', rfl⟩ | rfl
    · refine h2 on_shaped on_shaped ?_ (by omega)
      rw [sh_on hp hq'] at hq
      have e : (decide ((q : Int) + 1 = (p : Int) + 1)) = decide (p = q) := by rw [Bool.eq_iff_iff]; simp; omega
      rw [e, show (("on" : Str) == "on") = true by simp, Bool.true_and]
      exact hq
    · refine h2 on_shaped rest_shaped ?_ (by omega)
      rw [sh_ne (on_idx hp) (rest_idx hq') (by omega) (by omega) (by omega)] at hq
      rw [show (("on" : Str) == "rest") = false by decide +kernel, Bool.false_and]
      exact hq
    · rw [sh_ne (b := thReady) (i := p) (j := 6) (on_idx hp) rfl (by omega) (by omega) (by omega)] at hq
      (try dsimp only [List.set, setAll])
      refine nx_sq ?_
      apply nx_ifT (b := true)
      · apply evt_orT
        · show EVT ⟨K, P, w, H⟩ [.dat (.tuple [.str "on", .int ((p : Int) + 1)]), .dat (.tuple [.str "ready"])] _ _ _
          (repeat' (first
      | exact hix | exact hix2 | exact hix3 | exact hix4
      | ((with_reducible apply ev_var) <;> rfl)
      | (with_reducible exact ev_int) | (with_reducible exact ev_bl) | (with_reducible exact ev_str) | (with_reducible exact ev_non) | (with_reducible exact eva_nil) | (with_reducible exact evo_none)
      | (with_reducible (first | apply eva_cons | apply ev_tup | apply evo_some | apply x_add | apply e_sub | apply x_mul | apply ev_mod | apply ev_neg | apply e_div))
      | refine e_lenN (evm_var rfl) rfl ?_
      | (with_reducible (first | apply x_len | apply x_ix | apply x_sl | apply ev_isN | apply ev_notN | apply ev_eqD | apply ev_neD | apply e_lt | apply ev_le | apply ev_gt | apply ev_ge | apply ev_isInt | apply ev_isBool | apply ev_isTup | apply ev_isStr | apply ec_whole | apply eca_counts | apply eca_levels | exact ⟨rfl, rfl⟩ | apply ev_min | apply ev_intc | apply ev_sumT | apply evt_B | apply evt_test | apply evt_not | apply evt_and | apply evt_or | apply ev_andV | apply ev_orV | apply ev_notV | apply ev_ite | intro _ | exact True.intro | rfl))
      | exact True.intro | exact ⟨rfl, rfl⟩ | exact Nat.le_of_ble_eq_true rfl | rfl))
        · rfl
      · rfl
      exact nx_ret ev_bl (rt_of rfl hq)
  · rcases hy with ⟨q, hq', rfl⟩ | ⟨q, hq', rfl⟩ | rfl
    · refine h2 rest_shaped on_shaped ?_ (by omega)
      rw [sh_ne (rest_idx hp) (on_idx hq') (by omega) (by omega) (by omega)] at hq
      rw [show (("rest" : Str) == "on") = false by decide +kernel, Bool.false_and]
      exact hq
    · refine h2 rest_shaped rest_shaped ?_ (by omega)
      rw [sh_rest hp hq'] at hq
      have e : (decide ((q : Int) + 1 = (p : Int) + 1)) = decide (p = q) := by rw [Bool.eq_iff_iff]; simp; omega
      rw [e, show (("rest" : Str) == "rest") = true by simp, Bool.true_and]
      exact hq
    · rw [sh_ne (b := thReady) (i := 3 + p) (j := 6) (rest_idx hp) rfl (by omega) (by omega) (by omega)] at hq
      (try dsimp only [List.set, setAll])
      refine nx_sq ?_
      apply nx_ifT (b := true)
      · apply evt_orT
        · show EVT ⟨K, P, w, H⟩ [.dat (.tuple [.str "rest", .int ((p : Int) + 1)]), .dat (.tuple [.str "ready"])] _ _ _
          (repeat' (first
      | exact hix | exact hix2 | exact hix3 | exact hix4
      | ((with_reducible apply ev_var) <;> rfl)
      | (with_reducible exact ev_int) | (with_reducible exact ev_bl) | (with_reducible exact ev_str) | (with_reducible exact ev_non) | (with_reducible exact eva_nil) | (with_reducible exact evo_none)
      | (with_reducible (first | apply eva_cons | apply ev_tup | apply evo_some | apply x_add | apply e_sub | apply x_mul | apply ev_mod | apply ev_neg | apply e_div))
      | refine e_lenN (evm_var rfl) rfl ?_
      | (with_reducible (first | apply x_len | apply x_ix | apply x_sl | apply ev_isN | apply ev_notN | apply ev_eqD | apply ev_neD | apply e_lt | apply ev_le | apply ev_gt | apply ev_ge | apply ev_isInt | apply ev_isBool | apply ev_isTup | apply ev_isStr | apply ec_whole | apply eca_counts | apply eca_levels | exact ⟨rfl, rfl⟩ | apply ev_min | apply ev_intc | apply ev_sumT | apply evt_B | apply evt_test | apply evt_not | apply evt_and | apply evt_or | apply ev_andV | apply ev_orV | apply ev_notV | apply ev_ite | intro _ | exact True.intro | rfl))
      | exact True.intro | exact ⟨rfl, rfl⟩ | exact Nat.le_of_ble_eq_true rfl | rfl))
        · rfl
      · rfl
      exact nx_ret ev_bl (rt_of rfl hq)
  · rcases hy with ⟨q, hq', rfl⟩ | ⟨q, hq', rfl⟩ | rfl
    · rw [sh_ne (a := thReady) (i := 6) (j := q) rfl (on_idx hq') (by omega) (by omega) (by omega)] at hq
      (try dsimp only [List.set, setAll])
      refine nx_sq ?_
      apply nx_ifT (b := true)
      · apply evt_orT
        · show EVT ⟨K, P, w, H⟩ [.dat (.tuple [.str "ready"]), .dat (.tuple [.str "on", .int ((q : Int) + 1)])] _ _ _
          (repeat' (first
      | exact hix | exact hix2 | exact hix3 | exact hix4
      | ((with_reducible apply ev_var) <;> rfl)
      | (with_reducible exact ev_int) | (with_reducible exact ev_bl) | (with_reducible exact ev_str) | (with_reducible exact ev_non) | (with_reducible exact eva_nil) | (with_reducible exact evo_none)
      | (with_reducible (first | apply eva_cons | apply ev_tup | apply evo_some | apply x_add | apply e_sub | apply x_mul | apply ev_mod | apply ev_neg | apply e_div))
      | refine e_lenN (evm_var rfl) rfl ?_
      | (with_reducible (first | apply x_len | apply x_ix | apply x_sl | apply ev_isN | apply ev_notN | apply ev_eqD | apply ev_neD | apply e_lt | apply ev_le | apply ev_gt | apply ev_ge | apply ev_isInt | apply ev_isBool | apply ev_isTup | apply ev_isStr | apply ec_whole | apply eca_counts | apply eca_levels | exact ⟨rfl, rfl⟩ | apply ev_min | apply ev_intc | apply ev_sumT | apply evt_B | apply evt_test | apply evt_not | apply evt_and | apply evt_or | apply ev_andV | apply ev_orV | apply ev_notV | apply ev_ite | intro _ | exact True.intro | rfl))
      | exact True.intro | exact ⟨rfl, rfl⟩ | exact Nat.le_of_ble_eq_true rfl | rfl))
        · rfl
      · rfl
      exact nx_ret ev_bl (rt_of rfl hq)
    · rw [sh_ne (a := thReady) (i := 6) (j := 3 + q) rfl (rest_idx hq') (by omega) (by omega) (by omega)] at hq
      (try dsimp only [List.set, setAll])
      refine nx_sq ?_
      apply nx_ifT (b := true)
      · apply evt_orT
        · show EVT ⟨K, P, w, H⟩ [.dat (.tuple [.str "ready"]), .dat (.tuple [.str "rest", .int ((q : Int) + 1)])] _ _ _
          (repeat' (first
      | exact hix | exact hix2 | exact hix3 | exact hix4
      | ((with_reducible apply ev_var) <;> rfl)
      | (with_reducible exact ev_int) | (with_reducible exact ev_bl) | (with_reducible exact ev_str) | (with_reducible exact ev_non) | (with_reducible exact eva_nil) | (with_reducible exact evo_none)
      | (with_reducible (first | apply eva_cons | apply ev_tup | apply evo_some | apply x_add | apply e_sub | apply x_mul | apply ev_mod | apply ev_neg | apply e_div))
      | refine e_lenN (evm_var rfl) rfl ?_
      | (with_reducible (first | apply x_len | apply x_ix | apply x_sl | apply ev_isN | apply ev_notN | apply ev_eqD | apply ev_neD | apply e_lt | apply ev_le | apply ev_gt | apply ev_ge | apply ev_isInt | apply ev_isBool | apply ev_isTup | apply ev_isStr | apply ec_whole | apply eca_counts | apply eca_levels | exact ⟨rfl, rfl⟩ | apply ev_min | apply ev_intc | apply ev_sumT | apply evt_B | apply evt_test | apply evt_not | apply evt_and | apply evt_or | apply ev_andV | apply ev_orV | apply ev_notV | apply ev_ite | intro _ | exact True.intro | rfl))
      | exact True.intro | exact ⟨rfl, rfl⟩ | exact Nat.le_of_ble_eq_true rfl | rfl))
        · rfl
      · rfl
      exact nx_ret ev_bl (rt_of rfl hq)
    · show Nx _ [.dat (.tuple [.str "ready"]), .dat (.tuple [.str "ready"])] _ _
      rw [decide_eq_true rfl] at hq
      (try dsimp only [List.set, setAll])
      refine nx_sq ?_
      apply nx_ifF
      · (repeat' (first
      | exact hix | exact hix2 | exact hix3 | exact hix4
      | ((with_reducible apply ev_var) <;> rfl)
      | (with_reducible exact ev_int) | (with_reducible exact ev_bl) | (with_reducible exact ev_str) | (with_reducible exact ev_non) | (with_reducible exact eva_nil) | (with_reducible exact evo_none)
      | (with_reducible (first | apply eva_cons | apply ev_tup | apply evo_some | apply x_add | apply e_sub | apply x_mul | apply ev_mod | apply ev_neg | apply e_div))
      | refine e_lenN (evm_var rfl) rfl ?_
      | (with_reducible (first | apply x_len | apply x_ix | apply x_sl | apply ev_isN | apply ev_notN | apply ev_eqD | apply ev_neD | apply e_lt | apply ev_le | apply ev_gt | apply ev_ge | apply ev_isInt | apply ev_isBool | apply ev_isTup | apply ev_isStr | apply ec_whole | apply eca_counts | apply eca_levels | exact ⟨rfl, rfl⟩ | apply ev_min | apply ev_intc | apply ev_sumT | apply evt_B | apply evt_test | apply evt_not | apply evt_and | apply evt_or | apply ev_andV | apply ev_orV | apply ev_notV | apply ev_ite | intro _ | exact True.intro | rfl))
      | exact True.intro | exact ⟨rfl, rfl⟩ | exact Nat.le_of_ble_eq_true rfl | rfl))
        · exact ready_shaped
        · exact ready_shaped
      · simp [eqv_ints, str_eq]
      refine nx_nx ?_
      (try dsimp only [List.set, setAll])
      apply nx_ret2 (k := rt_of rfl hq)
      · apply ev_orV (b := true) (c := true)
        · apply EV.to
          · (repeat' (first
      | exact hix | exact hix2 | exact hix3 | exact hix4
      | ((with_reducible apply ev_var) <;> rfl)
      | (with_reducible exact ev_int) | (with_reducible exact ev_bl) | (with_reducible exact ev_str) | (with_reducible exact ev_non) | (with_reducible exact eva_nil) | (with_reducible exact evo_none)
      | (with_reducible (first | apply eva_cons | apply ev_tup | apply evo_some | apply x_add | apply e_sub | apply x_mul | apply ev_mod | apply ev_neg | apply e_div))
      | refine e_lenN (evm_var rfl) rfl ?_
      | (with_reducible (first | apply x_len | apply x_ix | apply x_sl | apply ev_isN | apply ev_notN | apply ev_eqD | apply ev_neD | apply e_lt | apply ev_le | apply ev_gt | apply ev_ge | apply ev_isInt | apply ev_isBool | apply ev_isTup | apply ev_isStr | apply ec_whole | apply eca_counts | apply eca_levels | exact ⟨rfl, rfl⟩ | apply ev_min | apply ev_intc | apply ev_sumT | apply evt_B | apply evt_test | apply evt_not | apply evt_and | apply evt_or | apply ev_andV | apply ev_orV | apply ev_notV | apply ev_ite | intro _ | exact True.intro | rfl))
      | exact True.intro | exact ⟨rfl, rfl⟩ | exact Nat.le_of_ble_eq_true rfl | rfl))
          · rfl
        · exact fun z => nomatch z
      · rfl
end
end Kw

/-! text D13 -/
/-! behind_thing -/
namespace Kw
open PySem PySem.Spec PyProof.Rows L2 PySem.Calls
theorem ls_form {d : PyData} (h : LsOk d) : ∃ (a : Str) (l : List PyData), d = .tuple (.str a :: l) ∧ SeqAt.shaped (.str a) = true ∧ (a == "beat") = false ∧ SeqAt.shaped (.tuple (.str a :: l)) = true := by
  rcases h with ⟨p, hp, rfl⟩ | ⟨p, hp, rfl⟩ | rfl
  · exact ⟨"on", _, rfl, on_shaped, by decide +kernel, by match p, hp with | 0, _ => decide +kernel | 1, _ => decide +kernel | 2, _ => decide +kernel⟩
  · exact ⟨"rest", _, rfl, rest_shaped, by decide +kernel, by match p, hp with | 0, _ => decide +kernel | 1, _ => decide +kernel | 2, _ => decide +kernel⟩
  · exact ⟨"ready", _, rfl, ready_shaped, by decide +kernel, by decide +kernel⟩
theorem shp_shaped : ∀ i, i < 10 → SeqAt.shaped (shp i) = true := by
  have h : ((List.range 10).all fun i => SeqAt.shaped (shp i)) = true := by decide +kernel
  intro i hi
  exact List.all_eq_true.mp h i (List.mem_range.mpr hi)
theorem shaped_bt : SeqAt.shaped (.tuple [.str "beat", .bool true]) = true := by decide +kernel
def behD : Option (Option Nd) → PyData
  | none => .none
  | some o => ndO o
abbrev Bt := Wl × Nd × PyData × Int × Int
def Bt.Ok (a : Bt) : Prop := a.1.Ok ∧ NdOk a.1 1 a.2.1 ∧ Elem a.1 a.2.2.1 ∧ 0 ≤ a.2.2.2.1 ∧ a.2.2.2.1 ≤ a.2.2.2.2 ∧ a.2.2.2.2 ≤ 2
abbrev sp_behind (P : Program) (w : World) (K : PySem.W.Frag) : Sp := ASp (α := Bt) P w K (fun a => [a.1.d, a.2.1.d, a.2.2.1, .int a.2.2.2.1, .int a.2.2.2.2]) Bt.Ok fun a r => r = .dat (behD (behindF a.1 a.2.2.2.1 a.2.2.2.2 a.2.1 a.2.2.1))
section
variable {P : Program} {w : World} {K : PySem.W.Frag} {mg : Str → Option Value} {base : Heap} {C1 C2 C3 : Addr}
theorem eca_like {C : Ct} {Γ : List SV} {Δ : Dl} {W : WX} {t0 t1 : TE} {x y : PyData} (h : LsOk x ∧ LsOk y) (h0 : EV C Γ Δ t0 x) (h1 : EV C Γ Δ t1 y) : EV C Γ Δ (tCallS (sp_is_like C.P C.w C.K) (WE W) (tCons t0 (tCons t1 tNil))) (.bool (decide (x.shown = y.shown))) :=
  x_call (α := PyData × PyData) (x, y) (eva_cons h0 (eva_cons h1 eva_nil)) h rfl
theorem behind_odd {v : Wl} {lo hi : Int} {n : Nd} {d : PyData} (hv : v.Ok) (hn : NdOk v 1 n) (hlo : 0 ≤ lo) (hhi : hi ≤ 2) (hd : (∃ n : Nd, d = n.d) ∨ ∃ j, j < 4 ∧ d = oddD j) : behindF v lo hi n d = none := by
  refine behind_none fun t ht => ?_
  obtain ⟨i, hi', e⟩ := shp_of (thOk_mono hhi (thL_ok hv hn hlo t ht).1)
  rw [e]
  rcases hd with ⟨m, rfl⟩ | ⟨j, hj, rfl⟩
  · exact shp_nd hi' m
  · exact shp_odd hi' hj
theorem ok_behind_thing {f : Addr} {fd : FuncData} (T : Tx P K mg C1 C2 C3) (F : Fun K "behind_thing" "behind_thing" s_behind_thing f fd) (c_is_whole : Cl P w K mg base 3 "is_whole" (sp_is_whole P w K)) (c_after_in : Cl P w K mg base 3 "after_in" (sp_after_in P w K)) (c_losses_of : Cl P w K mg base 3 "losses_of" (sp_losses P w K)) (c_is_like : Cl P w K mg base 3 "is_like" (sp_is_like P w K)) : FnG P w K mg base 4 f fd ["well", "pair", "thing", "low", "high"] (sp_behind P w K) := by
  refine body_g F sc_behind_thing (fun a => rfl) (fun cdv ar up z H Q E hgd hr => ⟨_, (pss_cons (ps_asg (pv 1) (gTupT (n := 2) (P := P) (w := w) (K := K) ⟨rfl, rfl, rfl⟩ rfl (pgs_cons (pg_name (i := 5) sc_behind_thing.nd rfl (by first | exact Or.inl rfl | exact Or.inr rfl)) (pgs_cons (pg_name (i := 6) sc_behind_thing.nd rfl (by first | exact Or.inl rfl | exact Or.inr rfl)) pgs_nil)) rfl rfl)) (pss_cons (ps_if (PW.pt (pw_or (pt_not (pt_val (gIsinst (P := P) (w := w) (K := K) ⟨rfl, rfl, rfl⟩ (by rfl) T.b_isinstance (pv 2) (pe_bltn (v := .ty "tuple") (by rfl) T.b_tuple boot_ty_tuple rfl)))) (pw_or (pt_cmpR (gEq (P := P) (w := w) (K := K) ⟨rfl, rfl, rfl⟩ (hu65 hr)) (pv 2) (pe_tup pa_nil) (nomark _)) (pw_or1 (pt_not (pt_val (gIsinst (P := P) (w := w) (K := K) ⟨rfl, rfl, rfl⟩ (by rfl) T.b_isinstance (pe_ix (gIx (P := P) (w := w) (K := K) ⟨rfl, rfl, rfl⟩ (hu65 hr)) (pv 2) pe_int (fun _ _ => rfl)) (pe_bltn (v := .ty "str") (by rfl) T.b_str boot_ty_str rfl)))))))) (pss_one (ps_ret pe_non)) pss_nil) (pss_cons (ps_if (pt_cmpR (gEq (P := P) (w := w) (K := K) ⟨rfl, rfl, rfl⟩ (hu65 hr)) (pe_ix (gIx (P := P) (w := w) (K := K) ⟨rfl, rfl, rfl⟩ (hu65 hr)) (pv 2) pe_int (fun _ _ => rfl)) pe_str (nomark _)) (pss_cons (ps_if (PW.pt (pw_or (pt_cmpR (gNe (P := P) (w := w) (K := K) ⟨rfl, rfl, rfl⟩ (hu65 hr)) (pe_callB (gLen (P := P) (w := w) (K := K) ⟨rfl, rfl, rfl⟩ (hu65 hr)) (by rfl) T.b_len boot_k_len (pa_cons (pv 2) pa_nil)) pe_int (nomark _)) (pw_or1 (pt_not (pt_val (gCl (P := P) (w := w) (K := K) ⟨rfl, rfl, rfl⟩ rfl rfl c_is_whole hr hgd (by rfl) takesF (pa_cons (pe_ix (gIx (P := P) (w := w) (K := K) ⟨rfl, rfl, rfl⟩ (hu65 hr)) (pv 2) pe_int (fun _ _ => rfl)) (pa_cons (pv 3) (pa_cons (pv 4) pa_nil))))))))) (pss_one (ps_ret pe_non)) pss_nil) (pss_cons (ps_set (i := 7) sc_behind_thing.nd rfl (by first | exact Or.inl rfl | exact Or.inr rfl) (gCl (P := P) (w := w) (K := K) ⟨rfl, rfl, rfl⟩ rfl rfl c_after_in hr hgd (by rfl) takesF (pa_cons (pv 0) (pa_cons (pv 5) (pa_cons (pe_ix (gIx (P := P) (w := w) (K := K) ⟨rfl, rfl, rfl⟩ (hu65 hr)) (pv 2) pe_int (fun _ _ => rfl)) pa_nil))))) (pss_one (ps_ret (pe_ifExp (pt_val (gIsinst (P := P) (w := w) (K := K) ⟨rfl, rfl, rfl⟩ (by rfl) T.b_isinstance (pv 7) (pe_bltn (v := .ty "tuple") (by rfl) T.b_tuple boot_ty_tuple rfl))) (pe_tup (pa_cons (pv 7) (pa_cons (pv 6) pa_nil))) (pe_ifExp (pt_cmpR (gEq (P := P) (w := w) (K := K) ⟨rfl, rfl, rfl⟩ (hu65 hr)) (pv 7) (pe_k (by rfl) T.c_OVER_crews) (nomark _)) (pe_k (by rfl) T.c_OVER_crews) pe_non)))))) pss_nil) (pss_cons (ps_for (passes_of rfl) rfl (gIt (P := P) (w := w) (K := K) ⟨rfl, rfl, rfl⟩ (gCl (P := P) (w := w) (K := K) ⟨rfl, rfl, rfl⟩ rfl rfl c_losses_of hr hgd (by rfl) takesF (pa_cons (pv 5) pa_nil))) (gTupT (n := 2) (P := P) (w := w) (K := K) ⟨rfl, rfl, rfl⟩ rfl (pgs_cons (pg_name (i := 8) sc_behind_thing.nd rfl (by first | exact Or.inl rfl | exact Or.inr rfl)) (pgs_cons (pg_name (i := 7) sc_behind_thing.nd rfl (by first | exact Or.inl rfl | exact Or.inr rfl)) pgs_nil)) rfl rfl) (pss_one (ps_if (PW.pt (pw_and (pt_cmpR op_gt (pv 6) pe_int (nomark _)) (pw_and1 (pt_val (gCl (P := P) (w := w) (K := K) ⟨rfl, rfl, rfl⟩ rfl rfl c_is_like hr hgd (by rfl) takesF (pa_cons (pv 8) (pa_cons (pv 2) pa_nil))))))) (pss_one (ps_ret (pe_tup (pa_cons (pv 7) (pa_cons (pe_op op_sub (pv 6) pe_int) pa_nil))))) pss_nil))) (pss_one (ps_ret pe_non)))))), fun a hv hq => ?_⟩)
  obtain ⟨v, ⟨s, left⟩, d, lo, hi⟩ := a
  replace hq : RsOk P w K H Q E (.dat (behD (behindF v lo hi (s, left) d))) := hq _ rfl
  obtain ⟨hv, hn, hd, hlo, hlh, hhi⟩ : v.Ok ∧ NdOk v 1 (s, left) ∧ Elem v d ∧ 0 ≤ lo ∧ lo ≤ hi ∧ hi ≤ 2 := hv
  have hs : s.Ok v := hn.1
  show Nx _ [.dat v.d, .dat (Nd.d (s, left)), .dat d, .dat (.int lo), .dat (.int hi), .any, .any, .any, .any] _ _
  (try dsimp only [List.set, setAll])
  refine nx_sq ?_
  refine nx_unpack (js := [5, 6]) (ds := [s.d, .int left]) (ev_var rfl) rfl rfl ?_
  (try dsimp only [List.set, setAll])
  have hcase : LsOk d ∨ (∃ i : Int, 0 ≤ i ∧ i ≤ 2 ∧ d = thBeat i) ∨ (∃ n : Nd, d = n.d) ∨ ∃ j, j < 4 ∧ d = oddD j := by
    rcases hd with h | ⟨n, _, h⟩ | h
    · rcases h with h | h | h | h
      · exact .inl (.inl h)
      · exact .inl (.inr (.inl h))
      · exact .inl (.inr (.inr h))
      · exact .inr (.inl h)
    · exact .inr (.inr (.inl ⟨n, h⟩))
    · exact .inr (.inr (.inr h))
  rcases hcase with hls | ⟨i, hi0, hi2, rfl⟩ | hodd
  · rw [behind_loss hlo hhi hls] at hq
    obtain ⟨a, l, hdd, ha, hab, hsh⟩ := ls_form hls
    have hix : ∀ {C : Ct} {Γ : List SV} {Δ : Dl} {t : TE}, EV C Γ Δ t d → EV C Γ Δ (tOp (uIx C.P C.w C.K) t (tC (.int 0))) (.str a) := fun h => x_ix h ev_int (by rw [hdd]; exact atI_nat (.str a :: l) 0)
    have htup : isTup d = true := by rw [hdd]; rfl
    have hne : PyData.eqv d (.tuple []) = false := by rw [hdd]; simp [PyData.eqv, PyData.eqvAll]
    have hshd : SeqAt.shaped d = true := by rw [hdd]; exact hsh
    refine nx_sq ?_
    refine nx_ifF (evt_orF (evt_not (evt_B (ev_isTup (ev_var rfl)))) (by rw [htup]; rfl) (evt_orF (evt_test (ev_eqD (ev_var rfl) (ev_tup eva_nil (by decide)) hshd rfl)) hne (evt_not (evt_B (ev_isStr (hix (ev_var rfl))))))) rfl (nx_nx ?_)
    (try dsimp only [List.set, setAll])
    refine nx_sq ?_
    refine nx_ifF (evt_test (ev_eqD (hix (ev_var rfl)) ev_str ha beat_shaped)) (by rw [PyData.eqv]; exact hab) (nx_nx ?_)
    (try dsimp only [List.set, setAll])
    refine nx_sq ?_
    refine nx_for (w_list (evl_ev (eca_losses (v := v) ⟨hv, hs⟩ (ev_var rfl)))) (fun i Γ Δ => (0 < left → (losses s).find? (fun x => decide (x.1.shown = d.shown)) = ((losses s).drop i).find? (fun x => decide (x.1.shown = d.shown))) ∧ ∃ b c : SV, Γ = [.dat v.d, .dat (Nd.d (s, left)), .dat d, .dat (.int lo), .dat (.int hi), .dat s.d, .dat (.int left), b, c] ∧ Δ = [])
      ⟨fun _ => rfl, _, _, rfl, rfl⟩ ?_ ?_
    · rintro hs' i dd Γ Δ hdd' ⟨hfind, b, c, rfl, rfl⟩
      rw [List.getElem?_map] at hdd'
      obtain ⟨x, hx, rfl⟩ := Option.map_eq_some_iff.mp hdd'
      have hi' : i < (losses s).length := (List.getElem?_eq_some_iff.mp hx).1
      have hdr : (losses s).drop i = x :: (losses s).drop (i + 1) := by
        rw [List.drop_eq_getElem_cons hi', (List.getElem?_eq_some_iff.mp hx).2]
      have hxl : LsOk x.1 := losses_ls hv hs x (List.mem_of_getElem? hx)
      rw [hdr] at hfind
      refine ⟨[8, 7], _, tg_tup (ds := [x.1, x.2.d]) rfl rfl, ?_⟩
      (try dsimp only [List.set, setAll])
      by_cases hl : 0 < left
      · have hf := hfind hl
        rw [List.find?_cons] at hf
        cases hm : decide (x.1.shown = d.shown) with
        | true =>
          rw [hm] at hf
          rw [if_pos hl, hf] at hq
          refine nx_ifT (evt_andT (b := decide (0 < left)) ?_ (decide_eq_true hl) (evt_B (eca_like ⟨hxl, hls⟩ (ev_var rfl) (ev_var rfl)))) hm ?_
          · (repeat' (first
      | exact hix | exact hix2 | exact hix3 | exact hix4
      | ((with_reducible apply ev_var) <;> rfl)
      | (with_reducible exact ev_int) | (with_reducible exact ev_bl) | (with_reducible exact ev_str) | (with_reducible exact ev_non) | (with_reducible exact eva_nil) | (with_reducible exact evo_none)
      | (with_reducible (first | apply eva_cons | apply ev_tup | apply evo_some | apply x_add | apply e_sub | apply x_mul | apply ev_mod | apply ev_neg | apply e_div))
      | refine e_lenN (evm_var rfl) rfl ?_
      | (with_reducible (first | apply x_len | apply x_ix | apply x_sl | apply ev_isN | apply ev_notN | apply ev_eqD | apply ev_neD | apply e_lt | apply ev_le | apply ev_gt | apply ev_ge | apply ev_isInt | apply ev_isBool | apply ev_isTup | apply ev_isStr | apply ec_whole | apply eca_counts | apply eca_levels | exact ⟨rfl, rfl⟩ | apply ev_min | apply ev_intc | apply ev_sumT | apply evt_B | apply evt_test | apply evt_not | apply evt_and | apply evt_or | apply ev_andV | apply ev_orV | apply ev_notV | apply ev_ite | intro _ | exact True.intro | rfl))
      | exact True.intro | exact ⟨rfl, rfl⟩ | exact Nat.le_of_ble_eq_true rfl | rfl))
          apply nx_ret2 (k := rt_of rfl hq)
          · (repeat' (first
      | exact hix | exact hix2 | exact hix3 | exact hix4
      | ((with_reducible apply ev_var) <;> rfl)
      | (with_reducible exact ev_int) | (with_reducible exact ev_bl) | (with_reducible exact ev_str) | (with_reducible exact ev_non) | (with_reducible exact eva_nil) | (with_reducible exact evo_none)
      | (with_reducible (first | apply eva_cons | apply ev_tup | apply evo_some | apply x_add | apply e_sub | apply x_mul | apply ev_mod | apply ev_neg | apply e_div))
      | refine e_lenN (evm_var rfl) rfl ?_
      | (with_reducible (first | apply x_len | apply x_ix | apply x_sl | apply ev_isN | apply ev_notN | apply ev_eqD | apply ev_neD | apply e_lt | apply ev_le | apply ev_gt | apply ev_ge | apply ev_isInt | apply ev_isBool | apply ev_isTup | apply ev_isStr | apply ec_whole | apply eca_counts | apply eca_levels | exact ⟨rfl, rfl⟩ | apply ev_min | apply ev_intc | apply ev_sumT | apply evt_B | apply evt_test | apply evt_not | apply evt_and | apply evt_or | apply ev_andV | apply ev_orV | apply ev_notV | apply ev_ite | intro _ | exact True.intro | rfl))
      | exact True.intro | exact ⟨rfl, rfl⟩ | exact Nat.le_of_ble_eq_true rfl | rfl))
          · rfl
        | false =>
          rw [hm] at hf
          refine nx_ifF (evt_andT (b := decide (0 < left)) ?_ (decide_eq_true hl) (evt_B (eca_like ⟨hxl, hls⟩ (ev_var rfl) (ev_var rfl)))) hm (nx_nx ?_)
          · (repeat' (first
      | exact hix | exact hix2 | exact hix3 | exact hix4
      | ((with_reducible apply ev_var) <;> rfl)
      | (with_reducible exact ev_int) | (with_reducible exact ev_bl) | (with_reducible exact ev_str) | (with_reducible exact ev_non) | (with_reducible exact eva_nil) | (with_reducible exact evo_none)
      | (with_reducible (first | apply eva_cons | apply ev_tup | apply evo_some | apply x_add | apply e_sub | apply x_mul | apply ev_mod | apply ev_neg | apply e_div))
      | refine e_lenN (evm_var rfl) rfl ?_
      | (with_reducible (first | apply x_len | apply x_ix | apply x_sl | apply ev_isN | apply ev_notN | apply ev_eqD | apply ev_neD | apply e_lt | apply ev_le | apply ev_gt | apply ev_ge | apply ev_isInt | apply ev_isBool | apply ev_isTup | apply ev_isStr | apply ec_whole | apply eca_counts | apply eca_levels | exact ⟨rfl, rfl⟩ | apply ev_min | apply ev_intc | apply ev_sumT | apply evt_B | apply evt_test | apply evt_not | apply evt_and | apply evt_or | apply ev_andV | apply ev_orV | apply ev_notV | apply ev_ite | intro _ | exact True.intro | rfl))
      | exact True.intro | exact ⟨rfl, rfl⟩ | exact Nat.le_of_ble_eq_true rfl | rfl))
          (try dsimp only [List.set, setAll])
          exact nx_li ⟨fun _ => hf, _, _, rfl, rfl⟩
      · refine nx_ifF (evt_andF (b := decide (0 < left)) ?_ (decide_eq_false hl)) rfl (nx_nx ?_)
        · (repeat' (first
      | exact hix | exact hix2 | exact hix3 | exact hix4
      | ((with_reducible apply ev_var) <;> rfl)
      | (with_reducible exact ev_int) | (with_reducible exact ev_bl) | (with_reducible exact ev_str) | (with_reducible exact ev_non) | (with_reducible exact eva_nil) | (with_reducible exact evo_none)
      | (with_reducible (first | apply eva_cons | apply ev_tup | apply evo_some | apply x_add | apply e_sub | apply x_mul | apply ev_mod | apply ev_neg | apply e_div))
      | refine e_lenN (evm_var rfl) rfl ?_
      | (with_reducible (first | apply x_len | apply x_ix | apply x_sl | apply ev_isN | apply ev_notN | apply ev_eqD | apply ev_neD | apply e_lt | apply ev_le | apply ev_gt | apply ev_ge | apply ev_isInt | apply ev_isBool | apply ev_isTup | apply ev_isStr | apply ec_whole | apply eca_counts | apply eca_levels | exact ⟨rfl, rfl⟩ | apply ev_min | apply ev_intc | apply ev_sumT | apply evt_B | apply evt_test | apply evt_not | apply evt_and | apply evt_or | apply ev_andV | apply ev_orV | apply ev_notV | apply ev_ite | intro _ | exact True.intro | rfl))
      | exact True.intro | exact ⟨rfl, rfl⟩ | exact Nat.le_of_ble_eq_true rfl | rfl))
        (try dsimp only [List.set, setAll])
        exact nx_li ⟨fun z => absurd z hl, _, _, rfl, rfl⟩
    · rintro Γ Δ ⟨hfind, b, c, rfl, rfl⟩
      rw [List.length_map, List.drop_length] at hfind
      have e : (if 0 < left then ((losses s).find? (fun x => decide (x.1.shown = d.shown))).map (fun x => some (x.2, left - 1)) else none) = (none : Option (Option Nd)) := by
        split
        · rw [hfind ‹_›]; rfl
        · rfl
      rw [e] at hq
      change RsOk P w K H Q E (.dat .none) at hq
      (try dsimp only [List.set, setAll])
      refine nx_ret ev_non (rt_of (E := E) rfl ?_)
      exact hq
  · rw [behind_beat hv hs hlo hhi ⟨hi0, hi2⟩] at hq
    show Nx _ [.dat v.d, .dat (Nd.d (s, left)), .dat (.tuple [.str "beat", .int i]), .dat (.int lo), .dat (.int hi), .dat s.d, .dat (.int left), .any, .any] _ _
    refine nx_sq ?_
    apply nx_ifF
    · (repeat' (first
      | exact hix | exact hix2 | exact hix3 | exact hix4
      | ((with_reducible apply ev_var) <;> rfl)
      | (with_reducible exact ev_int) | (with_reducible exact ev_bl) | (with_reducible exact ev_str) | (with_reducible exact ev_non) | (with_reducible exact eva_nil) | (with_reducible exact evo_none)
      | (with_reducible (first | apply eva_cons | apply ev_tup | apply evo_some | apply x_add | apply e_sub | apply x_mul | apply ev_mod | apply ev_neg | apply e_div))
      | refine e_lenN (evm_var rfl) rfl ?_
      | (with_reducible (first | apply x_len | apply x_ix | apply x_sl | apply ev_isN | apply ev_notN | apply ev_eqD | apply ev_neD | apply e_lt | apply ev_le | apply ev_gt | apply ev_ge | apply ev_isInt | apply ev_isBool | apply ev_isTup | apply ev_isStr | apply ec_whole | apply eca_counts | apply eca_levels | exact ⟨rfl, rfl⟩ | apply ev_min | apply ev_intc | apply ev_sumT | apply evt_B | apply evt_test | apply evt_not | apply evt_and | apply evt_or | apply ev_andV | apply ev_orV | apply ev_notV | apply ev_ite | intro _ | exact True.intro | rfl))
      | exact True.intro | exact ⟨rfl, rfl⟩ | exact Nat.le_of_ble_eq_true rfl | rfl))
      · exact (beat_idx hi0 hi2).elim fun k h => by rw [show (PyData.tuple [.str "beat", .int i]) = thBeat i from rfl, h.2.2.1]; exact shp_shaped k h.2.1
    · simp [isTup, isStr, PyData.eqv, PyData.eqvAll]
    refine nx_nx ?_
    (try dsimp only [List.set, setAll])
    refine nx_sq ?_
    apply nx_ifT
    · (repeat' (first
      | exact hix | exact hix2 | exact hix3 | exact hix4
      | ((with_reducible apply ev_var) <;> rfl)
      | (with_reducible exact ev_int) | (with_reducible exact ev_bl) | (with_reducible exact ev_str) | (with_reducible exact ev_non) | (with_reducible exact eva_nil) | (with_reducible exact evo_none)
      | (with_reducible (first | apply eva_cons | apply ev_tup | apply evo_some | apply x_add | apply e_sub | apply x_mul | apply ev_mod | apply ev_neg | apply e_div))
      | refine e_lenN (evm_var rfl) rfl ?_
      | (with_reducible (first | apply x_len | apply x_ix | apply x_sl | apply ev_isN | apply ev_notN | apply ev_eqD | apply ev_neD | apply e_lt | apply ev_le | apply ev_gt | apply ev_ge | apply ev_isInt | apply ev_isBool | apply ev_isTup | apply ev_isStr | apply ec_whole | apply eca_counts | apply eca_levels | exact ⟨rfl, rfl⟩ | apply ev_min | apply ev_intc | apply ev_sumT | apply evt_B | apply evt_test | apply evt_not | apply evt_and | apply evt_or | apply ev_andV | apply ev_orV | apply ev_notV | apply ev_ite | intro _ | exact True.intro | rfl))
      | exact True.intro | exact ⟨rfl, rfl⟩ | exact Nat.le_of_ble_eq_true rfl | rfl))
      · exact beat_shaped
      · exact beat_shaped
    · exact str_eq _
    refine nx_sq ?_
    by_cases hb : lo ≤ i ∧ i ≤ hi
    · rw [if_pos hb] at hq
      apply nx_ifF
      · (repeat' (first
      | exact hix | exact hix2 | exact hix3 | exact hix4
      | ((with_reducible apply ev_var) <;> rfl)
      | (with_reducible exact ev_int) | (with_reducible exact ev_bl) | (with_reducible exact ev_str) | (with_reducible exact ev_non) | (with_reducible exact eva_nil) | (with_reducible exact evo_none)
      | (with_reducible (first | apply eva_cons | apply ev_tup | apply evo_some | apply x_add | apply e_sub | apply x_mul | apply ev_mod | apply ev_neg | apply e_div))
      | refine e_lenN (evm_var rfl) rfl ?_
      | (with_reducible (first | apply x_len | apply x_ix | apply x_sl | apply ev_isN | apply ev_notN | apply ev_eqD | apply ev_neD | apply e_lt | apply ev_le | apply ev_gt | apply ev_ge | apply ev_isInt | apply ev_isBool | apply ev_isTup | apply ev_isStr | apply ec_whole | apply eca_counts | apply eca_levels | exact ⟨rfl, rfl⟩ | apply ev_min | apply ev_intc | apply ev_sumT | apply evt_B | apply evt_test | apply evt_not | apply evt_and | apply evt_or | apply ev_andV | apply ev_orV | apply ev_notV | apply ev_ite | intro _ | exact True.intro | rfl))
      | exact True.intro | exact ⟨rfl, rfl⟩ | exact Nat.le_of_ble_eq_true rfl | rfl))
      · rw [eqv_ints]
        simp [whole, geD, leD, hb.1, hb.2]
      refine nx_nx ?_
      (try dsimp only [List.set, setAll])
      refine nx_sq (nx_asg (eca_after (v := v) (s := s) (i := i) ⟨hv, hs⟩ (ev_var rfl) (ev_var rfl) (x_ix (ev_var rfl) ev_int rfl)) ?_)
      (try dsimp only [List.set, setAll])
      have hsh := Out.shaped (stepF v s i)
      simp only at hq
      cases ho : stepF v s i with
      | over =>
        rw [ho] at hq hsh
        exact nx_ret (ev_ifF (evt_B (ev_isTup (ev_var rfl))) rfl (ev_ifT (evt_test (ev_eqD (ev_var rfl) ev_str hsh over_shaped)) eqv_over_over ev_str)) (rt_of rfl hq)
      | dry =>
        rw [ho] at hq hsh
        exact nx_ret (ev_ifF (evt_B (ev_isTup (ev_var rfl))) rfl (ev_ifF (evt_test (ev_eqD (ev_var rfl) ev_str hsh over_shaped)) eqv_dry_over ev_non)) (rt_of rfl hq)
      | st s' =>
        rw [ho] at hq
        exact nx_ret (ev_ifT (evt_B (ev_isTup (ev_var rfl))) rfl (ev_tup (eva_cons (ev_var rfl) (eva_cons (ev_var rfl) eva_nil)) (Nat.le_of_ble_eq_true rfl))) (rt_of rfl hq)
    · rw [if_neg hb] at hq
      change RsOk P w K H Q E (.dat .none) at hq
      apply nx_ifT
      · (repeat' (first
      | exact hix | exact hix2 | exact hix3 | exact hix4
      | ((with_reducible apply ev_var) <;> rfl)
      | (with_reducible exact ev_int) | (with_reducible exact ev_bl) | (with_reducible exact ev_str) | (with_reducible exact ev_non) | (with_reducible exact eva_nil) | (with_reducible exact evo_none)
      | (with_reducible (first | apply eva_cons | apply ev_tup | apply evo_some | apply x_add | apply e_sub | apply x_mul | apply ev_mod | apply ev_neg | apply e_div))
      | refine e_lenN (evm_var rfl) rfl ?_
      | (with_reducible (first | apply x_len | apply x_ix | apply x_sl | apply ev_isN | apply ev_notN | apply ev_eqD | apply ev_neD | apply e_lt | apply ev_le | apply ev_gt | apply ev_ge | apply ev_isInt | apply ev_isBool | apply ev_isTup | apply ev_isStr | apply ec_whole | apply eca_counts | apply eca_levels | exact ⟨rfl, rfl⟩ | apply ev_min | apply ev_intc | apply ev_sumT | apply evt_B | apply evt_test | apply evt_not | apply evt_and | apply evt_or | apply ev_andV | apply ev_orV | apply ev_notV | apply ev_ite | intro _ | exact True.intro | rfl))
      | exact True.intro | exact ⟨rfl, rfl⟩ | exact Nat.le_of_ble_eq_true rfl | rfl))
      · rw [eqv_ints]
        simp [whole, geD, leD]
        omega
      exact nx_ret ev_non (rt_of rfl hq)
  · rw [behind_odd hv hn hlo hhi hodd] at hq
    change RsOk P w K H Q E (.dat .none) at hq
    refine nx_sq ?_
    rcases hodd with ⟨m, rfl⟩ | ⟨j, hj, rfl⟩
    · refine nx_ifT (evt_orF (evt_not (evt_B (ev_isTup (ev_var rfl)))) rfl (evt_orF (evt_test (ev_eqD (ev_var rfl) (ev_tup eva_nil (by decide)) m.shaped rfl)) (by simp [Nd.d, PyData.eqv, PyData.eqvAll]) (evt_not (evt_B (ev_isStr (x_ix (d := m.1.d) (ev_var rfl) ev_int rfl)))))) rfl ?_
      exact nx_ret ev_non (rt_of rfl hq)
    · match j, hj with
      | 0, _ =>
        refine nx_ifT (evt_orT (evt_not (evt_B (ev_isTup (ev_var rfl)))) rfl) rfl ?_
        exact nx_ret ev_non (rt_of rfl hq)
      | 1, _ =>
        show Nx _ [.dat v.d, .dat (Nd.d (s, left)), .dat (.tuple [.str "beat", .bool true]), .dat (.int lo), .dat (.int hi), .dat s.d, .dat (.int left), .any, .any] _ _
        apply nx_ifF
        · (repeat' (first
      | exact hix | exact hix2 | exact hix3 | exact hix4
      | ((with_reducible apply ev_var) <;> rfl)
      | (with_reducible exact ev_int) | (with_reducible exact ev_bl) | (with_reducible exact ev_str) | (with_reducible exact ev_non) | (with_reducible exact eva_nil) | (with_reducible exact evo_none)
      | (with_reducible (first | apply eva_cons | apply ev_tup | apply evo_some | apply x_add | apply e_sub | apply x_mul | apply ev_mod | apply ev_neg | apply e_div))
      | refine e_lenN (evm_var rfl) rfl ?_
      | (with_reducible (first | apply x_len | apply x_ix | apply x_sl | apply ev_isN | apply ev_notN | apply ev_eqD | apply ev_neD | apply e_lt | apply ev_le | apply ev_gt | apply ev_ge | apply ev_isInt | apply ev_isBool | apply ev_isTup | apply ev_isStr | apply ec_whole | apply eca_counts | apply eca_levels | exact ⟨rfl, rfl⟩ | apply ev_min | apply ev_intc | apply ev_sumT | apply evt_B | apply evt_test | apply evt_not | apply evt_and | apply evt_or | apply ev_andV | apply ev_orV | apply ev_notV | apply ev_ite | intro _ | exact True.intro | rfl))
      | exact True.intro | exact ⟨rfl, rfl⟩ | exact Nat.le_of_ble_eq_true rfl | rfl))
          · exact shaped_bt
        · simp [isTup, isStr, PyData.eqv, PyData.eqvAll]
        refine nx_nx ?_
        (try dsimp only [List.set, setAll])
        refine nx_sq ?_
        apply nx_ifT
        · (repeat' (first
      | exact hix | exact hix2 | exact hix3 | exact hix4
      | ((with_reducible apply ev_var) <;> rfl)
      | (with_reducible exact ev_int) | (with_reducible exact ev_bl) | (with_reducible exact ev_str) | (with_reducible exact ev_non) | (with_reducible exact eva_nil) | (with_reducible exact evo_none)
      | (with_reducible (first | apply eva_cons | apply ev_tup | apply evo_some | apply x_add | apply e_sub | apply x_mul | apply ev_mod | apply ev_neg | apply e_div))
      | refine e_lenN (evm_var rfl) rfl ?_
      | (with_reducible (first | apply x_len | apply x_ix | apply x_sl | apply ev_isN | apply ev_notN | apply ev_eqD | apply ev_neD | apply e_lt | apply ev_le | apply ev_gt | apply ev_ge | apply ev_isInt | apply ev_isBool | apply ev_isTup | apply ev_isStr | apply ec_whole | apply eca_counts | apply eca_levels | exact ⟨rfl, rfl⟩ | apply ev_min | apply ev_intc | apply ev_sumT | apply evt_B | apply evt_test | apply evt_not | apply evt_and | apply evt_or | apply ev_andV | apply ev_orV | apply ev_notV | apply ev_ite | intro _ | exact True.intro | rfl))
      | exact True.intro | exact ⟨rfl, rfl⟩ | exact Nat.le_of_ble_eq_true rfl | rfl))
          · exact beat_shaped
          · exact beat_shaped
        · exact str_eq _
        refine nx_sq ?_
        apply nx_ifT
        · (repeat' (first
      | exact hix | exact hix2 | exact hix3 | exact hix4
      | ((with_reducible apply ev_var) <;> rfl)
      | (with_reducible exact ev_int) | (with_reducible exact ev_bl) | (with_reducible exact ev_str) | (with_reducible exact ev_non) | (with_reducible exact eva_nil) | (with_reducible exact evo_none)
      | (with_reducible (first | apply eva_cons | apply ev_tup | apply evo_some | apply x_add | apply e_sub | apply x_mul | apply ev_mod | apply ev_neg | apply e_div))
      | refine e_lenN (evm_var rfl) rfl ?_
      | (with_reducible (first | apply x_len | apply x_ix | apply x_sl | apply ev_isN | apply ev_notN | apply ev_eqD | apply ev_neD | apply e_lt | apply ev_le | apply ev_gt | apply ev_ge | apply ev_isInt | apply ev_isBool | apply ev_isTup | apply ev_isStr | apply ec_whole | apply eca_counts | apply eca_levels | exact ⟨rfl, rfl⟩ | apply ev_min | apply ev_intc | apply ev_sumT | apply evt_B | apply evt_test | apply evt_not | apply evt_and | apply evt_or | apply ev_andV | apply ev_orV | apply ev_notV | apply ev_ite | intro _ | exact True.intro | rfl))
      | exact True.intro | exact ⟨rfl, rfl⟩ | exact Nat.le_of_ble_eq_true rfl | rfl))
        · rw [eqv_ints]
          simp [whole]
        exact nx_ret ev_non (rt_of rfl hq)
      | 2, _ =>
        refine nx_ifT (evt_orT (evt_not (evt_B (ev_isTup (ev_var rfl)))) rfl) rfl ?_
        exact nx_ret ev_non (rt_of rfl hq)
      | 3, _ =>
        refine nx_ifT (evt_orF (evt_not (evt_B (ev_isTup (ev_var rfl)))) rfl (evt_orT (evt_test (ev_eqD (ev_var rfl) (ev_tup eva_nil (by decide)) rfl rfl)) (by simp [oddD, PyData.eqv, PyData.eqvAll]))) rfl ?_
        exact nx_ret ev_non (rt_of rfl hq)
end
end Kw

/-! text D14 -/
/-! does_run_over, _law_runs_over -/
namespace Kw
open PySem PySem.Spec PyProof.Rows L2 PySem.Calls
abbrev s_does_run_over : Stmt := top 48
theorem sc_does_run_over : FnScope ["well", "state", "low", "high", "fails", "trouble", "pair", "thing"] ["well", "state", "low", "high", "fails", "trouble"] (defScope s_does_run_over) := ⟨rfl, rfl, rfl, by decide +kernel, rfl, by decide +kernel, by decide +kernel⟩
abbrev s__law_runs_over : Stmt := top 62
theorem sc__law_runs_over : FnScope ["_law_well_here", "_law_state", "_law_low", "_law_high", "_law_fails", "_law_trouble", "_law_pair", "_law_k", "_law_thing", "_law_some", "_law_one", "_law_fresh"] ["_law_well_here", "_law_state", "_law_low", "_law_high", "_law_fails", "_law_trouble"] (defScope s__law_runs_over) := ⟨rfl, rfl, rfl, by decide +kernel, rfl, by decide +kernel, by decide +kernel⟩
def Flat (d : PyData) : Prop := d.canLay0 = true ∧ d.depth ≤ 60
theorem Flat.sh {d : PyData} (h : Flat d) : SeqAt.shaped d = true := by
  unfold SeqAt.shaped
  rw [h.1]
  have := h.2
  simpa using by omega
theorem flat_all {l : List PyData} (h : ∀ d ∈ l, Flat d) : PyData.canLayAll0 l = true ∧ PyData.depthAll l ≤ 60 := by
  induction l with
  | nil => simp [PyData.canLayAll0, PyData.depthAll]
  | cons x l ih =>
    obtain ⟨a, b⟩ := ih fun y hy => h y (List.mem_cons_of_mem _ hy)
    obtain ⟨c, e⟩ := h x List.mem_cons_self
    simp only [PyData.canLayAll0, PyData.depthAll, a, c]
    exact ⟨rfl, by omega⟩
theorem list_shaped {l : List PyData} (h : ∀ d ∈ l, Flat d) : SeqAt.shaped (.list l) = true := by
  obtain ⟨a, b⟩ := flat_all h
  have h3 : PyData.depth (.list l) ≤ 64 := by
    show PyData.depthAll l + 1 ≤ 64
    omega
  have h4 : PyData.canLay0 (.list l) = true := a
  unfold SeqAt.shaped
  rw [h4, decide_eq_true h3]
  rfl
theorem tup_shaped {l : List PyData} (h : ∀ d ∈ l, Flat d) : SeqAt.shaped (.tuple l) = true := by
  obtain ⟨a, b⟩ := flat_all h
  have h3 : PyData.depth (.tuple l) ≤ 64 := by
    show PyData.depthAll l + 1 ≤ 64
    omega
  have h4 : PyData.canLay0 (.tuple l) = true := a
  unfold SeqAt.shaped
  rw [h4, decide_eq_true h3]
  rfl
theorem nd_flat (n : Nd) : Flat n.d := ⟨n.canLay, by have := n.dep; omega⟩
theorem over_flat : Flat (.str "over") := by constructor <;> decide +kernel
theorem ndO_flat (o : Option Nd) : Flat (ndO o) := by
  cases o with
  | none => exact over_flat
  | some n => exact nd_flat n
theorem shp_flat {i : Nat} (h : i < 10) : Flat (shp i) := by
  have h1 : ((List.range 10).all fun i => (shp i).canLay0 && decide ((shp i).depth ≤ 60)) = true := by decide +kernel
  have := List.all_eq_true.mp h1 i (List.mem_range.mpr h)
  simpa [Flat] using this
theorem odd_flat {i : Nat} (h : i < 4) : Flat (oddD i) := by
  have h1 : ((List.range 4).all fun i => (oddD i).canLay0 && decide ((oddD i).depth ≤ 60)) = true := by decide +kernel
  have := List.all_eq_true.mp h1 i (List.mem_range.mpr h)
  simpa [Flat] using this
theorem elem_flat {v : Wl} {d : PyData} (h : Elem v d) : Flat d := by
  rcases h with h | ⟨n, hn, rfl⟩ | ⟨j, hj, rfl⟩
  · obtain ⟨i, hi, rfl⟩ := shp_of h
    exact shp_flat hi
  · exact nd_flat n
  · exact odd_flat hj
theorem eqv_lnil (l : List PyData) : PyData.eqv (.list l) (.list []) = l.isEmpty := by
  cases l <;> simp [PyData.eqv, PyData.eqvAll]
theorem eqv_tnil (l : List PyData) : PyData.eqv (.tuple l) (.tuple []) = l.isEmpty := by
  cases l <;> simp [PyData.eqv, PyData.eqvAll]
def TabOk (v : Wl) (l : List PyData) : Prop := l.length ≤ 20000 ∧ ∀ d ∈ l, Elem v d
/-- a table told: a tuple, or (false) a list -/
abbrev Tb := Wl × S × Int × Int × (List PyData ⊕ PyData)
def tsD : List PyData ⊕ PyData → PyData
  | .inl ts => .tuple ts
  | .inr d => d
def Tb.t (a : Tb) : PyData := tsD a.2.2.2.2
def TabS (v : Wl) : List PyData ⊕ PyData → Prop
  | .inl ts => TabOk v ts
  | .inr d => isTup d = false
def Tb.Ok (a : Tb) : Prop := a.1.Ok ∧ a.2.1.Ok a.1 ∧ 0 ≤ a.2.2.1 ∧ a.2.2.1 ≤ a.2.2.2.1 ∧ a.2.2.2.1 ≤ 2 ∧ TabS a.1 a.2.2.2.2
def Tb.runs (a : Tb) : Bool := match a.2.2.2.2 with | .inl ts => runsF a.1 a.2.2.1 a.2.2.2.1 (a.2.1, 1) ts | .inr _ => false
abbrev sp_does_run_over (P : Program) (w : World) (K : PySem.W.Frag) : Sp := ASp (α := Tb) P w K (fun a => [a.1.d, a.2.1.d, .int a.2.2.1, .int a.2.2.2.1, .int 1, a.t]) Tb.Ok fun a r => r = .dat (.bool a.runs)
abbrev Tl := Wl × S × Int × Int × List PyData
abbrev sp_law_runs_over (P : Program) (w : World) (K : PySem.W.Frag) : Sp := ASp (α := Tl) P w K (fun a => [a.1.d, a.2.1.d, .int a.2.2.1, .int a.2.2.2.1, .int 1, .tuple a.2.2.2.2]) (fun a => Tb.Ok (a.1, a.2.1, a.2.2.1, a.2.2.2.1, .inl a.2.2.2.2)) fun a r => r = .dat (.bool (Tb.runs (a.1, a.2.1, a.2.2.1, a.2.2.2.1, .inl a.2.2.2.2)))
theorem behind_nd {v : Wl} {lo hi : Int} {n n' : Nd} {d : PyData} (hv : v.Ok) (hn : NdOk v 1 n) (hlo : 0 ≤ lo) (h : behindF v lo hi n d = some (some n')) : NdOk v 1 n' := by
  rw [behind_find] at h
  obtain ⟨t, ht, e⟩ := Option.map_eq_some_iff.mp h
  exact (thL_ok hv hn hlo t (List.mem_of_find?_eq_some ht)).2 n' e
theorem beh_free (o : Option (Option Nd)) : lfree (behD o) = true := by
  match o with
  | none => rfl
  | some none => rfl
  | some (some n) => exact lfree_nd n
theorem beh_flat (o : Option (Option Nd)) : Flat (behD o) := by
  match o with
  | none => exact ⟨rfl, Nat.zero_le _⟩
  | some o => exact ndO_flat o
section
variable {P : Program} {w : World} {K : PySem.W.Frag} {mg : Str → Option Value} {base : Heap} {C1 C2 C3 : Addr}
theorem ev_eqS {C : Ct} {Γ : List SV} {Δ : Dl} {ta tb : TE} {a b : Str} (ha : EV C Γ Δ ta (.str a)) (hb : EV C Γ Δ tb (.str b)) : EV C Γ Δ (tOp rEq ta tb) (.bool (decide (a = b))) := ev_op ha hb (.pure fun G H x y s rx ry Q q => by
  cases rx
  cases ry
  refine ⟨rfl, ?_⟩
  have e : decide ((V.str a) = V.str b) = decide (a = b) := by simp
  rw [e]
  exact q _ (.bl _))
theorem eca_behind {C : Ct} {Γ : List SV} {Δ : Dl} {W : WX} {t0 t1 t2 t3 t4 : TE} {v : Wl} {n : Nd} {d : PyData} {lo hi : Int} (h : Bt.Ok (v, n, d, lo, hi)) (h0 : EV C Γ Δ t0 v.d) (h1 : EV C Γ Δ t1 n.d) (h2 : EV C Γ Δ t2 d) (h3 : EV C Γ Δ t3 (.int lo)) (h4 : EV C Γ Δ t4 (.int hi)) : EV C Γ Δ (tCallS (sp_behind C.P C.w C.K) (WE W) (tCons t0 (tCons t1 (tCons t2 (tCons t3 (tCons t4 tNil)))))) (behD (behindF v lo hi n d)) :=
  x_call (α := Bt) (v, n, d, lo, hi) (eva_cons h0 (eva_cons h1 (eva_cons h2 (eva_cons h3 (eva_cons h4 eva_nil))))) h (beh_free _)
theorem ok_does_run_over {f : Addr} {fd : FuncData} (T : Tx P K mg C1 C2 C3) (F : Fun K "does_run_over" "does_run_over" s_does_run_over f fd) (c_behind_thing : Cl P w K mg base 4 "behind_thing" (sp_behind P w K)) : FnG P w K mg base 5 f fd ["well", "state", "low", "high", "fails", "trouble"] (sp_does_run_over P w K) := by
  refine body_g F sc_does_run_over (fun a => rfl) (fun cdv ar up z H Q E hgd hr => ⟨_, (pss_cons (ps_if (PW.pt (pw_or (pt_not (pt_val (gIsinst (P := P) (w := w) (K := K) ⟨rfl, rfl, rfl⟩ (by rfl) T.b_isinstance (pv 5) (pe_bltn (v := .ty "tuple") (by rfl) T.b_tuple boot_ty_tuple rfl)))) (pw_or1 (pt_cmpR (gEq (P := P) (w := w) (K := K) ⟨rfl, rfl, rfl⟩ (hu65 hr)) (pv 5) (pe_tup pa_nil) (nomark _))))) (pss_one (ps_ret pe_bl)) pss_nil) (pss_cons (ps_set (i := 6) sc_does_run_over.nd rfl (by first | exact Or.inl rfl | exact Or.inr rfl) (pe_tup (pa_cons (pv 1) (pa_cons (pv 4) pa_nil)))) (pss_cons (ps_for (passes_of rfl) rfl (gIt (P := P) (w := w) (K := K) ⟨rfl, rfl, rfl⟩ (pe_slice (gSl (P := P) (w := w) (K := K) ⟨rfl, rfl, rfl⟩) (pv 5) po_none (po_some (pe_un un_neg pe_int)))) (pg_name (i := 7) sc_does_run_over.nd rfl (by first | exact Or.inl rfl | exact Or.inr rfl)) (pss_cons (ps_set (i := 6) sc_does_run_over.nd rfl (by first | exact Or.inl rfl | exact Or.inr rfl) (gCl (P := P) (w := w) (K := K) ⟨rfl, rfl, rfl⟩ rfl rfl c_behind_thing hr hgd (by rfl) takesF (pa_cons (pv 0) (pa_cons (pv 6) (pa_cons (pv 7) (pa_cons (pv 2) (pa_cons (pv 3) pa_nil))))))) (pss_one (ps_if (PW.pt (pw_or (pt_cmpR op_isN (pv 6) pe_non (nomark _)) (pw_or1 (pt_cmpR (gEq (P := P) (w := w) (K := K) ⟨rfl, rfl, rfl⟩ (hu65 hr)) (pv 6) (pe_k (by rfl) T.c_OVER_crews) (nomark _))))) (pss_one (ps_ret pe_bl)) pss_nil)))) (pss_one (ps_ret (pe_cmpR (gEq (P := P) (w := w) (K := K) ⟨rfl, rfl, rfl⟩ (hu65 hr)) (gCl (P := P) (w := w) (K := K) ⟨rfl, rfl, rfl⟩ rfl rfl c_behind_thing hr hgd (by rfl) takesF (pa_cons (pv 0) (pa_cons (pv 6) (pa_cons (pe_ix (gIx (P := P) (w := w) (K := K) ⟨rfl, rfl, rfl⟩ (hu65 hr)) (pv 5) (pe_un un_neg pe_int) (fun _ _ => rfl)) (pa_cons (pv 2) (pa_cons (pv 3) pa_nil)))))) (pe_k (by rfl) T.c_OVER_crews) (nomark _))))))), fun a hv hq => ?_⟩)
  obtain ⟨v, s, lo, hi, b⟩ := a
  obtain ⟨hv, hs, hlo, hlh, hhi, htb⟩ : v.Ok ∧ s.Ok v ∧ 0 ≤ lo ∧ lo ≤ hi ∧ hi ≤ 2 ∧ TabS v b := hv
  cases b with
  | inr d =>
    replace hq : RsOk P w K H Q E (.dat (.bool false)) := hq _ rfl
    replace htb : isTup d = false := htb
    show Nx _ [.dat v.d, .dat s.d, .dat (.int lo), .dat (.int hi), .dat (.int 1), .dat d, .any, .any] _ _
    refine nx_sq ?_
    refine nx_ifT (evt_orT (evt_not (evt_B (ev_isTup (ev_var rfl)))) (by rw [htb]; rfl)) rfl ?_
    exact nx_ret ev_bl (rt_of rfl hq)
  | inl ts =>
    replace hq : RsOk P w K H Q E (.dat (.bool (runsF v lo hi (s, 1) ts))) := hq _ rfl
    obtain ⟨hlen, hel⟩ : ts.length ≤ 20000 ∧ ∀ d ∈ ts, Elem v d := htb
    have hshT : SeqAt.shaped (.tuple ts) = true := tup_shaped fun d hd => elem_flat (hel d hd)
    show Nx _ [.dat v.d, .dat s.d, .dat (.int lo), .dat (.int hi), .dat (.int 1), .dat (.tuple ts), .any, .any] _ _
    refine nx_sq ?_
    by_cases hz : ts = []
    · subst hz
      refine nx_ifT (evt_orF (evt_not (evt_B (ev_isTup (ev_var rfl)))) rfl (evt_test (ev_eqD (ev_var rfl) (ev_tup eva_nil (Nat.zero_le _)) rfl rfl))) (eqv_tnil []) ?_
      exact nx_ret ev_bl (rt_of rfl hq)
    refine nx_ifF (evt_orF (evt_not (evt_B (ev_isTup (ev_var rfl)))) rfl (evt_test (ev_eqD (ev_var rfl) (ev_tup eva_nil (Nat.zero_le _)) hshT rfl))) (by rw [eqv_tnil]; simp [hz]) (nx_nx ?_)
    (try dsimp only [List.set, setAll])
    refine nx_sq ?_
    refine nx_asg (d := Nd.d (s, 1)) ?_ ?_
    · show EV _ _ _ _ (.tuple [s.d, .int 1])
      (repeat' (first
      | exact hix | exact hix2 | exact hix3 | exact hix4
      | ((with_reducible apply ev_var) <;> rfl)
      | (with_reducible exact ev_int) | (with_reducible exact ev_bl) | (with_reducible exact ev_str) | (with_reducible exact ev_non) | (with_reducible exact eva_nil) | (with_reducible exact evo_none)
      | (with_reducible (first | apply eva_cons | apply ev_tup | apply evo_some | apply x_add | apply e_sub | apply x_mul | apply ev_mod | apply ev_neg | apply e_div))
      | refine e_lenN (evm_var rfl) rfl ?_
      | (with_reducible (first | apply x_len | apply x_ix | apply x_sl | apply ev_isN | apply ev_notN | apply ev_eqD | apply ev_neD | apply e_lt | apply ev_le | apply ev_gt | apply ev_ge | apply ev_isInt | apply ev_isBool | apply ev_isTup | apply ev_isStr | apply ec_whole | apply eca_counts | apply eca_levels | exact ⟨rfl, rfl⟩ | apply ev_min | apply ev_intc | apply ev_sumT | apply evt_B | apply evt_test | apply evt_not | apply evt_and | apply evt_or | apply ev_andV | apply ev_orV | apply ev_notV | apply ev_ite | intro _ | exact True.intro | rfl))
      | exact True.intro | exact ⟨rfl, rfl⟩ | exact Nat.le_of_ble_eq_true rfl | rfl))
    (try dsimp only [List.set, setAll])
    refine nx_sq ?_
    have hpos : 0 < ts.length := List.length_pos_iff.mpr hz
    have hcut : cutL ts none (some (-1)) = ts.take (ts.length - 1) := cutL_but ts 1 (by decide)
    refine nx_for (ds := ts.take (ts.length - 1)) (w_tup (ds := ts.take (ts.length - 1)) ?_) (fun i Γ Δ => ∃ (n : Nd) (b : SV), NdOk v 1 n ∧ runsF v lo hi (s, 1) ts = runsF v lo hi n (ts.drop i) ∧
        Γ = [.dat v.d, .dat s.d, .dat (.int lo), .dat (.int hi), .dat (.int 1), .dat (.tuple ts), .dat n.d, b] ∧ Δ = [])
      ⟨(s, 1), _, ⟨hs, Int.zero_le_ofNat 1, Int.le_refl 1⟩, rfl, rfl, rfl⟩ ?_ ?_
    · rw [← hcut]
      exact e_sl (ev_var rfl) evo_none (evo_some (ev_neg ev_int))
    · rintro hs' i d Γ Δ hd ⟨n, b, hn, hrun, rfl, rfl⟩
      have hi1 : i < ts.length - 1 := by
        have := (List.getElem?_eq_some_iff.mp hd).1
        rw [List.length_take] at this
        omega
      have hd' : ts[i]? = some d := by
        rw [List.getElem?_take] at hd
        simpa [hi1] using hd
      have hel' := hel d (List.mem_of_getElem? hd')
      have hdr : ts.drop i = d :: ts.drop (i + 1) := by
        rw [List.drop_eq_getElem_cons (by omega : i < ts.length), (List.getElem?_eq_some_iff.mp hd').2]
      have hrest : (ts.drop (i + 1)).isEmpty = false := by
        rw [List.isEmpty_eq_false_iff]
        intro z
        have := congrArg List.length z
        rw [List.length_drop] at this
        simp at this
        omega
      rw [hdr] at hrun
      refine ⟨[7], _, tg_name, ?_⟩
      (try dsimp only [List.set, setAll])
      refine nx_sq ?_
      refine nx_asg (eca_behind (v := v) (n := n) (d := d) (lo := lo) (hi := hi) ⟨hv, hn, hel', hlo, hlh, hhi⟩ (ev_var rfl) (ev_var rfl) (ev_var rfl) (ev_var rfl) (ev_var rfl)) ?_
      (try dsimp only [List.set, setAll])
      cases hb : behindF v lo hi n d with
      | none =>
        have e : runsF v lo hi (s, 1) ts = false := by rw [hrun, runsF, hb]
        rw [e] at hq
        refine nx_ifT (evt_orT (evt_test (ev_isN (ev_var rfl))) rfl) rfl ?_
        exact nx_ret ev_bl (rt_of rfl hq)
      | some o =>
        cases o with
        | none =>
          have e : runsF v lo hi (s, 1) ts = false := by rw [hrun, runsF, hb]; exact hrest
          rw [e] at hq
          refine nx_ifT (evt_orF (evt_test (ev_isN (ev_var rfl))) rfl (evt_test (ev_eqD (ev_var rfl) ev_str over_shaped over_shaped))) eqv_over_over ?_
          exact nx_ret ev_bl (rt_of rfl hq)
        | some n' =>
          refine nx_ifF (evt_orF (evt_test (ev_isN (ev_var rfl))) rfl (evt_test (ev_eqD (ev_var rfl) ev_str n'.shaped over_shaped))) (eqv_over_nd n') (nx_nx ?_)
          (try dsimp only [List.set, setAll])
          refine nx_li ⟨n', _, behind_nd hv hn hlo hb, ?_, rfl, rfl⟩
          rw [hrun, runsF, hb]
          simp [hrest]
    · rintro Γ Δ ⟨n, b, hn, hrun, rfl, rfl⟩
      have e0 : (ts.take (ts.length - 1)).length = ts.length - 1 := by rw [List.length_take]; omega
      rw [e0] at hrun
      obtain ⟨d, hd⟩ : ∃ d, ts[ts.length - 1]? = some d := ⟨_, List.getElem?_eq_getElem (by omega)⟩
      have hdr : ts.drop (ts.length - 1) = [d] := by
        rw [List.drop_eq_getElem_cons (by omega : ts.length - 1 < ts.length), (List.getElem?_eq_some_iff.mp hd).2, List.drop_eq_nil_of_le (by omega)]
      rw [hdr] at hrun
      have hat : atI ts (-1) = some d := by rw [← hd]; exact atI_neg ts 1 (by decide) hpos
      (try dsimp only [List.set, setAll])
      refine nx_ret2 (ev_eqD (eca_behind (v := v) (n := n) (d := d) (lo := lo) (hi := hi) ⟨hv, hn, hel d (List.mem_of_getElem? hd), hlo, hlh, hhi⟩ (ev_var rfl) (ev_var rfl) (e_ix (ev_var rfl) (ev_neg ev_int) hat) (ev_var rfl) (ev_var rfl)) ev_str (beh_flat _).sh over_shaped) ?_ (rt_of rfl hq)
      rw [hrun, runsF]
      congr 1
      match behindF v lo hi n d with
      | none => rw [behD, PyData.eqv]
      | some none => exact eqv_over_over
      | some (some n') => rw [behD, ndO, eqv_over_nd]; rfl
end
end Kw

/-! text D15 -/
/-! _law_runs_over -/
namespace Kw
open PySem PySem.Spec PyProof.Rows L2 PySem.Calls
def fRo (d : PyData) : PyData → Bool
  | .tuple [t, _] => decide (t.shown = d.shown)
  | _ => false
def vRo : PyData → PyData
  | .tuple [_, f] => f
  | d => d
theorem ro_list (l : List Th) (d : PyData) : ((l.map Th.d).filter (fRo d)).map vRo = ((l.filter fun t => decide (t.1.shown = d.shown)).map (·.2)).map ndO := by
  induction l with
  | nil => rfl
  | cons t l ih =>
    rw [List.map_cons, List.filter_cons, List.filter_cons]
    have e : fRo d t.d = decide (t.1.shown = d.shown) := rfl
    rw [e]
    cases decide (t.1.shown = d.shown) with
    | true => simpa [vRo, Th.d] using ih
    | false => simpa using ih
section
variable {P : Program} {w : World} {K : PySem.W.Frag} {mg : Str → Option Value} {base : Heap} {C1 C2 C3 : Addr}
theorem ok_law_runs_over {f : Addr} {fd : FuncData} (T : Tx P K mg C1 C2 C3) (F : Fun K "_law_runs_over" "_law_runs_over" s__law_runs_over f fd) (c__law_things : Cl P w K mg base 4 "_law_things" (sp_law_things P w K)) : FnG P w K mg base 5 f fd ["_law_well_here", "_law_state", "_law_low", "_law_high", "_law_fails", "_law_trouble"] (sp_law_runs_over P w K) := by
  refine body_g F sc__law_runs_over (fun a => rfl) (fun cdv ar up z H Q E hgd hr => ⟨_, (pss_cons (ps_set (i := 6) sc__law_runs_over.nd rfl (by first | exact Or.inl rfl | exact Or.inr rfl) (pe_tup (pa_cons (pv 1) (pa_cons (pv 4) pa_nil)))) (pss_cons (ps_for (passes_of rfl) rfl (gEnum (P := P) (w := w) (K := K) ⟨rfl, rfl, rfl⟩ (by rfl) T.b_enumerate (pa_cons (pv 5) pa_nil)) (gTupT (n := 2) (P := P) (w := w) (K := K) ⟨rfl, rfl, rfl⟩ rfl (pgs_cons (pg_name (i := 7) sc__law_runs_over.nd rfl (by first | exact Or.inl rfl | exact Or.inr rfl)) (pgs_cons (pg_name (i := 8) sc__law_runs_over.nd rfl (by first | exact Or.inl rfl | exact Or.inr rfl)) pgs_nil)) rfl rfl) (pss_cons (ps_setLc (i := 9) (own := [("_law_one", 10), ("_law_fresh", 11)]) rfl sc__law_runs_over.nd rfl rfl rfl (gIt (P := P) (w := w) (K := K) ⟨rfl, rfl, rfl⟩ (gCl (P := P) (w := w) (K := K) ⟨rfl, rfl, rfl⟩ rfl rfl c__law_things hr hgd (by rfl) takesF (pa_cons (pv 0) (pa_cons (pv 6) (pa_cons (pv 2) (pa_cons (pv 3) pa_nil)))))) (blkOk_by (N := ["_law_well_here", "_law_state", "_law_low", "_law_high", "_law_fails", "_law_trouble", "_law_pair", "_law_k", "_law_thing", "_law_some", "_law_one", "_law_fresh"]) (sc := defScope s__law_runs_over) (by decide +kernel)) (fun _ _ _ _ _ => (gTupT (n := 2) (P := P) (w := w) (K := K) ⟨rfl, rfl, rfl⟩ rfl (pgs_cons (pg_name (i := 10) sc__law_runs_over.nd rfl (by first | exact Or.inl rfl | exact Or.inr rfl)) (pgs_cons (pg_name (i := 11) sc__law_runs_over.nd rfl (by first | exact Or.inl rfl | exact Or.inr rfl)) pgs_nil)) rfl rfl)) (fun _ _ _ _ _ => (pts_one (pt_cmpR op_eq (pe_callB (gRepr (P := P) (w := w) (K := K) ⟨rfl, rfl, rfl⟩ (hu64 hr) hgd) (by rfl) T.b_repr boot_k_repr (pa_cons (pv 10) pa_nil)) (pe_callB (gRepr (P := P) (w := w) (K := K) ⟨rfl, rfl, rfl⟩ (hu64 hr) hgd) (by rfl) T.b_repr boot_k_repr (pa_cons (pv 8) pa_nil)) (nomark _)))) (fun _ _ _ _ _ => (pv 11))) (pss_cons (ps_if (PW.pt (pw_or (pt_cmpR (gEq (P := P) (w := w) (K := K) ⟨rfl, rfl, rfl⟩ (hu65 hr)) (pv 9) (pe_lst pa_nil) (nomark _)) (pw_or1 (pt_cmpR (gNe (P := P) (w := w) (K := K) ⟨rfl, rfl, rfl⟩ (hu65 hr)) (pe_cmpR (gEq (P := P) (w := w) (K := K) ⟨rfl, rfl, rfl⟩ (hu65 hr)) (pe_ix (gIx (P := P) (w := w) (K := K) ⟨rfl, rfl, rfl⟩ (hu65 hr)) (pv 9) pe_int (fun _ _ => rfl)) pe_str (nomark _)) (pe_cmpR (gEq (P := P) (w := w) (K := K) ⟨rfl, rfl, rfl⟩ (hu65 hr)) (pv 7) (pe_op op_sub (pe_callB (gLen (P := P) (w := w) (K := K) ⟨rfl, rfl, rfl⟩ (hu65 hr)) (by rfl) T.b_len boot_k_len (pa_cons (pv 5) pa_nil)) pe_int) (nomark _)) (nomark _))))) (pss_one (ps_ret pe_bl)) pss_nil) (pss_one (ps_set (i := 6) sc__law_runs_over.nd rfl (by first | exact Or.inl rfl | exact Or.inr rfl) (pe_ix (gIx (P := P) (w := w) (K := K) ⟨rfl, rfl, rfl⟩ (hu65 hr)) (pv 9) pe_int (fun _ _ => rfl))))))) (pss_one (ps_ret (pe_cmpR (gEq (P := P) (w := w) (K := K) ⟨rfl, rfl, rfl⟩ (hu65 hr)) (pv 6) pe_str (nomark _)))))), fun a hv hq => ?_⟩)
  obtain ⟨v, s, lo, hi, ts⟩ := a
  replace hq : RsOk P w K H Q E (.dat (.bool (runsF v lo hi (s, 1) ts))) := hq _ rfl
  obtain ⟨hv, hs, hlo, hlh, hhi, hlen, hel⟩ : v.Ok ∧ s.Ok v ∧ 0 ≤ lo ∧ lo ≤ hi ∧ hi ≤ 2 ∧ ts.length ≤ 20000 ∧ ∀ d ∈ ts, Elem v d := hv
  show Nx _ [.dat v.d, .dat s.d, .dat (.int lo), .dat (.int hi), .dat (.int 1), .dat (.tuple ts), .any, .any, .any, .any, .any, .any] _ _
  refine nx_sq ?_
  refine nx_asg (d := Nd.d (s, 1)) ?_ ?_
  · show EV _ _ _ _ (.tuple [s.d, .int 1])
    (repeat' (first
      | exact hix | exact hix2 | exact hix3 | exact hix4
      | ((with_reducible apply ev_var) <;> rfl)
      | (with_reducible exact ev_int) | (with_reducible exact ev_bl) | (with_reducible exact ev_str) | (with_reducible exact ev_non) | (with_reducible exact eva_nil) | (with_reducible exact evo_none)
      | (with_reducible (first | apply eva_cons | apply ev_tup | apply evo_some | apply x_add | apply e_sub | apply x_mul | apply ev_mod | apply ev_neg | apply e_div))
      | refine e_lenN (evm_var rfl) rfl ?_
      | (with_reducible (first | apply x_len | apply x_ix | apply x_sl | apply ev_isN | apply ev_notN | apply ev_eqD | apply ev_neD | apply e_lt | apply ev_le | apply ev_gt | apply ev_ge | apply ev_isInt | apply ev_isBool | apply ev_isTup | apply ev_isStr | apply ec_whole | apply eca_counts | apply eca_levels | exact ⟨rfl, rfl⟩ | apply ev_min | apply ev_intc | apply ev_sumT | apply evt_B | apply evt_test | apply evt_not | apply evt_and | apply evt_or | apply ev_andV | apply ev_orV | apply ev_notV | apply ev_ite | intro _ | exact True.intro | rfl))
      | exact True.intro | exact ⟨rfl, rfl⟩ | exact Nat.le_of_ble_eq_true rfl | rfl))
  (try dsimp only [List.set, setAll])
  refine nx_sq ?_
  refine nx_for (wd_enumT (ds := ts) (eva_cons (ev_var rfl) eva_nil)) (fun i Γ Δ => ∃ (o : Option Nd) (b c d e g : SV), (∀ n, o = some n → NdOk v 1 n ∧ runsF v lo hi (s, 1) ts = runsF v lo hi n (ts.drop i)) ∧ (o = none → i = ts.length ∧ runsF v lo hi (s, 1) ts = true) ∧
      Γ = [.dat v.d, .dat s.d, .dat (.int lo), .dat (.int hi), .dat (.int 1), .dat (.tuple ts), .dat (ndO o), b, c, d, e, g] ∧ Δ = [])
    ⟨some (s, 1), _, _, _, _, _, fun n h => by cases h; exact ⟨⟨hs, Int.zero_le_ofNat 1, Int.le_refl 1⟩, rfl⟩, (fun h => nomatch h), rfl, rfl⟩ ?_ ?_
  · rintro hs' i dd Γ Δ hd ⟨o, b, c, d1, e, g, hsome, hnone, rfl, rfl⟩
    obtain ⟨d, hd1, rfl⟩ := enumD_at hd
    replace hd := hd1
    have hi' : i < ts.length := (List.getElem?_eq_some_iff.mp hd).1
    cases o with
    | none => exact absurd (hnone rfl).1 (by omega)
    | some n =>
    obtain ⟨hn, hrun⟩ := hsome n rfl
    have hel' := hel d (List.mem_of_getElem? hd)
    have hdr : ts.drop i = d :: ts.drop (i + 1) := by
      rw [List.drop_eq_getElem_cons hi', (List.getElem?_eq_some_iff.mp hd).2]
    have hrest : (ts.drop (i + 1)).isEmpty = decide ((i : Int) = (ts.length : Int) - 1) := by
      rw [Bool.eq_iff_iff]
      simp
      omega
    rw [hdr] at hrun
    refine ⟨[7, 8], _, tg_tup rfl rfl, ?_⟩
    (try dsimp only [List.set, setAll])
    have sd := elem_show hv hel'
    have hth : (thL v lo hi n).length ≤ 21 := thL_len v lo hi n hv hn.1 ⟨hlo, by omega⟩
    refine nx_sq (nx_asgL (evl_lc (f := fRo d) (v := vRo) (w_list (evl_ev (eca_things (v := v) (n := n) (lo := lo) (hi := hi) ⟨hv, hn.1, hlo, hlh, (by omega : hi ≤ 10)⟩ (ev_var rfl) (ev_var rfl) (ev_var rfl) (ev_var rfl)))) (by rw [List.length_map]; omega) ?_) fun p => ?_)
    · intro D hs2 acc x hx
      obtain ⟨t, ht, rfl⟩ := List.mem_map.mp hx
      have st := elem_show hv (v := v) (d := t.1) (.inl (thOk_mono hhi (thL_ok hv hn hlo t ht).1))
      refine ⟨[10, 11], _, tg_tup (ds := [t.1, ndO t.2]) rfl rfl, by decide, ?_, fun _ => ?_⟩
      · exact evt_test (ev_eqS (ev_repr (ev_var rfl) st.a st.b st.c st.e) (ev_repr (ev_var rfl) sd.a sd.b sd.c sd.e))
      · exact ev_var rfl
    rw [ro_list]
    (try dsimp only [List.set, setAll])
    refine nx_freeze (k := 0) (m := 9) rfl rfl ?_
    (try dsimp only [List.set, setAll, List.eraseIdx])
    have hbeh : behindF v lo hi n d = (((thL v lo hi n).filter fun t => decide (t.1.shown = d.shown)).map (·.2)).head? := rfl
    generalize hl : ((thL v lo hi n).filter fun t => decide (t.1.shown = d.shown)).map (·.2) = l at hbeh ⊢
    refine nx_sq ?_
    have hlsh : SeqAt.shaped (.list (l.map ndO)) = true := list_shaped fun x hx => by
      obtain ⟨o, _, rfl⟩ := List.mem_map.mp hx
      exact ndO_flat o
    cases l with
    | nil =>
      have e : runsF v lo hi (s, 1) ts = false := by rw [hrun, runsF, hbeh]; rfl
      rw [e] at hq
      refine nx_ifT (evt_orT (evt_test (ev_eqD (ev_var rfl) (evl_ev (evl_lst eva_nil (Nat.zero_le _))) nil_shaped nil_shaped)) (eqv_lnil [])) rfl ?_
      exact nx_ret ev_bl (rt_of rfl hq)
    | cons o l =>
      have hat : atI ((o :: l).map ndO) 0 = some (ndO o) := atI_nat (ndO o :: l.map ndO) 0
      have hov : PyData.eqv (ndO o) (.str "over") = o.isNone := by
        cases o with
        | none => exact eqv_over_over
        | some n' => exact eqv_over_nd n'
      have hbb : ∀ x y : Bool, PyData.eqv (.bool x) (.bool y) = (x == y) := fun x y => by rw [PyData.eqv]
      have h2 : EVT ⟨K, P, w, H⟩ [.dat v.d, .dat s.d, .dat (.int lo), .dat (.int hi), .dat (.int 1), .dat (.tuple ts), .dat (ndO (some n)), .dat (.int (i : Nat)), .dat d, .dat (.list ((o :: l).map ndO)), e, g] ([] ++ hs') (tTest (tOp (rNeD K) (tOp (rEqD K) (tOp (uIx P w K) (tVar 9) (tC (.int 0))) (tC (.str "over"))) (tOp (rEqD K) (tVar 7) (tOp iSub (tCB (uLen P w K) (tCons (tVar 5) tNil)) (tC (.int 1)))))) (!(o.isNone == (ts.drop (i + 1)).isEmpty)) := by
        have ee : (!(o.isNone == (ts.drop (i + 1)).isEmpty)) = !(PyData.eqv (.bool (PyData.eqv (ndO o) (.str "over"))) (.bool (PyData.eqv (.int (i : Nat)) (.int ((ts.length : Int) - 1))))) := by rw [hov, eqv_ints, hbb, ← hrest]
        rw [ee]
        exact evt_test (ev_neD (ev_eqD (e_ixL (ev_var rfl) ev_int hat) ev_str (ndO_flat o).sh over_shaped) (ev_eqD (ev_var rfl) (e_sub (x_len (ev_var rfl) rfl) ev_int) rfl rfl) rfl rfl)
      by_cases hc : o.isNone = (ts.drop (i + 1)).isEmpty
      · refine nx_ifF (evt_orF (evt_test (ev_eqD (ev_var rfl) (evl_ev (evl_lst eva_nil (Nat.zero_le _))) hlsh nil_shaped)) (eqv_lnil _) h2) (by rw [hc]; simp) (nx_nx ?_)
        (try dsimp only [List.set, setAll])
        refine nx_asg (e_ixL (ev_var rfl) ev_int hat) ?_
        (try dsimp only [List.set, setAll])
        refine nx_li ⟨o, _, _, _, _, _, ?_, ?_, rfl, rfl⟩
        · rintro n' rfl
          refine ⟨behind_nd hv hn hlo (d := d) (by rw [hbeh]; rfl), ?_⟩
          rw [hrun, runsF, hbeh]
          simp only [List.head?_cons]
          rw [← hc]
          rfl
        · rintro rfl
          have hz : (ts.drop (i + 1)).isEmpty = true := hc.symm
          have : (i : Int) = (ts.length : Int) - 1 := of_decide_eq_true (hrest ▸ hz)
          refine ⟨by omega, ?_⟩
          rw [hrun, runsF, hbeh]
          exact hz
      · have e : runsF v lo hi (s, 1) ts = false := by
          rw [hrun, runsF, hbeh]
          cases o with
          | none => simpa using hc
          | some n' =>
            have : (ts.drop (i + 1)).isEmpty = true := by simpa using hc
            simp only [List.head?_cons, this]
            rfl
        rw [e] at hq
        refine nx_ifT (evt_orF (evt_test (ev_eqD (ev_var rfl) (evl_ev (evl_lst eva_nil (Nat.zero_le _))) hlsh nil_shaped)) (eqv_lnil _) h2) (by simpa using hc) ?_
        exact nx_ret ev_bl (rt_of rfl hq)
  · rintro Γ Δ ⟨o, b, c, d, e, g, hsome, hnone, rfl, rfl⟩
    (try dsimp only [List.set, setAll])
    refine nx_ret2 (ev_eqD (ev_var rfl) ev_str (ndO_flat o).sh over_shaped) ?_ (rt_of rfl hq)
    congr 1
    rw [enumD_len] at hsome
    cases o with
    | none => rw [(hnone rfl).2]; exact eqv_over_over
    | some n =>
      rw [(hsome n rfl).2, List.drop_length]
      exact eqv_over_nd n
end
end Kw

/-! text D16 -/
/-! closed tables, in plain Lean; is_pair -/
namespace Kw
open PySem PySem.Spec PyProof.Rows L2 PySem.Calls
abbrev s_is_pair : Stmt := top 49
theorem sc_is_pair : FnScope ["well", "thing", "fails"] ["well", "thing", "fails"] (defScope s_is_pair) := ⟨rfl, rfl, rfl, by decide +kernel, rfl, by decide +kernel, by decide +kernel⟩
theorem intsD_inj {xs ys : List Int} (h : intsD xs = intsD ys) : xs = ys := by
  unfold intsD at h
  injection h with h
  exact List.map_inj_right (fun a b e => by injection e) |>.mp h
theorem S.d_inj {s t : S} (h : s.d = t.d) : s = t := by
  obtain ⟨a, b, c, d, e⟩ := s
  obtain ⟨a', b', c', d', e'⟩ := t
  unfold S.d S.l at h
  injection h with h
  simp only [List.cons.injEq, PyData.int.injEq, and_true] at h
  obtain ⟨rfl, h2, h3, h4, rfl⟩ := h
  rw [intsD_inj h2, intsD_inj h3, intsD_inj h4]
theorem Nd.d_inj {n m : Nd} (h : n.d = m.d) : n = m := by
  obtain ⟨a, b⟩ := n
  obtain ⟨a', b'⟩ := m
  unfold Nd.d at h
  injection h with h
  simp only [List.cons.injEq, PyData.int.injEq, and_true] at h
  rw [S.d_inj h.1, h.2]
theorem nds_inj {l m : List Nd} (h : l.map Nd.d = m.map Nd.d) : l = m := List.map_inj_right (fun a b e => Nd.d_inj e) |>.mp h
def isPairF (v : Wl) : PyData → Bool
  | .tuple [a, b] => isFew v a && whole b (.int 0) (.int 1)
  | _ => false
theorem pair_nd {v : Wl} {n : Nd} (hv : v.Ok) (h : NdOk v 1 n) : isPairF v n.d = true := by
  obtain ⟨s, l⟩ := n
  obtain ⟨hs, h0, h1⟩ : s.Ok v ∧ 0 ≤ l ∧ l ≤ 1 := h
  show (isFew v s.d && whole (.int l) (.int 0) (.int 1)) = true
  rw [few_ok hv hs, whole_int, decide_eq_true h0, decide_eq_true h1]
  rfl
theorem whole_is {b : PyData} {i j : Int} (h : whole b (.int i) (.int j) = true) : ∃ k : Int, b = .int k ∧ i ≤ k ∧ k ≤ j := by
  cases b with
  | int k =>
    rw [whole_int] at h
    simp only [Bool.and_eq_true, decide_eq_true_eq] at h
    exact ⟨k, rfl, h⟩
  | _ => simp [whole] at h
theorem pair_of {v : Wl} {d : PyData} (h : isPairF v d = true) : ∃ n : Nd, NdOk v 1 n ∧ d = n.d := by
  unfold isPairF at h
  split at h
  · rename_i a b
    rw [Bool.and_eq_true] at h
    obtain ⟨s, rfl, hs⟩ := few_of h.1
    obtain ⟨k, rfl, h0, h1⟩ := whole_is h.2
    exact ⟨(s, k), ⟨hs, h0, h1⟩, rfl⟩
  · cases h
theorem pairs_of {v : Wl} {ts : List PyData} (h : ts.all (isPairF v) = true) : ∃ ns : List Nd, ts = ns.map Nd.d ∧ ∀ n ∈ ns, NdOk v 1 n :=
  pick_all fun d hd => pair_of (List.all_eq_true.mp h d hd)
def upN (ns : List Nd) : Prop := ∀ i x y, ns[i]? = some x → ns[i + 1]? = some y → PySem.W.dataLt x.d y.d = true
def shutAt (th : Nd → List Th) (ns : List Nd) : Prop := ∀ n ∈ ns, ∀ t ∈ th n, ∃ m ∈ ns, t.2 = some m
def Closed (v : Wl) (lo hi : Int) (s : S) (ts : List PyData) : Prop := ∃ ns : List Nd, ts = ns.map Nd.d ∧ (∀ n ∈ ns, NdOk v 1 n) ∧ upN ns ∧ (s, 1) ∈ ns ∧ shutAt (thL v lo hi) ns
open Classical in
noncomputable def closedF (v : Wl) (lo hi : Int) (s : S) (ts : List PyData) : Bool := decide (Closed v lo hi s ts)
theorem closed_no {v : Wl} {lo hi : Int} {s : S} {ts : List PyData} (h : ¬ Closed v lo hi s ts) : closedF v lo hi s ts = false := by
  unfold closedF
  exact @decide_eq_false _ (Classical.propDecidable _) h
theorem closed_yes {v : Wl} {lo hi : Int} {s : S} {ts : List PyData} (h : Closed v lo hi s ts) : closedF v lo hi s ts = true := by
  unfold closedF
  exact @decide_eq_true _ (Classical.propDecidable _) h
theorem closed_pairs {v : Wl} {lo hi : Int} {s : S} {ts : List PyData} (hv : v.Ok) (h : ¬ ts.all (isPairF v) = true) : closedF v lo hi s ts = false := by
  refine closed_no fun ⟨ns, e, hn, _⟩ => h ?_
  subst e
  refine List.all_eq_true.mpr fun d hd => ?_
  obtain ⟨n, hm, rfl⟩ := List.mem_map.mp hd
  exact pair_nd hv (hn n hm)
theorem closed_iff {v : Wl} {lo hi : Int} {s : S} {ns : List Nd} (hn : ∀ n ∈ ns, NdOk v 1 n) {p : Bool} (h : p = true ↔ (upN ns ∧ (s, 1) ∈ ns ∧ shutAt (thL v lo hi) ns)) : closedF v lo hi s (ns.map Nd.d) = p := by
  cases p with
  | true => exact closed_yes ⟨ns, rfl, hn, h.mp rfl⟩
  | false =>
    refine closed_no fun ⟨ms, e, _, h1⟩ => ?_
    obtain rfl := nds_inj e
    have := h.mpr h1
    cases this
theorem visit_shut : ∀ (l : List Th) (k f : List Nd), visit l (k, f) = some (k, f) ↔ ∀ t ∈ l, ∃ m ∈ k, t.2 = some m
  | [], k, f => by simp [visit]
  | (_, none) :: r, k, f => by simp [visit]
  | (a, some n) :: r, k, f => by
    have mono : ∀ (l : List Th) (k f k' f' : List Nd), visit l (k, f) = some (k', f') → k.length ≤ k'.length := by
      intro l
      induction l with
      | nil => intro k f k' f' h; simp [visit] at h; rw [h.1]; exact Nat.le_refl _
      | cons t l ih =>
        obtain ⟨a, b⟩ := t
        intro k f k' f' h
        cases b with
        | none => simp [visit] at h
        | some m =>
          simp only [visit] at h
          split at h
          · exact ih _ _ _ _ h
          · have := ih _ _ _ _ h
            simp at this
            omega
    by_cases hm : n ∈ k
    · have e : visit ((a, some n) :: r) (k, f) = visit r (k, f) := by simp [visit, hm]
      rw [e, visit_shut r k f, List.forall_mem_cons]
      exact ⟨fun h => ⟨⟨n, hm, rfl⟩, h⟩, fun h => h.2⟩
    · have e : visit ((a, some n) :: r) (k, f) = visit r (k ++ [n], f ++ [n]) := by simp [visit, hm]
      rw [e]
      constructor
      · intro h
        have := mono _ _ _ _ _ h
        simp at this
        omega
      · intro h
        obtain ⟨m, hk, z⟩ := h (a, some n) List.mem_cons_self
        cases z
        exact absurd hk hm
theorem shut_eq (v : Wl) (lo hi : Int) (ns : List Nd) : shutAt (thP v lo hi) ns ↔ shutAt (thL v lo hi) ns := by
  have h : ∀ n, (∀ t ∈ thP v lo hi n, ∃ m ∈ ns, t.2 = some m) ↔ ∀ t ∈ thL v lo hi n, ∃ m ∈ ns, t.2 = some m := fun n => by
    rw [← visit_shut _ ns [], visit_eq, visit_shut]
  exact ⟨fun a n hn => (h n).mp (a n hn), fun a n hn => (h n).mpr (a n hn)⟩
/-- the dict of a table's rows -/
theorem putN_kN (l : List Nd) (n : Nd) : putN (l.map kN) (.tup n.kl) (.bool true) = (if n ∈ l then l else l ++ [n]).map kN := by
  have z := lookN_nd l n
  unfold putN
  rw [z]
  by_cases h : n ∈ l
  · rw [if_pos (decide_eq_true h), if_pos h, List.map_map]
    refine List.map_congr_left fun x _ => ?_
    show (if (kN x).1 = _ then ((kN x).1, PyData.bool true) else kN x) = kN x
    split <;> rfl
  · rw [if_neg (by simp [h]), if_neg h, List.map_append]
    rfl
def knownOf (ns acc : List Nd) : List Nd := ns.foldl (fun l n => if n ∈ l then l else l ++ [n]) acc
theorem knownOf_mem : ∀ (ns acc : List Nd) (m : Nd), m ∈ knownOf ns acc ↔ m ∈ acc ∨ m ∈ ns
  | [], acc, m => by simp [knownOf]
  | n :: ns, acc, m => by
    have e : knownOf (n :: ns) acc = knownOf ns (if n ∈ acc then acc else acc ++ [n]) := rfl
    rw [e, knownOf_mem ns]
    by_cases h : n ∈ acc
    · rw [if_pos h]
      constructor
      · rintro (a | a)
        · exact .inl a
        · exact .inr (List.mem_cons_of_mem _ a)
      · rintro (a | a)
        · exact .inl a
        · rcases List.mem_cons.mp a with rfl | a
          · exact .inl h
          · exact .inr a
    · rw [if_neg h]
      simp only [List.mem_append, List.mem_cons, List.not_mem_nil, or_false]
      constructor
      · rintro ((a | a) | a)
        · exact .inl a
        · exact .inr (.inl a)
        · exact .inr (.inr a)
      · rintro (a | a | a)
        · exact .inl (.inl a)
        · exact .inl (.inr a)
        · exact .inr a
open Classical in
noncomputable def klD (d : PyData) : List NestedKey := if h : ∃ n : Nd, d = n.d then (choose h).kl else []
theorem klD_nd (n : Nd) : klD n.d = n.kl := by
  have h : ∃ m : Nd, n.d = m.d := ⟨n, rfl⟩
  unfold klD
  rw [dif_pos h, ← Nd.d_inj (Classical.choose_spec h)]
theorem known_fold (ns : List Nd) : ∀ acc : List Nd, (ns.map Nd.d).foldl (fun m d => putN m (.tup (klD d)) (.bool true)) (acc.map kN) = (knownOf ns acc).map kN := by
  induction ns with
  | nil => intro acc; rfl
  | cons n ns ih =>
    intro acc
    rw [List.map_cons, List.foldl_cons, klD_nd, putN_kN, ih]
    rfl
theorem elem_head {v : Wl} {a b : PyData} (hv : v.Ok) (h : Elem v (.tuple [a, b])) : sm5 a := by
  rcases h with (⟨p, _, h⟩ | ⟨p, _, h⟩ | h | ⟨i, _, _, h⟩) | ⟨n, hn, h⟩ | ⟨j, hj, h⟩
  · unfold thOn at h; cases h; trivial
  · unfold thRest at h; cases h; trivial
  · unfold thReady at h; cases h
  · unfold thBeat at h; cases h; trivial
  · unfold Nd.d at h; injection h with h; simp only [List.cons.injEq] at h; rw [h.1]; exact sm5_S hv hn.1
  · match j, hj with
    | 0, _ => cases h
    | 1, _ => simp only [oddD] at h; cases h; trivial
    | 2, _ => cases h
    | 3, _ => cases h
abbrev sp_is_pair (P : Program) (w : World) (K : PySem.W.Frag) : Sp := ASp (α := Wl × PyData) P w K (fun a => [a.1.d, a.2, .int 1]) (fun a => a.1.Ok ∧ Elem a.1 a.2) fun a r => r = .dat (.bool (isPairF a.1 a.2))
section
variable {P : Program} {w : World} {K : PySem.W.Frag} {mg : Str → Option Value} {base : Heap} {C1 C2 C3 : Addr}
theorem ok_is_pair {f : Addr} {fd : FuncData} (T : Tx P K mg C1 C2 C3) (F : Fun K "is_pair" "is_pair" s_is_pair f fd) (c_is_whole : Cl P w K mg base 4 "is_whole" (sp_is_whole P w K)) (c_is_few : Cl P w K mg base 4 "is_few" (sp_is_few P w K)) : FnG P w K mg base 5 f fd ["well", "thing", "fails"] (sp_is_pair P w K) := by
  refine body_g F sc_is_pair (fun a => rfl) (fun cdv ar up z H Q E hgd hr => ⟨_, (pss_one (ps_ret (pe_and (gIsinst (P := P) (w := w) (K := K) ⟨rfl, rfl, rfl⟩ (by rfl) T.b_isinstance (pv 1) (pe_bltn (v := .ty "tuple") (by rfl) T.b_tuple boot_ty_tuple rfl)) (pe_and (pe_cmpR (gEq (P := P) (w := w) (K := K) ⟨rfl, rfl, rfl⟩ (hu65 hr)) (pe_callB (gLen (P := P) (w := w) (K := K) ⟨rfl, rfl, rfl⟩ (hu65 hr)) (by rfl) T.b_len boot_k_len (pa_cons (pv 1) pa_nil)) pe_int (nomark _)) (pe_and (gCl (P := P) (w := w) (K := K) ⟨rfl, rfl, rfl⟩ rfl rfl c_is_few hr hgd (by rfl) takesF (pa_cons (pv 0) (pa_cons (pe_ix (gIx (P := P) (w := w) (K := K) ⟨rfl, rfl, rfl⟩ (hu65 hr)) (pv 1) pe_int (fun _ _ => rfl)) pa_nil))) (pe_one (gCl (P := P) (w := w) (K := K) ⟨rfl, rfl, rfl⟩ rfl rfl c_is_whole hr hgd (by rfl) takesF (pa_cons (pe_ix (gIx (P := P) (w := w) (K := K) ⟨rfl, rfl, rfl⟩ (hu65 hr)) (pv 1) pe_int (fun _ _ => rfl)) (pa_cons pe_int (pa_cons (pv 2) pa_nil)))))))))), fun a hv hq => ?_⟩)
  obtain ⟨v, d⟩ := a
  replace hq : RsOk P w K H Q E (.dat (.bool (isPairF v d))) := hq _ rfl
  obtain ⟨hv, he⟩ : v.Ok ∧ Elem v d := hv
  show Nx _ [.dat v.d, .dat d, .dat (.int 1)] _ _
  have hno : isTup d = false → isPairF v d = false := fun h => by
    cases d <;> first | rfl | cases h
  cases ht : isTup d with
  | false =>
    rw [hno ht] at hq
    exact nx_ret (ev_andF (ev_isTup (ev_var rfl)) ht) (rt_of rfl hq)
  | true =>
    obtain ⟨xs, rfl⟩ : ∃ xs, d = .tuple xs := by cases d <;> first | exact ⟨_, rfl⟩ | cases ht
    by_cases hl : xs.length = 2
    · obtain ⟨a, b, rfl⟩ : ∃ a b, xs = [a, b] := by
        match xs, hl with
        | [a, b], _ => exact ⟨a, b, rfl⟩
      have h5 := elem_head hv he
      replace hq : RsOk P w K H Q E (.dat (.bool (isFew v a && whole b (.int 0) (.int 1)))) := hq
      have hlen : EV ⟨K, P, w, H⟩ [.dat v.d, .dat (.tuple [a, b]), .dat (.int 1)] [] (tOp (rEqD K) (tCB (uLen P w K) (tCons (tVar 1) tNil)) (tC (.int 2))) (.bool true) := (ev_eqD (x_len (ev_var rfl) rfl) ev_int rfl rfl).to (by rw [eqv_ints]; rfl)
      have hfew : EV ⟨K, P, w, H⟩ [.dat v.d, .dat (.tuple [a, b]), .dat (.int 1)] [] (tCallS (sp_is_few P w K) (WE fun _ _ _ _ => False) (tCons (tVar 0) (tCons (tOp (uIx P w K) (tVar 1) (tC (.int 0))) tNil))) (.bool (isFew v a)) := eca_few (ev_var rfl) (x_ix (ev_var rfl) ev_int rfl) h5
      cases hf : isFew v a with
      | false =>
        rw [hf, Bool.false_and] at hq
        rw [hf] at hfew
        exact nx_ret (ev_andT (ev_isTup (ev_var rfl)) rfl (ev_andT hlen rfl (ev_andF hfew rfl))) (rt_of rfl hq)
      | true =>
        rw [hf, Bool.true_and] at hq
        rw [hf] at hfew
        exact nx_ret (ev_andT (ev_isTup (ev_var rfl)) rfl (ev_andT hlen rfl (ev_andT hfew rfl (ec_whole (x_ix (ev_var rfl) ev_int rfl) ev_int (ev_var rfl) ⟨rfl, rfl⟩)))) (rt_of rfl hq)
    · have e : isPairF v (.tuple xs) = false := by
        match xs, hl with
        | [], _ => rfl
        | [_], _ => rfl
        | [_, _], h => exact absurd rfl h
        | _ :: _ :: _ :: _, _ => rfl
      rw [e] at hq
      have hlen : EV ⟨K, P, w, H⟩ [.dat v.d, .dat (.tuple xs), .dat (.int 1)] [] (tOp (rEqD K) (tCB (uLen P w K) (tCons (tVar 1) tNil)) (tC (.int 2))) (.bool false) := (ev_eqD (x_len (ev_var rfl) rfl) ev_int rfl rfl).to (by rw [eqv_ints]; rw [decide_eq_false (by omega)])
      exact nx_ret (ev_andT (ev_isTup (ev_var rfl)) rfl (ev_andF hlen rfl)) (rt_of rfl hq)
end
end Kw

/-! text D17 -/
/-! is_closed -/
namespace Kw
open PySem PySem.Spec PyProof.Rows L2 PySem.Calls
abbrev s_is_closed : Stmt := top 50
theorem sc_is_closed : FnScope ["well", "state", "low", "high", "fails", "table", "known", "pair", "thing", "fresh", "one", "other"] ["well", "state", "low", "high", "fails", "table"] (defScope s_is_closed) := ⟨rfl, rfl, rfl, by decide +kernel, rfl, by decide +kernel, by decide +kernel⟩
def bZ : PyData → Bool
  | .tuple [a, b] => PySem.W.dataLt a b
  | _ => false
theorem up_zip (ns : List Nd) : (((zipD (ns.map Nd.d) ((ns.map Nd.d).drop 1)).map bZ).all id) = true ↔ upN ns := by
  rw [List.all_eq_true]
  constructor
  · intro h i x y hx hy
    refine h _ (List.mem_map.mpr ⟨.tuple [x.d, y.d], ?_, rfl⟩)
    refine List.mem_of_getElem? (i := i) ?_
    unfold zipD
    rw [List.getElem?_zipWith, List.getElem?_drop, List.getElem?_map, List.getElem?_map, hx, show 1 + i = i + 1 by omega, hy]
    rfl
  · intro h b hb
    obtain ⟨d, hd, rfl⟩ := List.mem_map.mp hb
    obtain ⟨i, hi⟩ := List.getElem?_of_mem hd
    unfold zipD at hi
    rw [List.getElem?_zipWith, List.getElem?_drop, List.getElem?_map, List.getElem?_map, show 1 + i = i + 1 by omega] at hi
    cases hx : ns[i]? with
    | none => rw [hx] at hi; cases hi
    | some x =>
      cases hy : ns[i + 1]? with
      | none => rw [hx, hy] at hi; cases hi
      | some y =>
        rw [hx, hy] at hi
        cases hi
        exact h i x y hx hy
noncomputable def Tb.closed (a : Tb) : Bool := match a.2.2.2.2 with | .inl ts => closedF a.1 a.2.2.1 a.2.2.2.1 a.2.1 ts | .inr _ => false
abbrev sp_is_closed (P : Program) (w : World) (K : PySem.W.Frag) : Sp := ASp (α := Tb) P w K (fun a => [a.1.d, a.2.1.d, .int a.2.2.1, .int a.2.2.2.1, .int 1, a.t]) Tb.Ok fun a r => r = .dat (.bool a.closed)
section
variable {P : Program} {w : World} {K : PySem.W.Frag} {mg : Str → Option Value} {base : Heap} {C1 C2 C3 : Addr}
theorem eca_pair {C : Ct} {Γ : List SV} {Δ : Dl} {W : WX} {t0 t1 t2 : TE} {v : Wl} {d : PyData} (h : v.Ok ∧ Elem v d) (h0 : EV C Γ Δ t0 v.d) (h1 : EV C Γ Δ t1 d) (h2 : EV C Γ Δ t2 (.int 1)) : EV C Γ Δ (tCallS (sp_is_pair C.P C.w C.K) (WE W) (tCons t0 (tCons t1 (tCons t2 tNil)))) (.bool (isPairF v d)) :=
  x_call (α := Wl × PyData) (v, d) (eva_cons h0 (eva_cons h1 (eva_cons h2 eva_nil))) h rfl
theorem ok_is_closed {f : Addr} {fd : FuncData} (T : Tx P K mg C1 C2 C3) (F : Fun K "is_closed" "is_closed" s_is_closed f fd) (c_is_pair : Cl P w K mg base 5 "is_pair" (sp_is_pair P w K)) (c_things_of : Cl P w K mg base 5 "things_of" (sp_things_of P w K)) : FnG P w K mg base 6 f fd ["well", "state", "low", "high", "fails", "table"] (sp_is_closed P w K) := by
  refine body_g F sc_is_closed (fun a => rfl) (fun cdv ar up z H Q E hgd hr => ⟨_, (pss_cons (ps_if (PW.pt (pw_or (pt_not (pt_val (gIsinst (P := P) (w := w) (K := K) ⟨rfl, rfl, rfl⟩ (by rfl) T.b_isinstance (pv 5) (pe_bltn (v := .ty "tuple") (by rfl) T.b_tuple boot_ty_tuple rfl)))) (pw_or1 (pt_not (pt_val (pe_callB (gAll (P := P) (w := w) (K := K) ⟨rfl, rfl, rfl⟩ rfl) (by rfl) T.b_all boot_k_all (pa_cons (pe_lc (own := [("pair", 7)]) rfl sc_is_closed.nd (gIt (P := P) (w := w) (K := K) ⟨rfl, rfl, rfl⟩ (pv 5)) (blkOk_by (N := ["well", "state", "low", "high", "fails", "table", "known", "pair", "thing", "fresh", "one", "other"]) (sc := defScope s_is_closed) (by decide +kernel)) (fun _ _ _ _ _ => (pg_name (i := 7) sc_is_closed.nd rfl (by first | exact Or.inl rfl | exact Or.inr rfl))) (fun _ _ _ _ _ => pts_nil) (fun _ _ _ _ _ => (gCl (P := P) (w := w) (K := K) ⟨rfl, rfl, rfl⟩ rfl rfl c_is_pair hr hgd (by rfl) takesF (pa_cons (pv 0) (pa_cons (pv 7) (pa_cons (pv 4) pa_nil)))))) pa_nil))))))) (pss_one (ps_ret pe_bl)) pss_nil) (pss_cons (ps_if (pt_not (pt_val (pe_callB (gAll (P := P) (w := w) (K := K) ⟨rfl, rfl, rfl⟩ rfl) (by rfl) T.b_all boot_k_all (pa_cons (pe_lc (own := [("one", 10), ("other", 11)]) rfl sc_is_closed.nd (gZip (P := P) (w := w) (K := K) ⟨rfl, rfl, rfl⟩ (by rfl) T.b_zip (pa_cons (pv 5) (pa_cons (pe_slice (gSl (P := P) (w := w) (K := K) ⟨rfl, rfl, rfl⟩) (pv 5) (po_some pe_int) po_none) pa_nil))) (blkOk_by (N := ["well", "state", "low", "high", "fails", "table", "known", "pair", "thing", "fresh", "one", "other"]) (sc := defScope s_is_closed) (by decide +kernel)) (fun _ _ _ _ _ => (gTupT (n := 2) (P := P) (w := w) (K := K) ⟨rfl, rfl, rfl⟩ rfl (pgs_cons (pg_name (i := 10) sc_is_closed.nd rfl (by first | exact Or.inl rfl | exact Or.inr rfl)) (pgs_cons (pg_name (i := 11) sc_is_closed.nd rfl (by first | exact Or.inl rfl | exact Or.inr rfl)) pgs_nil)) rfl rfl)) (fun _ _ _ _ _ => pts_nil) (fun _ _ _ _ _ => (pe_cmpR (gLt (P := P) (w := w) (K := K) ⟨rfl, rfl, rfl⟩ (hu65 hr)) (pv 10) (pv 11) (nomark _)))) pa_nil)))) (pss_one (ps_ret pe_bl)) pss_nil) (pss_cons (ps_setDcN (i := 6) (own := [("pair", 7)]) (hu64 hr) rfl sc_is_closed.nd rfl rfl rfl (gIt (P := P) (w := w) (K := K) ⟨rfl, rfl, rfl⟩ (pv 5)) (blkOk_by (N := ["well", "state", "low", "high", "fails", "table", "known", "pair", "thing", "fresh", "one", "other"]) (sc := defScope s_is_closed) (by decide +kernel)) (fun _ _ _ _ _ => (pg_name (i := 7) sc_is_closed.nd rfl (by first | exact Or.inl rfl | exact Or.inr rfl))) (fun _ _ _ _ _ => (pv 7)) (fun _ _ _ _ _ => pe_bl)) (pss_cons (ps_if (pt_cmpR (gNin (P := P) (w := w) (K := K) ⟨rfl, rfl, rfl⟩ (hu65 hr)) (pe_tup (pa_cons (pv 1) (pa_cons (pv 4) pa_nil))) (pv 6) (by rfl)) (pss_one (ps_ret pe_bl)) pss_nil) (pss_cons (ps_for (passes_of rfl) rfl (gIt (P := P) (w := w) (K := K) ⟨rfl, rfl, rfl⟩ (pv 5)) (pg_name (i := 7) sc_is_closed.nd rfl (by first | exact Or.inl rfl | exact Or.inr rfl)) (pss_one (ps_for (passes_of rfl) rfl (gIt (P := P) (w := w) (K := K) ⟨rfl, rfl, rfl⟩ (gCl (P := P) (w := w) (K := K) ⟨rfl, rfl, rfl⟩ rfl rfl c_things_of hr hgd (by rfl) takesF (pa_cons (pv 0) (pa_cons (pv 7) (pa_cons (pv 2) (pa_cons (pv 3) pa_nil)))))) (gTupT (n := 2) (P := P) (w := w) (K := K) ⟨rfl, rfl, rfl⟩ rfl (pgs_cons (pg_name (i := 8) sc_is_closed.nd rfl (by first | exact Or.inl rfl | exact Or.inr rfl)) (pgs_cons (pg_name (i := 9) sc_is_closed.nd rfl (by first | exact Or.inl rfl | exact Or.inr rfl)) pgs_nil)) rfl rfl) (pss_one (ps_if (PW.pt (pw_or (pt_cmpR (gEq (P := P) (w := w) (K := K) ⟨rfl, rfl, rfl⟩ (hu65 hr)) (pv 9) (pe_k (by rfl) T.c_OVER_crews) (nomark _)) (pw_or1 (pt_cmpR (gNin (P := P) (w := w) (K := K) ⟨rfl, rfl, rfl⟩ (hu65 hr)) (pv 9) (pv 6) (by rfl))))) (pss_one (ps_ret pe_bl)) pss_nil))))) (pss_one (ps_ret pe_bl))))))), fun a hv hq => ?_⟩)
  obtain ⟨v, s, lo, hi, b⟩ := a
  obtain ⟨hv, hs, hlo, hlh, hhi, htb⟩ : v.Ok ∧ s.Ok v ∧ 0 ≤ lo ∧ lo ≤ hi ∧ hi ≤ 2 ∧ TabS v b := hv
  cases b with
  | inr d =>
    replace hq : RsOk P w K H Q E (.dat (.bool false)) := hq _ rfl
    replace htb : isTup d = false := htb
    show Nx _ [.dat v.d, .dat s.d, .dat (.int lo), .dat (.int hi), .dat (.int 1), .dat d, .any, .any, .any, .any, .any, .any] _ _
    refine nx_sq ?_
    refine nx_ifT (evt_orT (evt_not (evt_B (ev_isTup (ev_var rfl)))) (by rw [htb]; rfl)) rfl ?_
    exact nx_ret ev_bl (rt_of rfl hq)
  | inl ts =>
    replace hq : RsOk P w K H Q E (.dat (.bool (closedF v lo hi s ts))) := hq _ rfl
    obtain ⟨hlen, hel⟩ : ts.length ≤ 20000 ∧ ∀ d ∈ ts, Elem v d := htb
    show Nx _ [.dat v.d, .dat s.d, .dat (.int lo), .dat (.int hi), .dat (.int 1), .dat (.tuple ts), .any, .any, .any, .any, .any, .any] _ _
    refine nx_sq ?_
    by_cases hall : ts.all (isPairF v) = true
    · refine nx_ifF (evt_orF (evt_not (evt_B (ev_isTup (ev_var rfl)))) rfl (evt_not (evt_B (ev_all (bs := ts.map (isPairF v)) (evl_ev ?_))))) ?_ (nx_nx ?_)
      · rw [List.map_map]
        refine evl_map (fun d => .bool (isPairF v d)) (w_tup (ev_var rfl)) (by omega) fun D hs acc d hd => ⟨[7], _, tg_name, by decide, ?_⟩
        exact eca_pair ⟨hv, hel d hd⟩ (ev_var rfl) (ev_var rfl) (ev_var rfl)
      · rw [List.all_map]
        show (!ts.all (isPairF v)) = false
        rw [hall]
        rfl
      obtain ⟨ns, rfl, hns⟩ := pairs_of hall
      rw [List.length_map] at hlen
      (try dsimp only [List.set, setAll])
      refine nx_sq ?_
      have hcut : cutL (ns.map Nd.d) (some 1) none = (ns.map Nd.d).drop 1 := cutL_from _ 1
      have hzl : (zipD (ns.map Nd.d) ((ns.map Nd.d).drop 1)).length ≤ 1000000 := by
        unfold zipD
        rw [List.length_zipWith, List.length_map]
        omega
      have hzip : ∀ (Γ : List SV) (Δ : Dl), Γ[5]? = some (.dat (.tuple (ns.map Nd.d))) → WD ⟨K, P, w, H⟩ Γ Δ (RZ.iZipA K (tCons (tVar 5) (tCons (tSl (uSl K) (tVar 5) (tPart (tC (.int 1))) tNoPart) tNil))) (zipD (ns.map Nd.d) ((ns.map Nd.d).drop 1)) := fun Γ Δ h => by
        rw [← hcut]
        exact wd_zipT (eva_cons (ev_var h) (eva_cons (e_sl (ev_var h) (evo_some ev_int) evo_none) eva_nil))
      have hmap : ∀ d ∈ zipD (ns.map Nd.d) ((ns.map Nd.d).drop 1), ∃ x y : Nd, d = .tuple [x.d, y.d] := fun d hd => by
        obtain ⟨i, hi⟩ := List.getElem?_of_mem hd
        unfold zipD at hi
        rw [List.getElem?_zipWith, List.getElem?_drop, List.getElem?_map, List.getElem?_map] at hi
        cases hx : ns[i]? with
        | none => rw [hx] at hi; cases hi
        | some x =>
          cases hy : ns[1 + i]? with
          | none => rw [hx, hy] at hi; cases hi
          | some y =>
            rw [hx, hy] at hi
            cases hi
            exact ⟨x, y, rfl⟩
      by_cases hup : upN ns
      · refine nx_ifF (evt_not (evt_B (ev_all (bs := (zipD (ns.map Nd.d) ((ns.map Nd.d).drop 1)).map bZ) (evl_ev ?_)))) ?_ (nx_nx ?_)
        · rw [List.map_map]
          refine evl_map (fun d => .bool (bZ d)) (hzip _ _ rfl) hzl fun D hs acc d hd => ?_
          obtain ⟨x, y, rfl⟩ := hmap d hd
          refine ⟨[10, 11], _, tg_tup rfl rfl, by decide, ?_⟩
          exact e_ltD (ev_var rfl) (ev_var rfl) (Nd.alike x y) (fun z => nomatch z) (by have := x.dep; omega)
        · rw [(up_zip ns).mpr hup]
          rfl
        (try dsimp only [List.set, setAll])
        refine nx_sq ?_
        refine nx_asgK (evk_dc (kf := klD) (vf := fun _ => .bool true) (w_tup (ev_var rfl)) (by rw [List.length_map]; omega) fun D hs acc d hd => ?_) fun q => ?_
        · obtain ⟨n, hn, rfl⟩ := List.mem_map.mp hd
          refine ⟨[7], _, tg_name, by decide, ?_, ?_, ev_bl⟩
          · rw [klD_nd]
            exact (ev_var rfl).to (Nd.kl_data n).symm
          · rw [klD_nd]
            have := n.kl_depth
            omega
        have hk0 : (ns.map Nd.d).foldl (fun m d => putN m (.tup (klD d)) ((fun _ => PyData.bool true) d)) [] = (knownOf ns []).map kN := known_fold ns []
        rw [hk0]
        have hkm : ∀ m, m ∈ knownOf ns [] ↔ m ∈ ns := fun m => by rw [knownOf_mem]; simp
        generalize knownOf ns [] = known at hkm ⊢
        (try dsimp only [List.set, setAll])
        refine nx_sq ?_
        have hin : ∀ {Γ : List SV} {Δ : Dl} {t : TE} (m : Nd) (k : Nat), EV ⟨K, P, w, H⟩ Γ Δ t m.d → Γ[6]? = some (.loc q) → Δ[k]? = some (q, .md (known.map kN)) → EVT ⟨K, P, w, H⟩ Γ Δ (tTest (tOp (uNin P w K) t (tVar 6))) (!decide (m ∈ ns)) := fun {Γ Δ t} m k h h6 hk => by
          have e : (!decide (m ∈ ns)) = !(lookN (known.map kN) (.tup m.kl)).isSome := by rw [lookN_nd]; simp [hkm]
          rw [e]
          exact evt_test (e_ninN (k := k) (h.to (Nd.kl_data m).symm) (by have := m.kl_depth; omega) (evm_var h6) hk)
        by_cases hmem : ((s, 1) : Nd) ∈ ns
        · refine nx_ifF (hin (s, 1) 0 ?_ rfl rfl) (by simp [hmem]) (nx_nx ?_)
          · show EV _ _ _ _ (.tuple [s.d, .int 1])
            (repeat' (first
      | exact hix | exact hix2 | exact hix3 | exact hix4
      | ((with_reducible apply ev_var) <;> rfl)
      | (with_reducible exact ev_int) | (with_reducible exact ev_bl) | (with_reducible exact ev_str) | (with_reducible exact ev_non) | (with_reducible exact eva_nil) | (with_reducible exact evo_none)
      | (with_reducible (first | apply eva_cons | apply ev_tup | apply evo_some | apply x_add | apply e_sub | apply x_mul | apply ev_mod | apply ev_neg | apply e_div))
      | refine e_lenN (evm_var rfl) rfl ?_
      | (with_reducible (first | apply x_len | apply x_ix | apply x_sl | apply ev_isN | apply ev_notN | apply ev_eqD | apply ev_neD | apply e_lt | apply ev_le | apply ev_gt | apply ev_ge | apply ev_isInt | apply ev_isBool | apply ev_isTup | apply ev_isStr | apply ec_whole | apply eca_counts | apply eca_levels | exact ⟨rfl, rfl⟩ | apply ev_min | apply ev_intc | apply ev_sumT | apply evt_B | apply evt_test | apply evt_not | apply evt_and | apply evt_or | apply ev_andV | apply ev_orV | apply ev_notV | apply ev_ite | intro _ | exact True.intro | rfl))
      | exact True.intro | exact ⟨rfl, rfl⟩ | exact Nat.le_of_ble_eq_true rfl | rfl))
          (try dsimp only [List.set, setAll])
          refine nx_sq ?_
          refine nx_for (w_tup (ev_var rfl)) (fun i Γ Δ => ∃ (a b c d e : SV), (∀ n ∈ ns.take i, ∀ t ∈ thP v lo hi n, ∃ m ∈ ns, t.2 = some m) ∧
            Γ = [.dat v.d, .dat s.d, .dat (.int lo), .dat (.int hi), .dat (.int 1), .dat (.tuple (ns.map Nd.d)), .loc q, a, b, c, d, e] ∧ Δ = [(q, .md (known.map kN))])
            ⟨_, _, _, _, _, (fun n hn => by simp at hn), rfl, rfl⟩ ?_ ?_
          · rintro hs' i dd Γ Δ hd ⟨a, b, c, d, e, hclo, rfl, rfl⟩
            rw [List.getElem?_map] at hd
            obtain ⟨n, hn, rfl⟩ := Option.map_eq_some_iff.mp hd
            have hnm := List.mem_of_getElem? hn
            have hno := hns n hnm
            refine ⟨[7], _, tg_name, ?_⟩
            (try dsimp only [List.set, setAll])
            refine nx_for (w_list (evl_ev (eca_thP (v := v) (n := n) ⟨hv, hno.1, hlo, hlh, (by omega : hi ≤ 10)⟩ (ev_var rfl) (ev_var rfl) (ev_var rfl) (ev_var rfl)))) (fun j Γ Δ => ∃ (b c : SV), (∀ t ∈ (thP v lo hi n).take j, ∃ m ∈ ns, t.2 = some m) ∧
              Γ = [.dat v.d, .dat s.d, .dat (.int lo), .dat (.int hi), .dat (.int 1), .dat (.tuple (ns.map Nd.d)), .loc q, .dat n.d, b, c, d, e] ∧ Δ = (q, .md (known.map kN)) :: hs')
              ⟨_, _, (fun n hn => by simp at hn), rfl, rfl⟩ ?_ ?_
            · rintro hs2 j dd Γ Δ hd ⟨b, c, hcl2, rfl, rfl⟩
              rw [List.getElem?_map] at hd
              obtain ⟨t, ht, rfl⟩ := Option.map_eq_some_iff.mp hd
              refine ⟨[8, 9], _, tg_tup (ds := [t.1, ndO t.2]) rfl rfl, ?_⟩
              (try dsimp only [List.set, setAll])
              cases ho : t.2 with
              | none =>
                have e1 : closedF v lo hi s (ns.map Nd.d) = false := closed_iff (p := false) hns ⟨(fun z => nomatch z), fun z => by
                  obtain ⟨m, _, e⟩ := (shut_eq v lo hi ns).mpr z.2.2 n hnm t (List.mem_of_getElem? ht)
                  rw [ho] at e
                  cases e⟩
                rw [e1] at hq
                refine nx_ifT (evt_orT (evt_test (ev_eqD (ev_var rfl) ev_str over_shaped over_shaped)) eqv_over_over) rfl ?_
                exact nx_ret ev_bl (rt_of rfl hq)
              | some m =>
                by_cases hm : m ∈ ns
                · refine nx_ifF (evt_orF (evt_test (ev_eqD (ev_var rfl) ev_str m.shaped over_shaped)) (eqv_over_nd m) (hin m 0 (ev_var rfl) rfl rfl)) (by simp [hm]) (nx_nx ?_)
                  (try dsimp only [List.set, setAll])
                  refine nx_li ⟨_, _, fun u hu => ?_, rfl, rfl⟩
                  rw [List.take_succ, ht] at hu
                  rcases List.mem_append.mp hu with hu | hu
                  · exact hcl2 u hu
                  · simp at hu
                    subst hu
                    exact ⟨m, hm, ho⟩
                · have e1 : closedF v lo hi s (ns.map Nd.d) = false := closed_iff (p := false) hns ⟨(fun z => nomatch z), fun z => by
                    obtain ⟨m', hm', e⟩ := (shut_eq v lo hi ns).mpr z.2.2 n hnm t (List.mem_of_getElem? ht)
                    rw [ho] at e
                    cases e
                    exact absurd hm' hm⟩
                  rw [e1] at hq
                  refine nx_ifT (evt_orF (evt_test (ev_eqD (ev_var rfl) ev_str m.shaped over_shaped)) (eqv_over_nd m) (hin m 0 (ev_var rfl) rfl rfl)) (by simp [hm]) ?_
                  exact nx_ret ev_bl (rt_of rfl hq)
            · rintro Γ Δ ⟨b, c, hcl2, rfl, rfl⟩
              rw [List.length_map, List.take_length] at hcl2
              (try dsimp only [List.set, setAll])
              refine nx_li (Δ := [(q, .md (known.map kN))]) ⟨_, _, _, _, _, fun u hu => ?_, rfl, rfl⟩
              rw [List.take_succ, hn] at hu
              rcases List.mem_append.mp hu with hu | hu
              · exact hclo u hu
              · simp at hu
                subst hu
                exact hcl2
          · rintro Γ Δ ⟨a, b, c, d, e, hclo, rfl, rfl⟩
            rw [List.length_map, List.take_length] at hclo
            have e1 : closedF v lo hi s (ns.map Nd.d) = true := closed_iff (p := true) hns ⟨fun _ => ⟨hup, hmem, (shut_eq v lo hi ns).mp hclo⟩, fun _ => rfl⟩
            rw [e1] at hq
            (try dsimp only [List.set, setAll])
            refine nx_ret ev_bl (rt_of (E := E) rfl ?_)
            exact hq
        · have e1 : closedF v lo hi s (ns.map Nd.d) = false := closed_iff (p := false) hns ⟨(fun z => nomatch z), fun z => absurd z.2.1 hmem⟩
          rw [e1] at hq
          refine nx_ifT (hin (s, 1) 0 ?_ rfl rfl) (by simp [hmem]) ?_
          · show EV _ _ _ _ (.tuple [s.d, .int 1])
            (repeat' (first
      | exact hix | exact hix2 | exact hix3 | exact hix4
      | ((with_reducible apply ev_var) <;> rfl)
      | (with_reducible exact ev_int) | (with_reducible exact ev_bl) | (with_reducible exact ev_str) | (with_reducible exact ev_non) | (with_reducible exact eva_nil) | (with_reducible exact evo_none)
      | (with_reducible (first | apply eva_cons | apply ev_tup | apply evo_some | apply x_add | apply e_sub | apply x_mul | apply ev_mod | apply ev_neg | apply e_div))
      | refine e_lenN (evm_var rfl) rfl ?_
      | (with_reducible (first | apply x_len | apply x_ix | apply x_sl | apply ev_isN | apply ev_notN | apply ev_eqD | apply ev_neD | apply e_lt | apply ev_le | apply ev_gt | apply ev_ge | apply ev_isInt | apply ev_isBool | apply ev_isTup | apply ev_isStr | apply ec_whole | apply eca_counts | apply eca_levels | exact ⟨rfl, rfl⟩ | apply ev_min | apply ev_intc | apply ev_sumT | apply evt_B | apply evt_test | apply evt_not | apply evt_and | apply evt_or | apply ev_andV | apply ev_orV | apply ev_notV | apply ev_ite | intro _ | exact True.intro | rfl))
      | exact True.intro | exact ⟨rfl, rfl⟩ | exact Nat.le_of_ble_eq_true rfl | rfl))
          exact nx_ret ev_bl (rt_of rfl hq)
      · have e1 : closedF v lo hi s (ns.map Nd.d) = false := closed_iff (p := false) hns ⟨(fun z => nomatch z), fun z => absurd z.1 hup⟩
        rw [e1] at hq
        refine nx_ifT (evt_not (evt_B (ev_all (bs := (zipD (ns.map Nd.d) ((ns.map Nd.d).drop 1)).map bZ) (evl_ev ?_)))) ?_ ?_
        · rw [List.map_map]
          refine evl_map (fun d => .bool (bZ d)) (hzip _ _ rfl) hzl fun D hs acc d hd => ?_
          obtain ⟨x, y, rfl⟩ := hmap d hd
          refine ⟨[10, 11], _, tg_tup rfl rfl, by decide, ?_⟩
          exact e_ltD (ev_var rfl) (ev_var rfl) (Nd.alike x y) (fun z => nomatch z) (by have := x.dep; omega)
        · have : ¬ (((zipD (ns.map Nd.d) ((ns.map Nd.d).drop 1)).map bZ).all id) = true := fun z => hup ((up_zip ns).mp z)
          rw [Bool.eq_false_iff.mpr this]
          rfl
        exact nx_ret ev_bl (rt_of rfl hq)
    · rw [closed_pairs hv hall] at hq
      refine nx_ifT (evt_orF (evt_not (evt_B (ev_isTup (ev_var rfl)))) rfl (evt_not (evt_B (ev_all (bs := ts.map (isPairF v)) (evl_ev ?_))))) ?_ ?_
      · rw [List.map_map]
        refine evl_map (fun d => .bool (isPairF v d)) (w_tup (ev_var rfl)) (by omega) fun D hs acc d hd => ⟨[7], _, tg_name, by decide, ?_⟩
        exact eca_pair ⟨hv, hel d hd⟩ (ev_var rfl) (ev_var rfl) (ev_var rfl)
      · rw [List.all_map]
        show (!ts.all (isPairF v)) = true
        rw [Bool.eq_false_iff.mpr hall]
        rfl
      exact nx_ret ev_bl (rt_of rfl hq)
end
end Kw

/-! text D18 -/
/-! _law_is_closed -/
namespace Kw
open PySem PySem.Spec PyProof.Rows L2 PySem.Calls
abbrev s__law_is_closed : Stmt := top 64
theorem sc__law_is_closed : FnScope ["_law_well_here", "_law_state", "_law_low", "_law_high", "_law_rows", "_law_pair", "_law_k", "_law_thing", "_law_fresh"] ["_law_well_here", "_law_state", "_law_low", "_law_high", "_law_rows"] (defScope s__law_is_closed) := ⟨rfl, rfl, rfl, by decide +kernel, rfl, by decide +kernel, by decide +kernel⟩
theorem eqvAll_ints (xs ys : List Int) : PyData.eqvAll (xs.map .int) (ys.map .int) = decide (xs = ys) := by
  induction xs generalizing ys with
  | nil => cases ys <;> simp [PyData.eqvAll]
  | cons x xs ih => cases ys with
    | nil => simp [PyData.eqvAll]
    | cons y ys => simp [PyData.eqvAll, eqv_ints, ih]
theorem eqv_intsD (xs ys : List Int) : PyData.eqv (intsD xs) (intsD ys) = decide (xs = ys) := by
  unfold intsD
  rw [PyData.eqv]
  exact eqvAll_ints xs ys
theorem eqv_S (s t : S) : PyData.eqv s.d t.d = decide (s = t) := by
  obtain ⟨a, b, c, d, e⟩ := s
  obtain ⟨a', b', c', d', e'⟩ := t
  unfold S.d S.l
  rw [PyData.eqv]
  show (PyData.eqv (.int a) (.int a') && (PyData.eqv (intsD b) (intsD b') && (PyData.eqv (intsD c) (intsD c') && (PyData.eqv (intsD d) (intsD d') && (PyData.eqv (.int e) (.int e') && true))))) = _
  rw [eqv_ints, eqv_intsD, eqv_intsD, eqv_intsD, eqv_ints, Bool.and_true, Bool.eq_iff_iff]
  simp only [Bool.and_eq_true, decide_eq_true_eq, S.mk.injEq]
theorem eqv_nds (n m : Nd) : PyData.eqv n.d m.d = decide (n = m) := by
  obtain ⟨a, b⟩ := n
  obtain ⟨a', b'⟩ := m
  unfold Nd.d
  rw [PyData.eqv]
  show (PyData.eqv a.d a'.d && (PyData.eqv (.int b) (.int b') && true)) = _
  rw [eqv_S, eqv_ints, Bool.and_true, Bool.eq_iff_iff, Bool.and_eq_true, decide_eq_true_eq, decide_eq_true_eq, decide_eq_true_eq]
  exact ⟨fun h => by rw [h.1, h.2], fun h => by cases h; exact ⟨rfl, rfl⟩⟩
theorem any_nds (ns : List Nd) (m : Nd) : ((ns.map Nd.d).any fun z => PyData.eqv z m.d) = decide (m ∈ ns) := by
  induction ns with
  | nil => rfl
  | cons n ns ih =>
    rw [List.map_cons, List.any_cons, ih, eqv_nds]
    rw [Bool.eq_iff_iff, Bool.or_eq_true, decide_eq_true_eq, decide_eq_true_eq, decide_eq_true_eq, List.mem_cons]
    exact ⟨Or.imp Eq.symm id, Or.imp Eq.symm id⟩
theorem any_over (ns : List Nd) : ((ns.map Nd.d).any fun z => PyData.eqv z (.str "over")) = false := by
  rw [List.any_eq_false]
  intro d hd
  obtain ⟨n, _, rfl⟩ := List.mem_map.mp hd
  rw [eqv_over_nd]
  decide
theorem any_ndO (ns : List Nd) (o : Option Nd) : (((ns.map Nd.d).any fun z => PyData.eqv z (ndO o)) = true) ↔ ∃ m ∈ ns, o = some m := by
  cases o with
  | none =>
    show ((ns.map Nd.d).any fun z => PyData.eqv z (.str "over")) = true ↔ _
    rw [any_over]
    simp
  | some m =>
    show ((ns.map Nd.d).any fun z => PyData.eqv z m.d) = true ↔ _
    rw [any_nds]
    simp
def fLc (ts : List PyData) : PyData → Bool
  | .tuple [_, x] => !(ts.any fun z => PyData.eqv z x)
  | _ => false
def fUp (ts : List PyData) : PyData → Bool
  | .int k => match ts[(k - 1).toNat]?, ts[k.toNat]? with
    | some a, some b => !PySem.W.dataLt a b
    | _, _ => false
  | _ => false
theorem up_rng (ns : List Nd) : (((rngD 1 ((ns.length : Int) - 1).toNat).filter (fUp (ns.map Nd.d))).map id).isEmpty = true ↔ upN ns := by
  rw [List.map_id, List.isEmpty_iff, List.filter_eq_nil_iff]
  constructor
  · intro h i x y hx hy
    have hi : i + 1 < ns.length := (List.getElem?_eq_some_iff.mp hy).1
    have := h (.int (1 + (i : Nat))) (List.mem_map.mpr ⟨i, List.mem_range.mpr (by omega), rfl⟩)
    simp only [fUp] at this
    rw [show (1 + (i : Int) - 1).toNat = i by omega, show (1 + (i : Int)).toNat = i + 1 by omega, List.getElem?_map, List.getElem?_map, hx, hy] at this
    simpa using this
  · intro h d hd
    obtain ⟨i, hi, rfl⟩ := List.mem_map.mp hd
    rw [List.mem_range] at hi
    simp only [fUp]
    rw [show (1 + (i : Int) - 1).toNat = i by omega, show (1 + (i : Int)).toNat = i + 1 by omega, List.getElem?_map, List.getElem?_map]
    have h1 : i < ns.length := by omega
    have h2 : i + 1 < ns.length := by omega
    rw [List.getElem?_eq_getElem h1, List.getElem?_eq_getElem h2]
    have := h i _ _ (List.getElem?_eq_getElem h1) (List.getElem?_eq_getElem h2)
    simp [this]
theorem lc_empty (ns : List Nd) (l : List Th) : (((l.map Th.d).filter (fLc (ns.map Nd.d))).map vRo).isEmpty = true ↔ ∀ t ∈ l, ∃ m ∈ ns, t.2 = some m := by
  rw [List.isEmpty_map, List.isEmpty_iff, List.filter_eq_nil_iff]
  constructor
  · intro h t ht
    have := h t.d (List.mem_map.mpr ⟨t, ht, rfl⟩)
    have e : fLc (ns.map Nd.d) t.d = !((ns.map Nd.d).any fun z => PyData.eqv z (ndO t.2)) := rfl
    rw [e] at this
    exact (any_ndO ns t.2).mp (by simpa using this)
  · intro h d hd
    obtain ⟨t, ht, rfl⟩ := List.mem_map.mp hd
    have e : fLc (ns.map Nd.d) t.d = !((ns.map Nd.d).any fun z => PyData.eqv z (ndO t.2)) := rfl
    rw [e, (any_ndO ns t.2).mpr (h t ht)]
    simp
theorem elem_parts {v : Wl} {d : PyData} (h : Elem v d) : (∃ n : Nd, NdOk v 1 n ∧ d = n.d) ∨ (∃ (a : Str) (b : PyData), d = .tuple [.str a, b]) ∨ isTup d = false ∨ ∃ l, d = .tuple l ∧ l.length ≠ 2 := by
  rcases h with (⟨p, _, h⟩ | ⟨p, _, h⟩ | h | ⟨i, _, _, h⟩) | ⟨n, hn, h⟩ | ⟨j, hj, h⟩
  · exact .inr (.inl ⟨_, _, h⟩)
  · exact .inr (.inl ⟨_, _, h⟩)
  · exact .inr (.inr (.inr ⟨_, h, by decide⟩))
  · exact .inr (.inl ⟨_, _, h⟩)
  · exact .inl ⟨n, hn, h⟩
  · match j, hj with
    | 0, _ => exact .inr (.inr (.inl (by rw [h]; rfl)))
    | 1, _ => exact .inr (.inl ⟨_, _, h⟩)
    | 2, _ => exact .inr (.inr (.inl (by rw [h]; rfl)))
    | 3, _ => exact .inr (.inr (.inr ⟨_, h, by decide⟩))
abbrev sp_law_is_closed (P : Program) (w : World) (K : PySem.W.Frag) : Sp := ASp (α := Tl) P w K (fun a => [a.1.d, a.2.1.d, .int a.2.2.1, .int a.2.2.2.1, .tuple a.2.2.2.2]) (fun a => Tb.Ok (a.1, a.2.1, a.2.2.1, a.2.2.2.1, .inl a.2.2.2.2)) fun a r => r = .dat (.bool (Tb.closed (a.1, a.2.1, a.2.2.1, a.2.2.2.1, .inl a.2.2.2.2)))
section
variable {P : Program} {w : World} {K : PySem.W.Frag} {mg : Str → Option Value} {base : Heap} {C1 C2 C3 : Addr}
theorem eca_isState {C : Ct} {Γ : List SV} {Δ : Dl} {W : WX} {t0 t1 : TE} {v : Wl} {d : PyData} (h0 : EV C Γ Δ t0 v.d) (h1 : EV C Γ Δ t1 d) (hv : v.Ok) (o : sm5 d) : EV C Γ Δ (tCallS (sp_is_state C.P C.w C.K) (WE W) (tCons t0 (tCons t1 tNil))) (.bool (isState v d)) :=
  x_call (α := Wl × PyData) (v, d) (eva_cons h0 (eva_cons h1 eva_nil)) ⟨hv, o⟩ rfl
theorem ok_law_is_closed {f : Addr} {fd : FuncData} (T : Tx P K mg C1 C2 C3) (F : Fun K "_law_is_closed" "_law_is_closed" s__law_is_closed f fd) (c_is_state : Cl P w K mg base 4 "is_state" (sp_is_state P w K)) (c__law_things : Cl P w K mg base 4 "_law_things" (sp_law_things P w K)) : FnG P w K mg base 5 f fd ["_law_well_here", "_law_state", "_law_low", "_law_high", "_law_rows"] (sp_law_is_closed P w K) := by
  refine body_g F sc__law_is_closed (fun a => rfl) (fun cdv ar up z H Q E hgd hr => ⟨_, (pss_cons (ps_for (passes_of rfl) rfl (gIt (P := P) (w := w) (K := K) ⟨rfl, rfl, rfl⟩ (pv 4)) (pg_name (i := 5) sc__law_is_closed.nd rfl (by first | exact Or.inl rfl | exact Or.inr rfl)) (pss_cons (ps_if (PW.pt (pw_or (pt_not (pt_val (gIsinst (P := P) (w := w) (K := K) ⟨rfl, rfl, rfl⟩ (by rfl) T.b_isinstance (pv 5) (pe_bltn (v := .ty "tuple") (by rfl) T.b_tuple boot_ty_tuple rfl)))) (pw_or (pt_cmpR (gNe (P := P) (w := w) (K := K) ⟨rfl, rfl, rfl⟩ (hu65 hr)) (pe_callB (gLen (P := P) (w := w) (K := K) ⟨rfl, rfl, rfl⟩ (hu65 hr)) (by rfl) T.b_len boot_k_len (pa_cons (pv 5) pa_nil)) pe_int (nomark _)) (pw_or (pt_not (pt_val (gCl (P := P) (w := w) (K := K) ⟨rfl, rfl, rfl⟩ rfl rfl c_is_state hr hgd (by rfl) takesF (pa_cons (pv 0) (pa_cons (pe_ix (gIx (P := P) (w := w) (K := K) ⟨rfl, rfl, rfl⟩ (hu65 hr)) (pv 5) pe_int (fun _ _ => rfl)) pa_nil))))) (pw_or1 (pt_cmpR op_isN (pe_ix (gIx (P := P) (w := w) (K := K) ⟨rfl, rfl, rfl⟩ (hu65 hr)) (pe_ix (gIx (P := P) (w := w) (K := K) ⟨rfl, rfl, rfl⟩ (hu65 hr)) (pv 5) pe_int (fun _ _ => rfl)) pe_int (fun _ _ => rfl)) pe_non (nomark _))))))) (pss_one (ps_ret pe_bl)) pss_nil) (pss_cons (ps_if (PW.pt (pw_or (pt_not (pt_val (gIsinst (P := P) (w := w) (K := K) ⟨rfl, rfl, rfl⟩ (by rfl) T.b_isinstance (pe_ix (gIx (P := P) (w := w) (K := K) ⟨rfl, rfl, rfl⟩ (hu65 hr)) (pv 5) pe_int (fun _ _ => rfl)) (pe_bltn (v := .ty "int") (by rfl) T.b_int boot_ty_int rfl)))) (pw_or (pt_val (gIsinst (P := P) (w := w) (K := K) ⟨rfl, rfl, rfl⟩ (by rfl) T.b_isinstance (pe_ix (gIx (P := P) (w := w) (K := K) ⟨rfl, rfl, rfl⟩ (hu65 hr)) (pv 5) pe_int (fun _ _ => rfl)) (pe_bltn (v := .ty "bool") (by rfl) T.b_bool boot_ty_bool rfl))) (pw_or1 (pt_not (pt_chain op_le op_le pe_int (pe_ix (gIx (P := P) (w := w) (K := K) ⟨rfl, rfl, rfl⟩ (hu65 hr)) (pv 5) pe_int (fun _ _ => rfl)) pe_int)))))) (pss_one (ps_ret pe_bl)) pss_nil) (pss_one (ps_if (pt_cmpR op_gt (pe_op (gAdd (P := P) (w := w) (K := K) ⟨rfl, rfl, rfl⟩) (pe_op (gAdd (P := P) (w := w) (K := K) ⟨rfl, rfl, rfl⟩) (pe_callB (gSum (P := P) (w := w) (K := K) ⟨rfl, rfl, rfl⟩ rfl) (by rfl) T.b_sum boot_k_sum (pa_cons (pe_ix (gIx (P := P) (w := w) (K := K) ⟨rfl, rfl, rfl⟩ (hu65 hr)) (pe_ix (gIx (P := P) (w := w) (K := K) ⟨rfl, rfl, rfl⟩ (hu65 hr)) (pv 5) pe_int (fun _ _ => rfl)) pe_int (fun _ _ => rfl)) pa_nil)) (pe_callB (gSum (P := P) (w := w) (K := K) ⟨rfl, rfl, rfl⟩ rfl) (by rfl) T.b_sum boot_k_sum (pa_cons (pe_ix (gIx (P := P) (w := w) (K := K) ⟨rfl, rfl, rfl⟩ (hu65 hr)) (pe_ix (gIx (P := P) (w := w) (K := K) ⟨rfl, rfl, rfl⟩ (hu65 hr)) (pv 5) pe_int (fun _ _ => rfl)) pe_int (fun _ _ => rfl)) pa_nil))) (pe_ix (gIx (P := P) (w := w) (K := K) ⟨rfl, rfl, rfl⟩ (hu65 hr)) (pe_ix (gIx (P := P) (w := w) (K := K) ⟨rfl, rfl, rfl⟩ (hu65 hr)) (pv 5) pe_int (fun _ _ => rfl)) pe_int (fun _ _ => rfl))) pe_int (nomark _)) (pss_one (ps_ret pe_bl)) pss_nil))))) (pss_cons (ps_if (PW.pt (pw_or (pt_cmpR (gNe (P := P) (w := w) (K := K) ⟨rfl, rfl, rfl⟩ (hu65 hr)) (pe_lc (own := [("_law_k", 6)]) rfl sc__law_is_closed.nd (pi_range2 (by rfl) T.b_range (pa_cons pe_int (pa_cons (pe_callB (gLen (P := P) (w := w) (K := K) ⟨rfl, rfl, rfl⟩ (hu65 hr)) (by rfl) T.b_len boot_k_len (pa_cons (pv 4) pa_nil)) pa_nil))) (blkOk_by (N := ["_law_well_here", "_law_state", "_law_low", "_law_high", "_law_rows", "_law_pair", "_law_k", "_law_thing", "_law_fresh"]) (sc := defScope s__law_is_closed) (by decide +kernel)) (fun _ _ _ _ _ => (pg_name (i := 6) sc__law_is_closed.nd rfl (by first | exact Or.inl rfl | exact Or.inr rfl))) (fun _ _ _ _ _ => (pts_one (pt_not (pt_cmpR (gLt (P := P) (w := w) (K := K) ⟨rfl, rfl, rfl⟩ (hu65 hr)) (pe_ix (gIx (P := P) (w := w) (K := K) ⟨rfl, rfl, rfl⟩ (hu65 hr)) (pv 4) (pe_op op_sub (pv 6) pe_int) (fun _ _ => rfl)) (pe_ix (gIx (P := P) (w := w) (K := K) ⟨rfl, rfl, rfl⟩ (hu65 hr)) (pv 4) (pv 6) (fun _ _ => rfl)) (nomark _))))) (fun _ _ _ _ _ => (pv 6))) (pe_lst pa_nil) (nomark _)) (pw_or1 (pt_cmpR (gNin (P := P) (w := w) (K := K) ⟨rfl, rfl, rfl⟩ (hu65 hr)) (pe_tup (pa_cons (pv 1) (pa_cons pe_int pa_nil))) (pv 4) (by rfl))))) (pss_one (ps_ret pe_bl)) pss_nil) (pss_cons (ps_for (passes_of rfl) rfl (gIt (P := P) (w := w) (K := K) ⟨rfl, rfl, rfl⟩ (pv 4)) (pg_name (i := 5) sc__law_is_closed.nd rfl (by first | exact Or.inl rfl | exact Or.inr rfl)) (pss_one (ps_if (pt_cmpR (gNe (P := P) (w := w) (K := K) ⟨rfl, rfl, rfl⟩ (hu65 hr)) (pe_lc (own := [("_law_thing", 7), ("_law_fresh", 8)]) rfl sc__law_is_closed.nd (gIt (P := P) (w := w) (K := K) ⟨rfl, rfl, rfl⟩ (gCl (P := P) (w := w) (K := K) ⟨rfl, rfl, rfl⟩ rfl rfl c__law_things hr hgd (by rfl) takesF (pa_cons (pv 0) (pa_cons (pv 5) (pa_cons (pv 2) (pa_cons (pv 3) pa_nil)))))) (blkOk_by (N := ["_law_well_here", "_law_state", "_law_low", "_law_high", "_law_rows", "_law_pair", "_law_k", "_law_thing", "_law_fresh"]) (sc := defScope s__law_is_closed) (by decide +kernel)) (fun _ _ _ _ _ => (gTupT (n := 2) (P := P) (w := w) (K := K) ⟨rfl, rfl, rfl⟩ rfl (pgs_cons (pg_name (i := 7) sc__law_is_closed.nd rfl (by first | exact Or.inl rfl | exact Or.inr rfl)) (pgs_cons (pg_name (i := 8) sc__law_is_closed.nd rfl (by first | exact Or.inl rfl | exact Or.inr rfl)) pgs_nil)) rfl rfl)) (fun _ _ _ _ _ => (pts_one (pt_cmpR (gNin (P := P) (w := w) (K := K) ⟨rfl, rfl, rfl⟩ (hu65 hr)) (pv 8) (pv 4) (by rfl)))) (fun _ _ _ _ _ => (pv 8))) (pe_lst pa_nil) (nomark _)) (pss_one (ps_ret pe_bl)) pss_nil))) (pss_one (ps_ret pe_bl))))), fun a hv hq => ?_⟩)
  obtain ⟨v, s, lo, hi, ts⟩ := a
  replace hq : RsOk P w K H Q E (.dat (.bool (closedF v lo hi s ts))) := hq _ rfl
  obtain ⟨hv, hs, hlo, hlh, hhi, hlen, hel⟩ : v.Ok ∧ s.Ok v ∧ 0 ≤ lo ∧ lo ≤ hi ∧ hi ≤ 2 ∧ ts.length ≤ 20000 ∧ ∀ d ∈ ts, Elem v d := hv
  show Nx _ [.dat v.d, .dat s.d, .dat (.int lo), .dat (.int hi), .dat (.tuple ts), .any, .any, .any, .any] _ _
  refine nx_sq ?_
  refine nx_for (w_tup (ev_var rfl)) (fun i Γ Δ => ∃ a : SV, (∀ d ∈ ts.take i, isPairF v d = true) ∧ Γ = [.dat v.d, .dat s.d, .dat (.int lo), .dat (.int hi), .dat (.tuple ts), a, .any, .any, .any] ∧ Δ = [])
    ⟨_, (fun n hn => by simp at hn), rfl, rfl⟩ ?_ ?_
  · rintro hs' i d Γ Δ hd ⟨a, hpr, rfl, rfl⟩
    have hdm := List.mem_of_getElem? hd
    refine ⟨[5], _, tg_name, ?_⟩
    (try dsimp only [List.set, setAll])
    refine nx_sq ?_
    have hbad : isPairF v d = false → RsOk P w K H Q E (.dat (.bool false)) := fun h => by
      have : ¬ ts.all (isPairF v) = true := fun z => by
        have := List.all_eq_true.mp z d hdm
        rw [h] at this
        cases this
      rw [closed_pairs hv this] at hq
      exact hq
    rcases elem_parts (hel d hdm) with ⟨n, hn, rfl⟩ | ⟨x, y, rfl⟩ | ht | ⟨l, rfl, hl⟩
    · obtain ⟨t, l⟩ := n
      obtain ⟨ht, h0, h1⟩ : t.Ok v ∧ 0 ≤ l ∧ l ≤ 1 := hn
      have hnum := ht.num
      unfold S.num at hnum
      show Nx _ [.dat v.d, .dat s.d, .dat (.int lo), .dat (.int hi), .dat (.tuple ts), .dat (.tuple [.tuple [.int t.lev, intsD t.past, intsD t.on, intsD t.off, .int t.ready], .int l]), .any, .any, .any] _ _
      refine nx_ifF (evt_orF (evt_not (evt_B (ev_isTup (ev_var rfl)))) rfl (evt_orF (evt_test (ev_neD (x_len (ev_var rfl) rfl) ev_int rfl rfl)) (by rw [eqv_ints]; rfl) (evt_orF (evt_not (evt_B (eca_isState (d := t.d) (ev_var rfl) (x_ix (ev_var rfl) ev_int rfl) hv (sm5_S hv ht)))) (by rw [state_ok hv ht]; rfl) (evt_test (ev_isN (x_ix (x_ix (ev_var rfl) ev_int rfl) ev_int rfl)))))) rfl (nx_nx ?_)
      (try dsimp only [List.set, setAll])
      refine nx_sq ?_
      refine nx_ifF (evt_orF (evt_not (evt_B (ev_isInt (x_ix (ev_var rfl) ev_int rfl)))) rfl (evt_orF (evt_B (ev_isBool (x_ix (ev_var rfl) ev_int rfl))) rfl (evt_not (evt_test (ev_chain (b := decide (0 ≤ l)) (c := decide (l ≤ 1)) ev_int (x_ix (ev_var rfl) ev_int rfl) ev_int (op_ints fun _ => .bl _) (op_ints fun _ => .bl _)))))) (by rw [decide_eq_true h0, decide_eq_true h1]; rfl) (nx_nx ?_)
      (try dsimp only [List.set, setAll])
      apply nx_ifF
      · refine evt_test (ev_gt (i := t.on.sum + t.off.sum + t.ready) (j := 12) (x_add (x_add (da := .int t.on.sum) (db := .int t.off.sum) (ev_sumT (x_ix (x_ix (ev_var rfl) ev_int rfl) ev_int rfl)) (ev_sumT (x_ix (x_ix (ev_var rfl) ev_int rfl) ev_int rfl)) rfl trivial) (x_ix (x_ix (ev_var rfl) ev_int rfl) ev_int rfl) rfl trivial) ev_int)
      · simp
        omega
      refine nx_nx ?_
      (try dsimp only [List.set, setAll])
      refine nx_li ⟨_, fun u hu => ?_, rfl, rfl⟩
      rw [List.take_succ, hd] at hu
      rcases List.mem_append.mp hu with hu | hu
      · exact hpr u hu
      · simp at hu
        subst hu
        exact pair_nd hv (n := (t, l)) ⟨ht, h0, h1⟩
    · refine nx_ifT (evt_orF (evt_not (evt_B (ev_isTup (ev_var rfl)))) rfl (evt_orF (evt_test (ev_neD (x_len (ev_var rfl) rfl) ev_int rfl rfl)) (by rw [eqv_ints]; rfl) (evt_orT (evt_not (evt_B (eca_isState (d := .str x) (ev_var rfl) (x_ix (ev_var rfl) ev_int rfl) hv trivial))) rfl))) rfl ?_
      exact nx_ret ev_bl (rt_of rfl (hbad rfl))
    · refine nx_ifT (evt_orT (evt_not (evt_B (ev_isTup (ev_var rfl)))) (by rw [ht]; rfl)) rfl ?_
      exact nx_ret ev_bl (rt_of rfl (hbad (by cases d <;> first | rfl | cases ht)))
    · refine nx_ifT (evt_orF (evt_not (evt_B (ev_isTup (ev_var rfl)))) rfl (evt_orT (evt_test (ev_neD (x_len (ev_var rfl) rfl) ev_int rfl rfl)) (by rw [eqv_ints, decide_eq_false (by omega)]; rfl))) rfl ?_
      exact nx_ret ev_bl (rt_of rfl (hbad (by
        match l, hl with
        | [], _ => rfl
        | [_], _ => rfl
        | [_, _], h => exact absurd rfl h
        | _ :: _ :: _ :: _, _ => rfl)))
  · rintro Γ Δ ⟨a, hpr, rfl, rfl⟩
    rw [List.take_length] at hpr
    obtain ⟨ns, rfl, hns⟩ := pairs_of (List.all_eq_true.mpr hpr)
    rw [List.length_map] at hlen
    have hshT : SeqAt.shaped (.tuple (ns.map Nd.d)) = true := tup_shaped fun d hd => elem_flat (hel d hd)
    (try dsimp only [List.set, setAll])
    refine nx_sq ?_
    have hno : ¬ (upN ns ∧ ((s, 1) : Nd) ∈ ns ∧ shutAt (thL v lo hi) ns) → RsOk P w K H Q E (.dat (.bool false)) := fun z => by
      rw [closed_iff (p := false) hns ⟨(fun z => nomatch z), fun y => absurd y z⟩] at hq
      exact hq
    have hlc : ∀ a : SV, EVL ⟨K, P, w, H⟩ [.dat v.d, .dat s.d, .dat (.int lo), .dat (.int hi), .dat (.tuple (ns.map Nd.d)), a, .any, .any, .any] [] (tLc (iRng2 (tCons (tC (.int 1)) (tCons (tCB (uLen P w K) (tCons (tVar 4) tNil)) tNil))) (gName 6) (tNot (tTest (tOp (uLt K) (tOp (uIx P w K) (tVar 4) (tOp iSub (tVar 6) (tC (.int 1)))) (tOp (uIx P w K) (tVar 4) (tVar 6))))) (tVar 6) [6]) (((rngD 1 ((ns.length : Int) - 1).toNat).filter (fUp (ns.map Nd.d))).map id) := fun a => by
      refine evl_lc (wd_rng2 (i := 1) (j := (ns.length : Int)) (eva_cons ev_int (eva_cons (by
        have h := x_len (C := ⟨K, P, w, H⟩) (ev_var (C := ⟨K, P, w, H⟩) (Γ := [.dat v.d, .dat s.d, .dat (.int lo), .dat (.int hi), .dat (.tuple (ns.map Nd.d)), a, .any, .any, .any]) (Δ := []) (i := 4) rfl) rfl
        rw [List.length_map] at h
        exact h) eva_nil)) (by omega) (by omega)) (by simp [rngD]; omega) fun D hs acc d hd => ?_
      obtain ⟨i, hi, rfl⟩ := List.mem_map.mp hd
      rw [List.mem_range] at hi
      have h1 : i < ns.length := by omega
      have h2 : i + 1 < ns.length := by omega
      refine ⟨[6], _, tg_name, by decide, ?_, fun _ => ev_var rfl⟩
      have e1 : atI (ns.map Nd.d) (1 + (i : Int) - 1) = some (ns[i].d) := by
        rw [show (1 + (i : Int) - 1) = (i : Int) by omega, atI_nat, List.getElem?_map, List.getElem?_eq_getElem h1]
        rfl
      have e2 : atI (ns.map Nd.d) (1 + (i : Int)) = some (ns[i + 1].d) := by
        rw [show (1 + (i : Int)) = ((i + 1 : Nat) : Int) by omega, atI_nat, List.getElem?_map, List.getElem?_eq_getElem h2]
        rfl
      have ef : fUp (ns.map Nd.d) (.int (1 + (i : Int))) = !PySem.W.dataLt (ns[i].d) (ns[i + 1].d) := by
        simp only [fUp]
        rw [show (1 + (i : Int) - 1).toNat = i by omega, show (1 + (i : Int)).toNat = i + 1 by omega, List.getElem?_map, List.getElem?_map, List.getElem?_eq_getElem h1, List.getElem?_eq_getElem h2]
        rfl
      rw [ef]
      exact evt_not (evt_test (e_ltD (e_ix (ev_var rfl) (e_sub (ev_var rfl) ev_int) e1) (e_ix (ev_var rfl) (ev_var rfl) e2) (Nd.alike _ _) (fun z => nomatch z) (by have := (ns[i]).dep; omega)))
    have hsi : SeqAt.shaped (.list (((rngD 1 ((ns.length : Int) - 1).toNat).filter (fUp (ns.map Nd.d))).map id)) = true := list_shaped fun d hd => by
      rw [List.map_id] at hd
      obtain ⟨i, _, rfl⟩ := List.mem_map.mp (List.mem_filter.mp hd).1
      exact ⟨rfl, Nat.zero_le _⟩
    by_cases hup : upN ns
    · have ee := (up_rng ns).mpr hup
      by_cases hmem : ((s, 1) : Nd) ∈ ns
      · refine nx_ifF (evt_orF (evt_test (ev_neD (evl_ev (hlc _)) (evl_ev (evl_lst eva_nil (Nat.zero_le _))) hsi nil_shaped)) (by rw [eqv_lnil, ee]; rfl) (evt_test (e_nin (d := Nd.d (s, 1)) ?_ (ev_var rfl) (Nd.shaped _) hshT))) (by rw [any_nds]; simp [hmem]) (nx_nx ?_)
        · show EV _ _ _ _ (.tuple [s.d, .int 1])
          (repeat' (first
      | exact hix | exact hix2 | exact hix3 | exact hix4
      | ((with_reducible apply ev_var) <;> rfl)
      | (with_reducible exact ev_int) | (with_reducible exact ev_bl) | (with_reducible exact ev_str) | (with_reducible exact ev_non) | (with_reducible exact eva_nil) | (with_reducible exact evo_none)
      | (with_reducible (first | apply eva_cons | apply ev_tup | apply evo_some | apply x_add | apply e_sub | apply x_mul | apply ev_mod | apply ev_neg | apply e_div))
      | refine e_lenN (evm_var rfl) rfl ?_
      | (with_reducible (first | apply x_len | apply x_ix | apply x_sl | apply ev_isN | apply ev_notN | apply ev_eqD | apply ev_neD | apply e_lt | apply ev_le | apply ev_gt | apply ev_ge | apply ev_isInt | apply ev_isBool | apply ev_isTup | apply ev_isStr | apply ec_whole | apply eca_counts | apply eca_levels | exact ⟨rfl, rfl⟩ | apply ev_min | apply ev_intc | apply ev_sumT | apply evt_B | apply evt_test | apply evt_not | apply evt_and | apply evt_or | apply ev_andV | apply ev_orV | apply ev_notV | apply ev_ite | intro _ | exact True.intro | rfl))
      | exact True.intro | exact ⟨rfl, rfl⟩ | exact Nat.le_of_ble_eq_true rfl | rfl))
        (try dsimp only [List.set, setAll])
        refine nx_sq ?_
        refine nx_for (w_tup (ev_var rfl)) (fun i Γ Δ => ∃ a : SV, (∀ n ∈ ns.take i, ∀ t ∈ thL v lo hi n, ∃ m ∈ ns, t.2 = some m) ∧ Γ = [.dat v.d, .dat s.d, .dat (.int lo), .dat (.int hi), .dat (.tuple (ns.map Nd.d)), a, .any, .any, .any] ∧ Δ = [])
          ⟨_, (fun n hn => by simp at hn), rfl, rfl⟩ ?_ ?_
        · rintro hs' i dd Γ Δ hd ⟨a, hclo, rfl, rfl⟩
          rw [List.getElem?_map] at hd
          obtain ⟨n, hn, rfl⟩ := Option.map_eq_some_iff.mp hd
          have hnm := List.mem_of_getElem? hn
          have hno' := hns n hnm
          refine ⟨[5], _, tg_name, ?_⟩
          (try dsimp only [List.set, setAll])
          have hth : (thL v lo hi n).length ≤ 21 := thL_len v lo hi n hv hno'.1 ⟨hlo, by omega⟩
          have hsl : SeqAt.shaped (.list ((((thL v lo hi n).map Th.d).filter (fLc (ns.map Nd.d))).map vRo)) = true := list_shaped fun d hd => by
            obtain ⟨x, hx, rfl⟩ := List.mem_map.mp hd
            obtain ⟨t, _, rfl⟩ := List.mem_map.mp (List.mem_filter.mp hx).1
            exact ndO_flat t.2
          by_cases hc : ∀ t ∈ thL v lo hi n, ∃ m ∈ ns, t.2 = some m
          · have e3 := (lc_empty ns (thL v lo hi n)).mpr hc
            refine nx_ifF (evt_test (ev_neD (evl_ev (evl_lc (f := fLc (ns.map Nd.d)) (v := vRo) (w_list (evl_ev (eca_things (v := v) (n := n) ⟨hv, hno'.1, hlo, hlh, (by omega : hi ≤ 10)⟩ (ev_var rfl) (ev_var rfl) (ev_var rfl) (ev_var rfl)))) (by rw [List.length_map]; omega) fun D hs acc x hx => ?_)) (evl_ev (evl_lst eva_nil (Nat.zero_le _))) hsl nil_shaped)) (by rw [eqv_lnil, e3]; rfl) (nx_nx ?_)
            · obtain ⟨t, _, rfl⟩ := List.mem_map.mp hx
              refine ⟨[7, 8], _, tg_tup (ds := [t.1, ndO t.2]) rfl rfl, by decide, ?_, fun _ => ev_var rfl⟩
              exact evt_test (e_nin (ev_var rfl) (ev_var rfl) (ndO_flat t.2).sh hshT)
            (try dsimp only [List.set, setAll])
            refine nx_li ⟨_, fun u hu => ?_, rfl, rfl⟩
            rw [List.take_succ, hn] at hu
            rcases List.mem_append.mp hu with hu | hu
            · exact hclo u hu
            · simp at hu
              subst hu
              exact hc
          · have e3 : ((((thL v lo hi n).map Th.d).filter (fLc (ns.map Nd.d))).map vRo).isEmpty = false := Bool.eq_false_iff.mpr fun z => hc ((lc_empty ns (thL v lo hi n)).mp z)
            refine nx_ifT (evt_test (ev_neD (evl_ev (evl_lc (f := fLc (ns.map Nd.d)) (v := vRo) (w_list (evl_ev (eca_things (v := v) (n := n) ⟨hv, hno'.1, hlo, hlh, (by omega : hi ≤ 10)⟩ (ev_var rfl) (ev_var rfl) (ev_var rfl) (ev_var rfl)))) (by rw [List.length_map]; omega) fun D hs acc x hx => ?_)) (evl_ev (evl_lst eva_nil (Nat.zero_le _))) hsl nil_shaped)) (by rw [eqv_lnil, e3]; rfl) ?_
            · obtain ⟨t, _, rfl⟩ := List.mem_map.mp hx
              refine ⟨[7, 8], _, tg_tup (ds := [t.1, ndO t.2]) rfl rfl, by decide, ?_, fun _ => ev_var rfl⟩
              exact evt_test (e_nin (ev_var rfl) (ev_var rfl) (ndO_flat t.2).sh hshT)
            exact nx_ret ev_bl (rt_of rfl (hno fun z => hc (z.2.2 n hnm)))
        · rintro Γ Δ ⟨a, hclo, rfl, rfl⟩
          rw [List.length_map, List.take_length] at hclo
          rw [closed_iff (p := true) hns ⟨fun _ => ⟨hup, hmem, hclo⟩, fun _ => rfl⟩] at hq
          (try dsimp only [List.set, setAll])
          refine nx_ret ev_bl (rt_of (E := E) rfl ?_)
          exact hq
      · refine nx_ifT (evt_orF (evt_test (ev_neD (evl_ev (hlc _)) (evl_ev (evl_lst eva_nil (Nat.zero_le _))) hsi nil_shaped)) (by rw [eqv_lnil, ee]; rfl) (evt_test (e_nin (d := Nd.d (s, 1)) ?_ (ev_var rfl) (Nd.shaped _) hshT))) (by rw [any_nds]; simp [hmem]) ?_
        · show EV _ _ _ _ (.tuple [s.d, .int 1])
          (repeat' (first
      | exact hix | exact hix2 | exact hix3 | exact hix4
      | ((with_reducible apply ev_var) <;> rfl)
      | (with_reducible exact ev_int) | (with_reducible exact ev_bl) | (with_reducible exact ev_str) | (with_reducible exact ev_non) | (with_reducible exact eva_nil) | (with_reducible exact evo_none)
      | (with_reducible (first | apply eva_cons | apply ev_tup | apply evo_some | apply x_add | apply e_sub | apply x_mul | apply ev_mod | apply ev_neg | apply e_div))
      | refine e_lenN (evm_var rfl) rfl ?_
      | (with_reducible (first | apply x_len | apply x_ix | apply x_sl | apply ev_isN | apply ev_notN | apply ev_eqD | apply ev_neD | apply e_lt | apply ev_le | apply ev_gt | apply ev_ge | apply ev_isInt | apply ev_isBool | apply ev_isTup | apply ev_isStr | apply ec_whole | apply eca_counts | apply eca_levels | exact ⟨rfl, rfl⟩ | apply ev_min | apply ev_intc | apply ev_sumT | apply evt_B | apply evt_test | apply evt_not | apply evt_and | apply evt_or | apply ev_andV | apply ev_orV | apply ev_notV | apply ev_ite | intro _ | exact True.intro | rfl))
      | exact True.intro | exact ⟨rfl, rfl⟩ | exact Nat.le_of_ble_eq_true rfl | rfl))
        refine nx_ret ev_bl (rt_of (E := E) rfl ?_)
        exact hno fun z => hmem z.2.1
    · have ee : (((rngD 1 ((ns.length : Int) - 1).toNat).filter (fUp (ns.map Nd.d))).map id).isEmpty = false := Bool.eq_false_iff.mpr fun z => hup ((up_rng ns).mp z)
      refine nx_ifT (evt_orT (evt_test (ev_neD (evl_ev (hlc _)) (evl_ev (evl_lst eva_nil (Nat.zero_le _))) hsi nil_shaped)) (by rw [eqv_lnil, ee]; rfl)) rfl ?_
      refine nx_ret ev_bl (rt_of (E := E) rfl ?_)
      exact hno fun z => hup z.1
end
end Kw

/-! text D19 -/
/-! check_safe -/
namespace Kw
open PySem PySem.Spec PyProof.Rows L2 PySem.Calls
abbrev s_check_safe : Stmt := top 51
theorem sc_check_safe : FnScope ["well", "state", "low", "high", "fails", "paper", "is_good"] ["well", "state", "low", "high", "fails", "paper"] (defScope s_check_safe) := ⟨rfl, rfl, rfl, by decide +kernel, rfl, by decide +kernel, by decide +kernel⟩
/-- a sheet as it is told -/
inductive Sheet where
  | two (o : Bool) (t : List PyData ⊕ PyData)
  | odd (d : PyData)
  | one (o : Bool)
def wordS (o : Bool) : Str := if o then "over" else "safe"
def Sheet.d : Sheet → PyData
  | .two o t => .tuple [.str (wordS o), tsD t]
  | .odd d => d
  | .one o => .tuple [.str (wordS o)]
abbrev Sx := Wl × S × Int × Int × Sheet
def Sx.Ok (a : Sx) : Prop := a.1.Ok ∧ a.2.1.Ok a.1 ∧ 0 ≤ a.2.2.1 ∧ a.2.2.1 ≤ a.2.2.2.1 ∧ a.2.2.2.1 ≤ 2 ∧ match a.2.2.2.2 with
  | .two _ t => TabS a.1 t
  | .odd d => isTup d = false
  | .one _ => True
noncomputable def Sx.good (a : Sx) : Bool := match a.2.2.2.2 with
  | .two true t => Tb.runs (a.1, a.2.1, a.2.2.1, a.2.2.2.1, t)
  | .two false t => Tb.closed (a.1, a.2.1, a.2.2.1, a.2.2.2.1, t)
  | _ => false
noncomputable def Sx.r (C2 : Addr) (a : Sx) : Rs := match a.2.2.2.2 with
  | .two o _ => if a.good then .dat (.str (wordS o)) else .exc C2 (some (wordS o))
  | _ => .exc C2 (some "form")
def Sx.ask (a : Sx) : Ask := (true, a.1, a.2.1.d, .int a.2.2.1, .int a.2.2.2.1, .int 1)
abbrev sp_check_safe (C1 C2 C3 : Addr) (P : Program) (w : World) (K : PySem.W.Frag) : Sp := ASp (α := Ask ⊕ Sx) P w K (fun a => match a with | .inl a => a.l ++ [.int 0] | .inr a => a.ask.l ++ [a.2.2.2.2.d]) (fun a => match a with | .inl a => a.Ok ∧ Bad C1 C3 a | .inr a => a.Ok)
  fun a r => match a with | .inl a => r = a.r C1 C3 | .inr a => r = a.r C2
section
variable {P : Program} {w : World} {K : PySem.W.Frag} {mg : Str → Option Value} {base : Heap} {C1 C2 C3 : Addr}
theorem nx_pick {C : Ct} {Γ : List SV} {Δ : Dl} {t : TT} {i : Nat} {f1 f2 : Addr} {b : Bool} {D : Ends} {U1 U2 : L2.St → Hp → Prop} (ht : EVT C Γ Δ t b) (hi : i < Γ.length)
    (h1 : ∀ σ H, σ[i]? = some (some (.ref f1)) → U1 σ H → D.nx σ H) (h2 : ∀ σ H, σ[i]? = some (some (.ref f2)) → U2 σ H → D.nx σ H)
    (k1 : b = true → Nx C (Γ.set i .any) Δ U1) (k2 : b = false → Nx C (Γ.set i .any) Δ U2) : Nx C Γ Δ (tAsg (tIf t (tC (.ref f1)) (tC (.ref f2))) (gName i) D) := fun G H σ S =>
  ht G H σ S _ fun G1 H1 s1 S1 => by
    have e : ∀ v : Option V, (σ.set i v)[i]? = some v := fun v => by
      rw [List.getElem?_set_self (by rw [S.len]; exact hi)]
    cases b with
    | true => exact h1 _ _ (e _) (k1 rfl G1 H1 _ S1.setAny)
    | false => exact h2 _ _ (e _) (k2 rfl G1 H1 _ S1.setAny)
end
end Kw

/-! text D20 -/
/-! check_safe -/
namespace Kw
open PySem PySem.Spec PyProof.Rows L2 PySem.Calls
theorem safe_shaped : SeqAt.shaped (.str "safe") = true := str_shaped _ (by decide +kernel)
theorem word_shaped (o : Bool) : SeqAt.shaped (.str (wordS o)) = true := by
  cases o
  · exact safe_shaped
  · exact over_shaped
theorem word_over (o : Bool) : PyData.eqv (.str (wordS o)) (.str "over") = o := by
  cases o
  · rw [PyData.eqv]; decide +kernel
  · exact eqv_over_over
theorem word_in (o : Bool) : (([PyData.str "over", .str "safe"].any fun z => PyData.eqv z (.str (wordS o)))) = true := by
  cases o
  · simp [wordS, PyData.eqv]
  · simp [wordS, PyData.eqv]
section
variable {P : Program} {w : World} {K : PySem.W.Frag} {mg : Str → Option Value} {base : Heap} {C1 C2 C3 : Addr}
theorem eca_runs {C : Ct} {Γ : List SV} {Δ : Dl} {W : WX} {t0 t1 t2 t3 t4 t5 : TE} {a : Tb} (h : a.Ok) (h0 : EV C Γ Δ t0 a.1.d) (h1 : EV C Γ Δ t1 a.2.1.d) (h2 : EV C Γ Δ t2 (.int a.2.2.1)) (h3 : EV C Γ Δ t3 (.int a.2.2.2.1)) (h4 : EV C Γ Δ t4 (.int 1)) (h5 : EV C Γ Δ t5 a.t) : EV C Γ Δ (tCallS (sp_does_run_over C.P C.w C.K) (WE W) (tCons t0 (tCons t1 (tCons t2 (tCons t3 (tCons t4 (tCons t5 tNil))))))) (.bool a.runs) :=
  x_call (α := Tb) a (eva_cons h0 (eva_cons h1 (eva_cons h2 (eva_cons h3 (eva_cons h4 (eva_cons h5 eva_nil)))))) h rfl
theorem eca_closed {C : Ct} {Γ : List SV} {Δ : Dl} {W : WX} {t0 t1 t2 t3 t4 t5 : TE} {a : Tb} (h : a.Ok) (h0 : EV C Γ Δ t0 a.1.d) (h1 : EV C Γ Δ t1 a.2.1.d) (h2 : EV C Γ Δ t2 (.int a.2.2.1)) (h3 : EV C Γ Δ t3 (.int a.2.2.2.1)) (h4 : EV C Γ Δ t4 (.int 1)) (h5 : EV C Γ Δ t5 a.t) : EV C Γ Δ (tCallS (sp_is_closed C.P C.w C.K) (WE W) (tCons t0 (tCons t1 (tCons t2 (tCons t3 (tCons t4 (tCons t5 tNil))))))) (.bool a.closed) :=
  x_call (α := Tb) a (eva_cons h0 (eva_cons h1 (eva_cons h2 (eva_cons h3 (eva_cons h4 (eva_cons h5 eva_nil)))))) h rfl
theorem nx_pick2 {C : Ct} {Γ : List SV} {Δ : Dl} {t : TT} {i : Nat} {f1 f2 : Addr} {b : Bool} {D : Ends} {sp1 sp2 : Sp} {W : WX} {ta : TA} {ts1 ts2 tu : TS} (ht : EVT C Γ Δ t b) (hi : i < Γ.length)
    (k1 : b = true → Nx C (Γ.set i .any) Δ (tSeq (tIfS (tNot (tB (tCallS sp1 (WE W) ta))) ts1 ts2) tu D)) (k2 : b = false → Nx C (Γ.set i .any) Δ (tSeq (tIfS (tNot (tB (tCallS sp2 (WE W) ta))) ts1 ts2) tu D)) :
    Nx C Γ Δ (tAsg (tIf t (tC (.ref f1)) (tC (.ref f2))) (gName i) { D with nx := tSeq (tIfS (tNot (tB (tCallU i f1 f2 sp1 sp2 W ta))) ts1 ts2) tu D }) :=
  nx_pick ht hi (fun σ H e h => Or.inl ⟨e, h⟩) (fun σ H e h => Or.inr ⟨e, h⟩) k1 k2
theorem ok_check_safe {f f_does_run_over f_is_closed : Addr} {fd : FuncData} (T : Tx P K mg C1 C2 C3) (F : Fun K "check_safe" "check_safe" s_check_safe f fd) (c_need_asked : Cl P w K mg base 6 "need_asked" (sp_need_asked C1 C3 P w K)) (cu1 : ClA P w K mg base 6 "does_run_over" f_does_run_over (sp_does_run_over P w K)) (cu2 : ClA P w K mg base 6 "is_closed" f_is_closed (sp_is_closed P w K))
    (fc_does_run_over : mg "does_run_over" = some (.ref f_does_run_over)) (fc_is_closed : mg "is_closed" = some (.ref f_is_closed)) : FnG P w K mg base 7 f fd ["well", "state", "low", "high", "fails", "paper"] (sp_check_safe C1 C2 C3 P w K) := by
  refine body_g F sc_check_safe (fun a => by cases a <;> rfl) (fun cdv ar up z H Q E hgd hr => ⟨_, (pss_cons (ps_expr (gCl (P := P) (w := w) (K := K) ⟨rfl, rfl, rfl⟩ rfl rfl c_need_asked hr hgd (by rfl) (takes_of rfl rfl rfl rfl) (pa_cons (pv 0) (pa_cons (pv 1) (pa_cons (pv 2) (pa_cons (pv 3) (pa_cons (pv 4) pa_nil))))))) (pss_cons (ps_if (PW.pt (pw_or (pt_not (pt_val (gIsinst (P := P) (w := w) (K := K) ⟨rfl, rfl, rfl⟩ (by rfl) T.b_isinstance (pv 5) (pe_bltn (v := .ty "tuple") (by rfl) T.b_tuple boot_ty_tuple rfl)))) (pw_or (pt_cmpR (gNe (P := P) (w := w) (K := K) ⟨rfl, rfl, rfl⟩ (hu65 hr)) (pe_callB (gLen (P := P) (w := w) (K := K) ⟨rfl, rfl, rfl⟩ (hu65 hr)) (by rfl) T.b_len boot_k_len (pa_cons (pv 5) pa_nil)) pe_int (nomark _)) (pw_or1 (pt_not (pt_val (gIsinst (P := P) (w := w) (K := K) ⟨rfl, rfl, rfl⟩ (by rfl) T.b_isinstance (pe_ix (gIx (P := P) (w := w) (K := K) ⟨rfl, rfl, rfl⟩ (hu65 hr)) (pv 5) pe_int (fun _ _ => rfl)) (pe_bltn (v := .ty "str") (by rfl) T.b_str boot_ty_str rfl)))))))) (pss_one (ps_raise rfl (takes_of rfl rfl rfl rfl) (pmk_part (k := 0) T.ox2 T.rx2 (hr.mono (by decide)) (by rfl) T.mx2 (pa_cons pe_str pa_nil)))) pss_nil) (pss_cons (ps_if (pt_cmpR (gNin (P := P) (w := w) (K := K) ⟨rfl, rfl, rfl⟩ (hu65 hr)) (pe_ix (gIx (P := P) (w := w) (K := K) ⟨rfl, rfl, rfl⟩ (hu65 hr)) (pv 5) pe_int (fun _ _ => rfl)) (pe_tup (pa_cons (pe_k (by rfl) T.c_OVER_crews) (pa_cons (pe_k (by rfl) T.c_SAFE) pa_nil))) (by rfl)) (pss_one (ps_raise rfl (takes_of rfl rfl rfl rfl) (pmk_part (k := 0) T.ox2 T.rx2 (hr.mono (by decide)) (by rfl) T.mx2 (pa_cons pe_str pa_nil)))) pss_nil) (pss_cons (ps_set (i := 6) sc_check_safe.nd rfl (by first | exact Or.inl rfl | exact Or.inr rfl) (pe_ifExp (pt_cmpR (gEq (P := P) (w := w) (K := K) ⟨rfl, rfl, rfl⟩ (hu65 hr)) (pe_ix (gIx (P := P) (w := w) (K := K) ⟨rfl, rfl, rfl⟩ (hu65 hr)) (pv 5) pe_int (fun _ _ => rfl)) (pe_k (by rfl) T.c_OVER_crews) (nomark _)) (pe_glob (v := .ref f_does_run_over) (by rfl) fc_does_run_over rfl) (pe_glob (v := .ref f_is_closed) (by rfl) fc_is_closed rfl))) (pss_cons (ps_if (pt_not (pt_val (gCu (i := 6) (P := P) (w := w) (K := K) ⟨rfl, rfl, rfl⟩ rfl rfl cu1 cu2 hr hgd (takes_of rfl rfl rfl rfl) rfl (by first | exact Or.inl rfl | exact Or.inr (Or.inl rfl)) (pa_cons (pv 0) (pa_cons (pv 1) (pa_cons (pv 2) (pa_cons (pv 3) (pa_cons (pv 4) (pa_cons (pe_ix (gIx (P := P) (w := w) (K := K) ⟨rfl, rfl, rfl⟩ (hu65 hr)) (pv 5) pe_int (fun _ _ => rfl)) pa_nil))))))))) (pss_one (ps_raise rfl (takes_of rfl rfl rfl rfl) (pmk_part (k := 0) T.ox2 T.rx2 (hr.mono (by decide)) (by rfl) T.mx2 (pa_cons (pe_ix (gIx (P := P) (w := w) (K := K) ⟨rfl, rfl, rfl⟩ (hu65 hr)) (pv 5) pe_int (fun _ _ => rfl)) pa_nil)))) pss_nil) (pss_one (ps_ret (pe_ix (gIx (P := P) (w := w) (K := K) ⟨rfl, rfl, rfl⟩ (hu65 hr)) (pv 5) pe_int (fun _ _ => rfl))))))))), fun v hv hq => ?_⟩)
  cases v with
  | inl a =>
    obtain ⟨hok, hbad⟩ := hv
    refine nx_sq (nx_dropC (cl_call (α := Ask) a (eva_cons (ev_var rfl) (eva_cons (ev_var rfl) (eva_cons (ev_var rfl) (eva_cons (ev_var rfl) (eva_cons (ev_var rfl) eva_nil))))) hok) fun r hr => ?_)
    have hr' : r = a.r C1 C3 := hr
    subst hr'
    exact exc_nx hbad (hq _ rfl)
  | inr a =>
    obtain ⟨v, s, lo, hi, sh⟩ := a
    obtain ⟨hv, hs, hlo, hlh, hhi, htab⟩ := hv
    replace hv : v.Ok := hv
    replace hs : s.Ok v := hs
    replace hlo : 0 ≤ lo := hlo
    replace hlh : lo ≤ hi := hlh
    replace hhi : hi ≤ 2 := hhi
    replace hq : RsOk P w K H Q E (Sx.r C2 (v, s, lo, hi, sh)) := hq _ rfl
    have hask : Ask.r C1 C3 (Sx.ask (v, s, lo, hi, sh)) = .dat .none := asked_ok (a := (v, s, lo, hi, 1)) ⟨hv, hs, hlo, hlh, (by show hi ≤ 10; omega), (by show (0 : Int) ≤ 1; decide)⟩ (by show (1 : Int) ≤ 4; decide)
    show Nx _ [.dat v.d, .dat s.d, .dat (.int lo), .dat (.int hi), .dat (.int 1), .dat sh.d, .any] _ _
    refine nx_sq (nx_dropC (cl_call (α := Ask) (Sx.ask (v, s, lo, hi, sh)) (eva_cons (ev_var rfl) (eva_cons (ev_var rfl) (eva_cons (ev_var rfl) (eva_cons (ev_var rfl) (eva_cons (ev_var rfl) eva_nil))))) ⟨hv, sm5_S hv hs⟩) fun r hr => ?_)
    have hr' : r = Ask.r C1 C3 (Sx.ask (v, s, lo, hi, sh)) := hr
    rw [hask] at hr'
    subst hr'
    refine nxc_drop rfl ?_
    (try dsimp only [List.set, setAll])
    refine nx_sq ?_
    cases sh with
    | odd d =>
      replace htab : isTup d = false := htab
      refine nx_ifT (evt_orT (evt_not (evt_B (ev_isTup (ev_var rfl)))) (by show (!isTup d) = true; rw [htab]; rfl)) rfl ?_
      exact nx_raiseP ev_str hq
    | one o =>
      refine nx_ifT (evt_orF (evt_not (evt_B (ev_isTup (ev_var rfl)))) rfl (evt_orT (evt_test (ev_neD (x_len (ev_var rfl) rfl) ev_int rfl rfl)) (by rw [eqv_ints]; rfl))) rfl ?_
      exact nx_raiseP ev_str hq
    | two o b =>
      replace htab : TabS v b := htab
      have hix : ∀ {Γ : List SV} {Δ : Dl}, Γ[5]? = some (.dat (.tuple [.str (wordS o), tsD b])) → EV ⟨K, P, w, H⟩ Γ Δ (tOp (uIx P w K) (tVar 5) (tC (.int 0))) (.str (wordS o)) := fun h => x_ix (ev_var h) ev_int rfl
      have hix1 : ∀ {Γ : List SV} {Δ : Dl}, Γ[5]? = some (.dat (.tuple [.str (wordS o), tsD b])) → EV ⟨K, P, w, H⟩ Γ Δ (tOp (uIx P w K) (tVar 5) (tC (.int 1))) (tsD b) := fun h => x_ix (ev_var h) ev_int rfl
      show Nx _ [.dat v.d, .dat s.d, .dat (.int lo), .dat (.int hi), .dat (.int 1), .dat (.tuple [.str (wordS o), tsD b]), .any] _ _
      refine nx_ifF (evt_orF (evt_not (evt_B (ev_isTup (ev_var rfl)))) rfl (evt_orF (evt_test (ev_neD (x_len (ev_var rfl) rfl) ev_int rfl rfl)) (by rw [eqv_ints]; rfl) (evt_not (evt_B (ev_isStr (hix rfl)))))) rfl (nx_nx ?_)
      (try dsimp only [List.set, setAll])
      refine nx_sq ?_
      refine nx_ifF (evt_test (e_nin (hix rfl) (ev_tup (ds := [.str "over", .str "safe"]) (eva_cons ev_str (eva_cons ev_str eva_nil)) (Nat.le_of_ble_eq_true rfl)) (word_shaped o) (by decide +kernel))) (by rw [word_in]; rfl) (nx_nx ?_)
      (try dsimp only [List.set, setAll])
      refine nx_sq ?_
      refine nx_pick2 (b := o) (evt_test ((ev_eqD (hix rfl) ev_str (word_shaped o) over_shaped).to (by rw [word_over]))) (by simp) (fun ho => ?_) (fun ho => ?_)
      · subst ho
        (try dsimp only [List.set, setAll])
        refine nx_sq ?_
        have hr0 : Sx.r C2 (v, s, lo, hi, .two true b) = if Tb.runs (v, s, lo, hi, b) then .dat (.str (wordS true)) else .exc C2 (some (wordS true)) := rfl
        cases hb : Tb.runs (v, s, lo, hi, b) with
        | true =>
          rw [hr0, if_pos hb] at hq
          refine nx_ifF (evt_not (evt_B (eca_runs (a := (v, s, lo, hi, b)) ⟨hv, hs, hlo, hlh, hhi, htab⟩ (ev_var rfl) (ev_var rfl) (ev_var rfl) (ev_var rfl) (ev_var rfl) (hix1 rfl)))) (by rw [hb]; rfl) (nx_nx ?_)
          (try dsimp only [List.set, setAll])
          exact nx_ret (hix rfl) (rt_of rfl hq)
        | false =>
          rw [hr0, if_neg (by rw [hb]; exact fun z => nomatch z)] at hq
          refine nx_ifT (evt_not (evt_B (eca_runs (a := (v, s, lo, hi, b)) ⟨hv, hs, hlo, hlh, hhi, htab⟩ (ev_var rfl) (ev_var rfl) (ev_var rfl) (ev_var rfl) (ev_var rfl) (hix1 rfl)))) (by rw [hb]; rfl) ?_
          exact nx_raiseP (hix rfl) hq
      · subst ho
        (try dsimp only [List.set, setAll])
        refine nx_sq ?_
        have hr0 : Sx.r C2 (v, s, lo, hi, .two false b) = if Tb.closed (v, s, lo, hi, b) then .dat (.str (wordS false)) else .exc C2 (some (wordS false)) := rfl
        cases hb : Tb.closed (v, s, lo, hi, b) with
        | true =>
          rw [hr0, if_pos hb] at hq
          refine nx_ifF (evt_not (evt_B (eca_closed (a := (v, s, lo, hi, b)) ⟨hv, hs, hlo, hlh, hhi, htab⟩ (ev_var rfl) (ev_var rfl) (ev_var rfl) (ev_var rfl) (ev_var rfl) (hix1 rfl)))) (by rw [hb]; rfl) (nx_nx ?_)
          (try dsimp only [List.set, setAll])
          exact nx_ret (hix rfl) (rt_of rfl hq)
        | false =>
          rw [hr0, if_neg (by rw [hb]; exact fun z => nomatch z)] at hq
          refine nx_ifT (evt_not (evt_B (eca_closed (a := (v, s, lo, hi, b)) ⟨hv, hs, hlo, hlh, hhi, htab⟩ (ev_var rfl) (ev_var rfl) (ev_var rfl) (ev_var rfl) (ev_var rfl) (hix1 rfl)))) (by rw [hb]; rfl) ?_
          exact nx_raiseP (hix rfl) hq
end
end Kw

/-! text D21 -/
/-! _law_due -/
namespace Kw
open PySem PySem.Spec PyProof.Rows L2 PySem.Calls
abbrev s__law_due : Stmt := top 65
theorem sc__law_due : FnScope ["_law_well_here", "_law_state", "_law_low", "_law_high", "_law_sheet"] ["_law_well_here", "_law_state", "_law_low", "_law_high", "_law_sheet"] (defScope s__law_due) := ⟨rfl, rfl, rfl, by decide +kernel, rfl, by decide +kernel, by decide +kernel⟩
noncomputable def dueR (a : Sx) : Rs := match a.2.2.2.2 with
  | .two o _ => if a.good then .dat (.str (wordS o)) else .lst [.str (wordS o)]
  | _ => .lst [.str "form"]
abbrev sp_law_due (P : Program) (w : World) (K : PySem.W.Frag) : Sp := ASp (α := Sx) P w K (fun a => [a.1.d, a.2.1.d, .int a.2.2.1, .int a.2.2.2.1, a.2.2.2.2.d]) Sx.Ok fun a r => r = dueR a
section
variable {P : Program} {w : World} {K : PySem.W.Frag} {mg : Str → Option Value} {base : Heap} {C1 C2 C3 : Addr}
theorem eca_lruns {C : Ct} {Γ : List SV} {Δ : Dl} {W : WX} {t0 t1 t2 t3 t4 t5 : TE} {v : Wl} {s : S} {lo hi : Int} {ts : List PyData} (h : Tb.Ok (v, s, lo, hi, .inl ts)) (h0 : EV C Γ Δ t0 v.d) (h1 : EV C Γ Δ t1 s.d) (h2 : EV C Γ Δ t2 (.int lo)) (h3 : EV C Γ Δ t3 (.int hi)) (h4 : EV C Γ Δ t4 (.int 1)) (h5 : EV C Γ Δ t5 (.tuple ts)) : EV C Γ Δ (tCallS (sp_law_runs_over C.P C.w C.K) (WE W) (tCons t0 (tCons t1 (tCons t2 (tCons t3 (tCons t4 (tCons t5 tNil))))))) (.bool (Tb.runs (v, s, lo, hi, .inl ts))) :=
  x_call (α := Tl) (v, s, lo, hi, ts) (eva_cons h0 (eva_cons h1 (eva_cons h2 (eva_cons h3 (eva_cons h4 (eva_cons h5 eva_nil)))))) h rfl
theorem eca_lclosed {C : Ct} {Γ : List SV} {Δ : Dl} {W : WX} {t0 t1 t2 t3 t5 : TE} {v : Wl} {s : S} {lo hi : Int} {ts : List PyData} (h : Tb.Ok (v, s, lo, hi, .inl ts)) (h0 : EV C Γ Δ t0 v.d) (h1 : EV C Γ Δ t1 s.d) (h2 : EV C Γ Δ t2 (.int lo)) (h3 : EV C Γ Δ t3 (.int hi)) (h5 : EV C Γ Δ t5 (.tuple ts)) : EV C Γ Δ (tCallS (sp_law_is_closed C.P C.w C.K) (WE W) (tCons t0 (tCons t1 (tCons t2 (tCons t3 (tCons t5 tNil)))))) (.bool (Tb.closed (v, s, lo, hi, .inl ts))) :=
  x_call (α := Tl) (v, s, lo, hi, ts) (eva_cons h0 (eva_cons h1 (eva_cons h2 (eva_cons h3 (eva_cons h5 eva_nil))))) h rfl
theorem ok_law_due {f : Addr} {fd : FuncData} (T : Tx P K mg C1 C2 C3) (F : Fun K "_law_due" "_law_due" s__law_due f fd) (c__law_runs_over : Cl P w K mg base 6 "_law_runs_over" (sp_law_runs_over P w K)) (c__law_is_closed : Cl P w K mg base 6 "_law_is_closed" (sp_law_is_closed P w K)) : FnG P w K mg base 7 f fd ["_law_well_here", "_law_state", "_law_low", "_law_high", "_law_sheet"] (sp_law_due P w K) := by
  refine body_g F sc__law_due (fun a => rfl) (fun cdv ar up z H Q E hgd hr => ⟨_, (pss_cons (ps_if (PW.pt (pw_or (pt_not (pt_val (gIsinst (P := P) (w := w) (K := K) ⟨rfl, rfl, rfl⟩ (by rfl) T.b_isinstance (pv 4) (pe_bltn (v := .ty "tuple") (by rfl) T.b_tuple boot_ty_tuple rfl)))) (pw_or (pt_cmpR (gNe (P := P) (w := w) (K := K) ⟨rfl, rfl, rfl⟩ (hu65 hr)) (pe_callB (gLen (P := P) (w := w) (K := K) ⟨rfl, rfl, rfl⟩ (hu65 hr)) (by rfl) T.b_len boot_k_len (pa_cons (pv 4) pa_nil)) pe_int (nomark _)) (pw_or1 (pt_not (pt_val (gIsinst (P := P) (w := w) (K := K) ⟨rfl, rfl, rfl⟩ (by rfl) T.b_isinstance (pe_ix (gIx (P := P) (w := w) (K := K) ⟨rfl, rfl, rfl⟩ (hu65 hr)) (pv 4) pe_int (fun _ _ => rfl)) (pe_bltn (v := .ty "str") (by rfl) T.b_str boot_ty_str rfl)))))))) (pss_one (ps_ret (pe_lst (pa_cons pe_str pa_nil)))) pss_nil) (pss_cons (ps_if (pt_cmpR (gNin (P := P) (w := w) (K := K) ⟨rfl, rfl, rfl⟩ (hu65 hr)) (pe_ix (gIx (P := P) (w := w) (K := K) ⟨rfl, rfl, rfl⟩ (hu65 hr)) (pv 4) pe_int (fun _ _ => rfl)) (pe_tup (pa_cons pe_str (pa_cons pe_str pa_nil))) (by rfl)) (pss_one (ps_ret (pe_lst (pa_cons pe_str pa_nil)))) pss_nil) (pss_cons (ps_if (pt_not (pt_val (gIsinst (P := P) (w := w) (K := K) ⟨rfl, rfl, rfl⟩ (by rfl) T.b_isinstance (pe_ix (gIx (P := P) (w := w) (K := K) ⟨rfl, rfl, rfl⟩ (hu65 hr)) (pv 4) pe_int (fun _ _ => rfl)) (pe_bltn (v := .ty "tuple") (by rfl) T.b_tuple boot_ty_tuple rfl)))) (pss_one (ps_ret (pe_lst (pa_cons (pe_ix (gIx (P := P) (w := w) (K := K) ⟨rfl, rfl, rfl⟩ (hu65 hr)) (pv 4) pe_int (fun _ _ => rfl)) pa_nil)))) pss_nil) (pss_cons (ps_if (pt_cmpR (gEq (P := P) (w := w) (K := K) ⟨rfl, rfl, rfl⟩ (hu65 hr)) (pe_ix (gIx (P := P) (w := w) (K := K) ⟨rfl, rfl, rfl⟩ (hu65 hr)) (pv 4) pe_int (fun _ _ => rfl)) pe_str (nomark _)) (pss_one (ps_ret (pe_ifExp (pt_val (gCl (P := P) (w := w) (K := K) ⟨rfl, rfl, rfl⟩ rfl rfl c__law_runs_over hr hgd (by rfl) takesF (pa_cons (pv 0) (pa_cons (pv 1) (pa_cons (pv 2) (pa_cons (pv 3) (pa_cons pe_int (pa_cons (pe_ix (gIx (P := P) (w := w) (K := K) ⟨rfl, rfl, rfl⟩ (hu65 hr)) (pv 4) pe_int (fun _ _ => rfl)) pa_nil)))))))) pe_str (pe_lst (pa_cons pe_str pa_nil))))) pss_nil) (pss_one (ps_ret (pe_ifExp (pt_val (gCl (P := P) (w := w) (K := K) ⟨rfl, rfl, rfl⟩ rfl rfl c__law_is_closed hr hgd (by rfl) takesF (pa_cons (pv 0) (pa_cons (pv 1) (pa_cons (pv 2) (pa_cons (pv 3) (pa_cons (pe_ix (gIx (P := P) (w := w) (K := K) ⟨rfl, rfl, rfl⟩ (hu65 hr)) (pv 4) pe_int (fun _ _ => rfl)) pa_nil))))))) pe_str (pe_lst (pa_cons pe_str pa_nil))))))))), fun a hv hq => ?_⟩)
  obtain ⟨v, s, lo, hi, sh⟩ := a
  obtain ⟨hv, hs, hlo, hlh, hhi, htab⟩ := hv
  replace hq : RsOk P w K H Q E (dueR (v, s, lo, hi, sh)) := hq _ rfl
  show Nx _ [.dat v.d, .dat s.d, .dat (.int lo), .dat (.int hi), .dat sh.d] _ _
  refine nx_sq ?_
  cases sh with
  | odd d =>
    replace htab : isTup d = false := htab
    refine nx_ifT (evt_orT (evt_not (evt_B (ev_isTup (ev_var rfl)))) (by show (!isTup d) = true; rw [htab]; rfl)) rfl ?_
    exact nx_retL (evl_lst (eva_cons ev_str eva_nil) (Nat.le_of_ble_eq_true rfl)) (rtL_of (E := E) rfl hq)
  | one o =>
    refine nx_ifT (evt_orF (evt_not (evt_B (ev_isTup (ev_var rfl)))) rfl (evt_orT (evt_test (ev_neD (x_len (ev_var rfl) rfl) ev_int rfl rfl)) (by rw [eqv_ints]; rfl))) rfl ?_
    exact nx_retL (evl_lst (eva_cons ev_str eva_nil) (Nat.le_of_ble_eq_true rfl)) (rtL_of (E := E) rfl hq)
  | two o b =>
    replace htab : TabS v b := htab
    have hix : ∀ {Γ : List SV} {Δ : Dl}, Γ[4]? = some (.dat (.tuple [.str (wordS o), tsD b])) → EV ⟨K, P, w, H⟩ Γ Δ (tOp (uIx P w K) (tVar 4) (tC (.int 0))) (.str (wordS o)) := fun h => x_ix (ev_var h) ev_int rfl
    have hix1 : ∀ {Γ : List SV} {Δ : Dl}, Γ[4]? = some (.dat (.tuple [.str (wordS o), tsD b])) → EV ⟨K, P, w, H⟩ Γ Δ (tOp (uIx P w K) (tVar 4) (tC (.int 1))) (tsD b) := fun h => x_ix (ev_var h) ev_int rfl
    show Nx _ [.dat v.d, .dat s.d, .dat (.int lo), .dat (.int hi), .dat (.tuple [.str (wordS o), tsD b])] _ _
    refine nx_ifF (evt_orF (evt_not (evt_B (ev_isTup (ev_var rfl)))) rfl (evt_orF (evt_test (ev_neD (x_len (ev_var rfl) rfl) ev_int rfl rfl)) (by rw [eqv_ints]; rfl) (evt_not (evt_B (ev_isStr (hix rfl)))))) rfl (nx_nx ?_)
    (try dsimp only [List.set, setAll])
    refine nx_sq ?_
    refine nx_ifF (evt_test (e_nin (hix rfl) (ev_tup (ds := [.str "over", .str "safe"]) (eva_cons ev_str (eva_cons ev_str eva_nil)) (Nat.le_of_ble_eq_true rfl)) (word_shaped o) (by decide +kernel))) (by rw [word_in]; rfl) (nx_nx ?_)
    (try dsimp only [List.set, setAll])
    refine nx_sq ?_
    cases b with
    | inr d =>
      replace htab : isTup d = false := htab
      have e : dueR (v, s, lo, hi, .two o (.inr d)) = .lst [.str (wordS o)] := by cases o <;> rfl
      rw [e] at hq
      refine nx_ifT (evt_not (evt_B (ev_isTup (hix1 rfl)))) (by show (!isTup d) = true; rw [htab]; rfl) ?_
      exact nx_retL (evl_lst (eva_cons (hix rfl) eva_nil) (Nat.le_of_ble_eq_true rfl)) (rtL_of (E := E) rfl hq)
    | inl ts =>
      have htb : Tb.Ok (v, s, lo, hi, .inl ts) := ⟨hv, hs, hlo, hlh, hhi, htab⟩
      refine nx_ifF (evt_not (evt_B (ev_isTup (hix1 rfl)))) rfl (nx_nx ?_)
      (try dsimp only [List.set, setAll])
      refine nx_sq ?_
      cases o with
      | true =>
        have e : dueR (v, s, lo, hi, .two true (.inl ts)) = if Tb.runs (v, s, lo, hi, .inl ts) then .dat (.str "over") else .lst [.str "over"] := rfl
        refine nx_ifT (evt_test (ev_eqD (hix rfl) ev_str (word_shaped true) over_shaped)) (word_over true) ?_
        have hc := fun (W : WX) => evt_B (eca_lruns (C := ⟨K, P, w, H⟩) (W := W) htb (ev_var (Γ := [.dat v.d, .dat s.d, .dat (.int lo), .dat (.int hi), .dat (.tuple [.str (wordS true), tsD (.inl ts)])]) (Δ := []) (i := 0) rfl) (ev_var (i := 1) rfl) (ev_var (i := 2) rfl) (ev_var (i := 3) rfl) ev_int (hix1 rfl))
        cases hb : Tb.runs (v, s, lo, hi, .inl ts) with
        | true =>
          rw [e, if_pos hb] at hq
          exact nx_ret (ev_ifT (hc _) hb ev_str) (rt_of rfl hq)
        | false =>
          rw [e, if_neg (by rw [hb]; exact fun z => nomatch z)] at hq
          exact nx_retL (ev_ifL (hc _) (fun h => by rw [hb] at h; cases h) fun _ => evl_lst (eva_cons ev_str eva_nil) (Nat.le_of_ble_eq_true rfl)) (rtL_of (E := E) rfl hq)
      | false =>
        have e : dueR (v, s, lo, hi, .two false (.inl ts)) = if Tb.closed (v, s, lo, hi, .inl ts) then .dat (.str "safe") else .lst [.str "safe"] := rfl
        refine nx_ifF (evt_test (ev_eqD (hix rfl) ev_str (word_shaped false) over_shaped)) (word_over false) (nx_nx ?_)
        (try dsimp only [List.set, setAll])
        have hc := fun (W : WX) => evt_B (eca_lclosed (C := ⟨K, P, w, H⟩) (W := W) htb (ev_var (Γ := [.dat v.d, .dat s.d, .dat (.int lo), .dat (.int hi), .dat (.tuple [.str (wordS false), tsD (.inl ts)])]) (Δ := []) (i := 0) rfl) (ev_var (i := 1) rfl) (ev_var (i := 2) rfl) (ev_var (i := 3) rfl) (hix1 rfl))
        cases hb : Tb.closed (v, s, lo, hi, .inl ts) with
        | true =>
          rw [e, if_pos hb] at hq
          exact nx_ret (ev_ifT (hc _) hb ev_str) (rt_of rfl hq)
        | false =>
          rw [e, if_neg (by rw [hb]; exact fun z => nomatch z)] at hq
          exact nx_retL (ev_ifL (hc _) (fun h => by rw [hb] at h; cases h) fun _ => evl_lst (eva_cons ev_str eva_nil) (Nat.le_of_ble_eq_true rfl)) (rtL_of (E := E) rfl hq)
end
end Kw

/-! text D22 -/
/-! the clauses of _law_outcome -/
namespace Kw
open PySem PySem.Spec PyProof.Rows L2 PySem.Calls
abbrev s__law_outcome : Stmt := top 66
theorem sc__law_outcome : FnScope ["_law_way", "_law_well_here", "_law_state", "_law_low", "_law_high", "_law_more", "_law_found", "e"] ["_law_way", "_law_well_here", "_law_state", "_law_low", "_law_high", "_law_more"] (defScope s__law_outcome) := ⟨rfl, rfl, rfl, by decide +kernel, rfl, by decide +kernel, by decide +kernel⟩
abbrev outL (C1 C2 C3 : Addr) : List (Value × Option Nat × SuiteT) :=
  [(.ref C2, some 7, fun a cls d => tAsg (tLst (tCons (tXf a cls d C2 "part" (tVar 7)) tNil)) (gName 6)),
   (.ref C1, some 7, fun a cls d => tAsg (tXf a cls d C1 "part" (tVar 7)) (gName 6)),
   (.ref C3, none, fun a cls d => tAsg (tC (.str "place")) (gName 6))]
section
variable {P : Program} {w : World} {K : PySem.W.Frag} {mg : Str → Option Value} {base : Heap} {C1 C2 C3 : Addr}
theorem ex_ab (T : Tx P K mg C1 C2 C3) : PySem.W.exmOne K (.ref C1) (.ref C2) = some false ∧ PySem.W.exmOne K (.ref C1) (.ref C1) = some true ∧ PySem.W.exmOne K (.ref C2) (.ref C2) = some true ∧ PySem.W.exmOne K (.ref C3) (.ref C2) = some false ∧ PySem.W.exmOne K (.ref C3) (.ref C1) = some false ∧ PySem.W.exmOne K (.ref C3) (.ref C3) = some true :=
  ⟨T.ee 0 1, T.ee 0 0, T.ee 1 1, T.ee 2 1, T.ee 2 0, T.ee 2 2⟩
theorem nx_gone {C : Ct} {Γ : List SV} {Δ : Dl} {i : Nat} {P : L2.St → Hp → Prop} (k : Nx C (Γ.set i .any) Δ P) : Nx C Γ Δ (fun τ J => P (τ.set i none) J) := fun G H σ S => k G H _ S.setAny
theorem catch3 {C : Ct} {Γ : List SV} {Δ : Dl} {D : Ends} {Wo : WX} {f : V → L2.St → Hp → Prop} (T : Tx P K mg C1 C2 C3) (k : Nx C (Γ.set 6 (.dat (.str "place"))) Δ D.nx) : NxC C Γ Δ (wNames K Wo D (outL C1 C2 C3)) f (.exc C3 none) := fun G H σ S d _ => by
  obtain ⟨-, -, -, e1, e2, e3⟩ := ex_ab T
  refine ⟨false, e1, (fun z => nomatch z), fun _ => ⟨false, e2, (fun z => nomatch z), fun _ => ⟨true, e3, fun _ a ha => ?_, (fun z => nomatch z)⟩⟩⟩
  exact k G H _ (S.set (.str _))
theorem catch1 {C : Ct} {Γ : List SV} {Δ : Dl} {D : Ends} {Wo : WX} {f : V → L2.St → Hp → Prop} {m : Str} (T : Tx P K mg C1 C2 C3) (hl : 7 < Γ.length) (k : Nx C ((Γ.set 7 .any).set 6 (.dat (.str m)) |>.set 7 .any) Δ D.nx) : NxC C Γ Δ (wNames K Wo D (outL C1 C2 C3)) f (.exc C1 (some m)) := fun G H σ S d hx => by
  obtain ⟨e1, e2, -⟩ := ex_ab T
  obtain ⟨dd, rfl, hd⟩ := hx
  refine ⟨false, e1, (fun z => nomatch z), fun _ => ⟨true, e2, fun _ a ha => ?_, (fun z => nomatch z)⟩⟩
  refine ⟨.ref a, ?_, rfl, rfl, dd, _, .str m, rfl, hd, rfl, ?_⟩
  · show (σ.set 7 (some (.ref a)))[7]? = _
    rw [List.getElem?_set_self (by rw [S.len]; exact hl)]
  · exact k G H _ (((S.setAny (v := some (.ref a))).set (.str _)).setAny)
theorem catch2 {C : Ct} {Γ : List SV} {Δ : Dl} {D : Ends} {Wo : WX} {f : V → L2.St → Hp → Prop} {m : Str} (T : Tx P K mg C1 C2 C3) (hl : 7 < Γ.length) (k : ∀ p, Nx C ((Γ.set 7 .any).set 6 (.loc p) |>.set 7 .any) ((p, .ml [.str m]) :: Δ) D.nx) : NxC C Γ Δ (wNames K Wo D (outL C1 C2 C3)) f (.exc C2 (some m)) := fun G H σ S d hx => by
  obtain ⟨-, -, e1, -⟩ := ex_ab T
  obtain ⟨dd, rfl, hd⟩ := hx
  refine ⟨true, e1, fun _ a ha => ?_, (fun z => nomatch z)⟩
  have h1 : (σ.set 7 (some (V.ref a)))[7]? = some (some (.ref a)) := by
    rw [List.getElem?_set_self (by rw [S.len]; exact hl)]
  have hn : Nx C (Γ.set 7 .any) Δ (tAsg (tLst (tCons (tC (.str m)) tNil)) (gName 6) (endsGone D (some 7))) := nx_asgL (evl_lst (eva_cons ev_str eva_nil) (Nat.le_of_ble_eq_true rfl)) fun p => nx_gone (k p)
  have := hn G H _ (S.setAny (i := 7) (v := some (.ref a)))
  exact ⟨.ref a, h1, rfl, rfl, dd, _, .str m, rfl, hd, rfl, this⟩
end
end Kw

/-! text D23 -/
/-! _law_outcome -/
namespace Kw
open PySem PySem.Spec PyProof.Rows L2 PySem.Calls
abbrev Oq := (Fin 4 × Ask) ⊕ Sx
def Ask.w (a : Ask) : PyData := if a.1 then a.2.1.d else .tuple (a.2.1.l.take 8)
def Oq.l : Oq → List PyData
  | .inl (k, a) => [.int (k.val : Nat), a.w, a.2.2.1, a.2.2.2.1, a.2.2.2.2.1, if k = 0 then .int 0 else a.2.2.2.2.2]
  | .inr a => [.int 0, a.1.d, a.2.1.d, .int a.2.2.1, .int a.2.2.2.1, a.2.2.2.2.d]
def Oq.Ok (C1 C3 : Addr) : Oq → Prop
  | .inl (k, a) => (k = 0 → a.2.2.2.2.2 = .int 1) ∧ (k ≠ 3 → a.Ok ∧ Bad C1 C3 a) ∧ (k = 3 → a.2.1.Ok ∧ (a.1 = true → (whole a.2.2.1 (.int 0) (.int a.2.1.top) && bounds a.2.2.2.1 a.2.2.2.2.1 a.2.2.2.2.2) = false))
  | .inr a => a.Ok
noncomputable def Oq.r : Oq → Rs
  | .inl (k, a) => .dat (.str (if a.1 then "place" else "form"))
  | .inr a => dueR a
abbrev sp_law_outcome (C1 C3 : Addr) (P : Program) (w : World) (K : PySem.W.Frag) : Sp := ASp (α := Oq) P w K Oq.l (Oq.Ok C1 C3) fun a r => r = a.r
theorem bad_r {C1 C3 : Addr} {a : Ask} (h : Bad C1 C3 a) : a.r C1 C3 = leastR C1 C3 a := by
  obtain ⟨g, v, d, lo, hi, fl⟩ := a
  obtain ⟨c, m, e⟩ := h
  unfold Ask.r asked at e ⊢
  unfold leastR
  cases g with
  | false => rfl
  | true =>
    simp only [if_true] at e ⊢
    split at e
    · cases e
    · rw [if_neg ‹_›]
section
variable {P : Program} {w : World} {K : PySem.W.Frag} {mg : Str → Option Value} {base : Heap} {C1 C2 C3 : Addr}
theorem catch_l {C : Ct} {Γ : List SV} {Δ : Dl} {D : Ends} {Wo : WX} {f : V → L2.St → Hp → Prop} (a : Ask) (T : Tx P K mg C1 C2 C3) (hl : Γ.length = 8) (k : ∀ Γ' : List SV, Γ'[6]? = some (.dat (.str (if a.1 then "place" else "form"))) → Nx C Γ' Δ D.nx) : NxC C Γ Δ (wNames K Wo D (outL C1 C2 C3)) f (leastR C1 C3 a) := by
  unfold leastR
  cases ha : a.1 with
  | true =>
    rw [ha] at k
    exact catch3 T (k _ (by rw [List.getElem?_set_self (by omega)]; rfl))
  | false =>
    rw [ha] at k
    exact catch1 T (by omega) (k _ (by rw [List.getElem?_set_ne (by decide), List.getElem?_set_self (by rw [List.length_set]; omega)]; rfl))
theorem ok_law_outcome {f : Addr} {fd : FuncData} (T : Tx P K mg C1 C2 C3) (F : Fun K "_law_outcome" "_law_outcome" s__law_outcome f fd) (c_check_safe : Cl P w K mg base 7 "check_safe" (sp_check_safe C1 C2 C3 P w K)) (c_is_safe : Cl P w K mg base 7 "is_safe" (sp_is_safe C1 C3 P w K)) (c_safe_paper : Cl P w K mg base 7 "safe_paper" (sp_safe_paper C1 C3 P w K)) (c_least_number : Cl P w K mg base 7 "least_number" (sp_least C1 C3 P w K)) : FnG P w K mg base 8 f fd ["_law_way", "_law_well_here", "_law_state", "_law_low", "_law_high", "_law_more"] (sp_law_outcome C1 C3 P w K) := by
  refine body_g F sc__law_outcome (fun a => by rcases a with ⟨k, a⟩ | a <;> rfl) (fun cdv ar up z H Q E hgd hr => ⟨_, (pss_cons (ps_set (i := 6) sc__law_outcome.nd rfl (by first | exact Or.inl rfl | exact Or.inr rfl) pe_non) (pss_cons (ps_try_names rfl rfl sc__law_outcome.nd (takes_of rfl rfl rfl rfl) (fun W pn xe tkW _ => (pss_one (ps_if (pt_cmpR (gEq (P := P) (w := w) (K := K) ⟨rfl, rfl, rfl⟩ (hu65 hr)) (pv 0) pe_int (nomark _)) (pss_one (ps_set (i := 6) sc__law_outcome.nd rfl (by first | exact Or.inl rfl | exact Or.inr rfl) (gCl (P := P) (w := w) (K := K) ⟨rfl, rfl, rfl⟩ rfl rfl c_check_safe hr hgd (by rfl) tkW (pa_cons (pv 1) (pa_cons (pv 2) (pa_cons (pv 3) (pa_cons (pv 4) (pa_cons pe_int (pa_cons (pv 5) pa_nil))))))))) (pss_one (ps_if (pt_cmpR (gEq (P := P) (w := w) (K := K) ⟨rfl, rfl, rfl⟩ (hu65 hr)) (pv 0) pe_int (nomark _)) (pss_one (ps_expr (gCl (P := P) (w := w) (K := K) ⟨rfl, rfl, rfl⟩ rfl rfl c_is_safe hr hgd (by rfl) tkW (pa_cons (pv 1) (pa_cons (pv 2) (pa_cons (pv 3) (pa_cons (pv 4) (pa_cons (pv 5) pa_nil)))))))) (pss_one (ps_if (pt_cmpR (gEq (P := P) (w := w) (K := K) ⟨rfl, rfl, rfl⟩ (hu65 hr)) (pv 0) pe_int (nomark _)) (pss_one (ps_expr (gCl (P := P) (w := w) (K := K) ⟨rfl, rfl, rfl⟩ rfl rfl c_safe_paper hr hgd (by rfl) tkW (pa_cons (pv 1) (pa_cons (pv 2) (pa_cons (pv 3) (pa_cons (pv 4) (pa_cons (pv 5) pa_nil)))))))) (pss_one (ps_expr (gCl (P := P) (w := w) (K := K) ⟨rfl, rfl, rfl⟩ rfl rfl c_least_number hr hgd (by rfl) tkW (pa_cons (pv 1) (pa_cons (pv 2) (pa_cons (pv 3) (pa_cons (pv 4) (pa_cons (pv 5) pa_nil))))))))))))))) (HdsN.cons ⟨by rfl, by decide, Or.inl T.mx2⟩ (Or.inr ⟨"e", 7, rfl, rfl, rfl, by rfl⟩) (fun a oe cls d pn hz hf => (pss_one (ps_set (i := 6) sc__law_outcome.nd rfl (by first | exact Or.inl rfl | exact Or.inr rfl) (pe_lst (pa_cons (pe_xf T.xf2 T.xp2 hz hf (pv 7)) pa_nil))))) (HdsN.cons ⟨by rfl, by decide, Or.inl T.mx1⟩ (Or.inr ⟨"e", 7, rfl, rfl, rfl, by rfl⟩) (fun a oe cls d pn hz hf => (pss_one (ps_set (i := 6) sc__law_outcome.nd rfl (by first | exact Or.inl rfl | exact Or.inr rfl) (pe_xf T.xf1 T.xp1 hz hf (pv 7))))) (HdsN.cons ⟨by rfl, by decide, Or.inl T.mx3⟩ (Or.inl ⟨rfl, rfl⟩) (fun a oe cls d pn hz hf => (pss_one (ps_set (i := 6) sc__law_outcome.nd rfl (by first | exact Or.inl rfl | exact Or.inr rfl) pe_str))) HdsN.nil)))) (pss_one (ps_ret (pv 6))))), fun a hv hq => ?_⟩)
  replace hq : RsOk P w K H Q E a.r := hq _ rfl
  rcases a with ⟨k, a⟩ | a
  · obtain ⟨hk0, hbad, hk3⟩ := hv
    replace hq : RsOk P w K H Q E (.dat (.str (if a.1 then "place" else "form"))) := hq
    have fin : ∀ (D : Ends) (Γ' : List SV), D.rt = Q → Γ'[6]? = some (.dat (.str (if a.1 then "place" else "form"))) → Nx ⟨K, P, w, H⟩ Γ' [] (tRet (tVar 6) D) := fun D Γ' hD h => nx_ret (ev_var h) (rt_of hD hq)
    show Nx _ [.dat (.int (k.val : Nat)), .dat a.w, .dat a.2.2.1, .dat a.2.2.2.1, .dat a.2.2.2.2.1, .dat (if k = 0 then .int 0 else a.2.2.2.2.2), .any, .any] _ _
    refine nx_sq (nx_asg ev_non ?_)
    (try dsimp only [List.set, setAll])
    refine nx_sq ?_
    match k with
    | 0 =>
      obtain ⟨hok, hb⟩ := hbad (by decide)
      have h1 := hk0 rfl
      refine nx_ifT (evt_test (ev_eqD (ev_var rfl) ev_int rfl rfl)) (by rw [eqv_ints]; rfl) ?_
      refine nx_asgC (cl_call (α := Ask ⊕ Sx) (.inl a) (eva_cons (ev_var rfl) (eva_cons (ev_var rfl) (eva_cons (ev_var rfl) (eva_cons (ev_var rfl) (eva_cons (ev_int.to h1.symm) (eva_cons (ev_var rfl) eva_nil)))))) ⟨hok, hb⟩) fun r hr => ?_
      have hr' : r = a.r C1 C3 := hr
      rw [bad_r hb] at hr'
      subst hr'
      exact catch_l a T rfl fun Γ' h => fin _ Γ' rfl h
    | 1 =>
      obtain ⟨hok, hb⟩ := hbad (by decide)
      refine nx_ifF (evt_test (ev_eqD (ev_var rfl) ev_int rfl rfl)) (by rw [eqv_ints]; rfl) ?_
      refine nx_ifT (evt_test (ev_eqD (ev_var rfl) ev_int rfl rfl)) (by rw [eqv_ints]; rfl) ?_
      refine nx_dropC (cl_call (α := Ask) a (eva_cons (ev_var rfl) (eva_cons (ev_var rfl) (eva_cons (ev_var rfl) (eva_cons (ev_var rfl) (eva_cons (ev_var rfl) eva_nil))))) ⟨hok, hb⟩) fun r hr => ?_
      have hr' : r = a.r C1 C3 := hr
      rw [bad_r hb] at hr'
      subst hr'
      exact catch_l a T rfl fun Γ' h => fin _ Γ' rfl h
    | 2 =>
      obtain ⟨hok, hb⟩ := hbad (by decide)
      refine nx_ifF (evt_test (ev_eqD (ev_var rfl) ev_int rfl rfl)) (by rw [eqv_ints]; rfl) ?_
      refine nx_ifF (evt_test (ev_eqD (ev_var rfl) ev_int rfl rfl)) (by rw [eqv_ints]; rfl) ?_
      refine nx_ifT (evt_test (ev_eqD (ev_var rfl) ev_int rfl rfl)) (by rw [eqv_ints]; rfl) ?_
      refine nx_dropC (cl_call (α := Ask ⊕ Rc) (.inl a) (eva_cons (ev_var rfl) (eva_cons (ev_var rfl) (eva_cons (ev_var rfl) (eva_cons (ev_var rfl) (eva_cons (ev_var rfl) eva_nil))))) ⟨hok, hb⟩) fun r hr => ?_
      have hr' : r = a.r C1 C3 := hr
      rw [bad_r hb] at hr'
      subst hr'
      exact catch_l a T rfl fun Γ' h => fin _ Γ' rfl h
    | 3 =>
      have hb := hk3 rfl
      refine nx_ifF (evt_test (ev_eqD (ev_var rfl) ev_int rfl rfl)) (by rw [eqv_ints]; rfl) ?_
      refine nx_ifF (evt_test (ev_eqD (ev_var rfl) ev_int rfl rfl)) (by rw [eqv_ints]; rfl) ?_
      refine nx_ifF (evt_test (ev_eqD (ev_var rfl) ev_int rfl rfl)) (by rw [eqv_ints]; rfl) ?_
      refine nx_dropC (cl_call (α := Ask) a (eva_cons (ev_var rfl) (eva_cons (ev_var rfl) (eva_cons (ev_var rfl) (eva_cons (ev_var rfl) (eva_cons (ev_var rfl) eva_nil))))) hb) fun r hr => ?_
      have hr' : r = leastR C1 C3 a := hr
      subst hr'
      exact catch_l a T rfl fun Γ' h => fin _ Γ' rfl h
  · replace hq : RsOk P w K H Q E (dueR a) := hq
    show Nx _ [.dat (.int 0), .dat a.1.d, .dat a.2.1.d, .dat (.int a.2.2.1), .dat (.int a.2.2.2.1), .dat a.2.2.2.2.d, .any, .any] _ _
    refine nx_sq (nx_asg ev_non ?_)
    (try dsimp only [List.set, setAll])
    refine nx_sq ?_
    refine nx_ifT (evt_test (ev_eqD (ev_var rfl) ev_int rfl rfl)) (by rw [eqv_ints]; rfl) ?_
    refine nx_asgC (cl_call (α := Ask ⊕ Sx) (.inr a) (eva_cons (ev_var rfl) (eva_cons (ev_var rfl) (eva_cons (ev_var rfl) (eva_cons (ev_var rfl) (eva_cons ev_int (eva_cons (ev_var rfl) eva_nil)))))) hv) fun r hr => ?_
    have hr' : r = a.r C2 := hr
    subst hr'
    obtain ⟨v, s, lo, hi, sh⟩ := a
    cases sh with
    | odd d => exact catch2 T (by simp) fun p => nx_retM (k := 0) (evm_var rfl) rfl (rtL_of (E := E) rfl hq)
    | one o => exact catch2 T (by simp) fun p => nx_retM (k := 0) (evm_var rfl) rfl (rtL_of (E := E) rfl hq)
    | two o b =>
      cases hg : Sx.good (v, s, lo, hi, .two o b) with
      | true =>
        have e1 : Sx.r C2 (v, s, lo, hi, .two o b) = .dat (.str (wordS o)) := if_pos hg
        have e2 : dueR (v, s, lo, hi, .two o b) = .dat (.str (wordS o)) := if_pos hg
        rw [e1]
        rw [e2] at hq
        refine nxc_dat rfl ?_
        exact nx_ret (ev_var rfl) (rt_of rfl hq)
      | false =>
        have hg' : ¬ Sx.good (v, s, lo, hi, .two o b) = true := by rw [hg]; exact fun z => nomatch z
        have e1 : Sx.r C2 (v, s, lo, hi, .two o b) = .exc C2 (some (wordS o)) := if_neg hg'
        have e2 : dueR (v, s, lo, hi, .two o b) = .lst [.str (wordS o)] := if_neg hg'
        rw [e1]
        rw [e2] at hq
        exact catch2 T (by simp) fun p => nx_retM (k := 0) (evm_var rfl) rfl (rtL_of (E := E) rfl hq)
end
end Kw

/-! text D24 -/
/-! _law_refused_right -/
namespace Kw
open PySem PySem.Spec PyProof.Rows L2 PySem.Calls
abbrev s__law_refused_right : Stmt := top 68
theorem sc__law_refused_right : FnScope ["_law_well_here", "_law_state", "_law_level", "_law_odd", "_law_low", "_law_high", "_law_way"] ["_law_well_here", "_law_state"] (defScope s__law_refused_right) := ⟨rfl, rfl, rfl, by decide +kernel, rfl, by decide +kernel, by decide +kernel⟩
theorem few_none (v : Wl) (a b c e : PyData) : isFew v (.tuple [a, b, c, e, .none]) = false := by
  unfold isFew
  simp
theorem few_four (v : Wl) (a b c e : PyData) : isFew v (.tuple [a, b, c, e]) = false := rfl
theorem few_list (v : Wl) (l : List PyData) : isFew v (.list l) = false := rfl
theorem few_13 {v : Wl} {s : S} (hs : s.Ok v) (a b : PyData) : isFew v (.tuple [a, b, intsD s.on, intsD s.off, .int 13]) = false := by
  have h1 : 0 ≤ s.on.sum := sum_nonneg fun x hx => hs.on.2 x hx
  have h2 : 0 ≤ s.off.sum := sum_nonneg fun x hx => hs.off.2 x hx
  have : ¬ (s.on.sum + s.off.sum + 13 ≤ 12) := by omega
  show (isState v _ && decide (((s.on.map PyData.int).map _).sum + ((s.off.map PyData.int).map _).sum + 13 ≤ 12)) = false
  rw [sum_ints, sum_ints, decide_eq_false this, Bool.and_false]
theorem few_neg (v : Wl) (b c e f : PyData) : isFew v (.tuple [.int (-1), b, c, e, f]) = false := by
  unfold isFew isState tail5
  simp [whole_int]
theorem rep_shaped (n : Nat) (x : Str) (hx : PyData.strOk x = true) : SeqAt.shaped (.list (List.replicate n (.str x))) = true := list_shaped fun d hd => by
  obtain rfl := List.eq_of_mem_replicate hd
  exact ⟨by simp [PyData.canLay0, hx], by simp [PyData.depth]⟩
theorem rep_eqv (n : Nat) (x : Str) : PyData.eqvAll (List.replicate n (.str x)) (List.replicate n (.str x)) = true := by
  induction n with
  | zero => rfl
  | succ n ih => rw [List.replicate_succ]; simp [PyData.eqvAll, str_eq, ih]
section
variable {P : Program} {w : World} {K : PySem.W.Frag} {mg : Str → Option Value} {base : Heap} {C1 C2 C3 : Addr}
theorem ref_ne {C : Ct} {Γ : List SV} {Δ : Dl} {tl : TE} {n : Nat} {x : Str} (hx : PyData.strOk x = true) (hn : n ≤ 1000) (h : EVL C Γ Δ tl (List.replicate n (.str x))) : EVT C Γ Δ (tTest (tOp (rNeD C.K) tl (tOp (uMul C.K) (tLst (tCons (tC (.str x)) tNil)) (tC (.int (n : Nat)))))) false := by
  have e : (List.replicate ((n : Int)).toNat [PyData.str x]).flatten = List.replicate n (.str x) := by simp
  have h2 : EVL C Γ Δ (tOp (uMul C.K) (tLst (tCons (tC (.str x)) tNil)) (tC (.int (n : Nat)))) (List.replicate n (.str x)) := by
    rw [← e]
    exact l_rep (evl_lst (eva_cons ev_str eva_nil) (Nat.le_of_ble_eq_true rfl)) (fun p => ev_int) (by omega) (Nat.le_of_ble_eq_true rfl)
  have h3 := evt_test (ev_neD (evl_ev h) (evl_ev h2) (rep_shaped n x hx) (rep_shaped n x hx))
  have e3 : PyData.eqv (.list (List.replicate n (.str x))) (.list (List.replicate n (.str x))) = true := by rw [PyData.eqv]; exact rep_eqv n x
  rw [e3] at h3
  exact h3
theorem eca_ref {C : Ct} {Γ : List SV} {Δ : Dl} {W : WX} {t0 t1 t2 t3 t4 t5 : TE} {k : Fin 4} {a : Ask} (h : Oq.Ok C1 C3 (.inl (k, a))) (h0 : EV C Γ Δ t0 (.int (k.val : Nat))) (h1 : EV C Γ Δ t1 a.w) (h2 : EV C Γ Δ t2 a.2.2.1) (h3 : EV C Γ Δ t3 a.2.2.2.1) (h4 : EV C Γ Δ t4 a.2.2.2.2.1) (h5 : EV C Γ Δ t5 (if k = 0 then .int 0 else a.2.2.2.2.2)) :
    EV C Γ Δ (tCallS (sp_law_outcome C1 C3 C.P C.w C.K) (WE W) (tCons t0 (tCons t1 (tCons t2 (tCons t3 (tCons t4 (tCons t5 tNil))))))) (.str (if a.1 then "place" else "form")) :=
  ev_cl (cl_call (α := Oq) (.inl (k, a)) (eva_cons h0 (eva_cons h1 (eva_cons h2 (eva_cons h3 (eva_cons h4 (eva_cons h5 eva_nil)))))) h) (fun r h => h) rfl
end
end Kw

/-! text D25 -/
/-! _law_refused_right: the walk -/
namespace Kw
open PySem PySem.Spec PyProof.Rows L2 PySem.Calls
abbrev sp_refused (P : Program) (w : World) (K : PySem.W.Frag) : Sp := ASp (α := Wl × S) P w K (fun a => [a.1.d, a.2.d]) (fun a => a.1.Ok ∧ a.2.Ok a.1) fun a r => r = .dat (.bool true)
section
variable {P : Program} {w : World} {K : PySem.W.Frag} {mg : Str → Option Value} {base : Heap} {C1 C2 C3 : Addr}
theorem oq3 {v : Wl} {k : Fin 4} {d lo hi fl : PyData} (hk : k ≠ 3) (hk0 : k = 0 → fl = .int 1) (hv : v.Ok) (h5 : sm5 d) (h : (isFew v d && bounds lo hi fl) = false) : Oq.Ok C1 C3 (.inl (k, (true, v, d, lo, hi, fl))) :=
  ⟨hk0, fun _ => ⟨⟨hv, h5⟩, C3, none, by
    show asked C1 C3 true v d lo hi fl = _
    unfold asked
    rw [if_pos rfl, h]
    rfl⟩, fun z => absurd z hk⟩
theorem oqF {v : Wl} {k : Fin 4} {d lo hi fl : PyData} (hk0 : k = 0 → fl = .int 1) (hv : v.Ok) (h5 : sm5 d) : Oq.Ok C1 C3 (.inl (k, (false, v, d, lo, hi, fl))) :=
  ⟨hk0, fun _ => ⟨⟨hv, h5⟩, C1, some "form", rfl⟩, fun _ => ⟨hv, fun z => nomatch z⟩⟩
theorem oq4 {v : Wl} {d lo hi fl : PyData} (hv : v.Ok) (h : (whole d (.int 0) (.int v.top) && bounds lo hi fl) = false) : Oq.Ok C1 C3 (.inl ((3 : Fin 4), (true, v, d, lo, hi, fl))) :=
  ⟨fun z => absurd z (by decide), fun z => absurd rfl z, fun _ => ⟨hv, fun _ => h⟩⟩
/-- a row of refusals: for way in range(n), the last argument 0 -/
theorem row_ref {C : Ct} {Γ : List SV} {Δ : Dl} {t1 t2 t3 t4 : TE} {W : WX} {g : Bool} {v : Wl} {d lo hi : PyData} {n : Nat} (hn : n ≤ 4) (hok : ∀ k : Fin 4, k.val < n → Oq.Ok C1 C3 (.inl (k, (g, v, d, lo, hi, if k = 0 then .int 1 else .int 0))))
    (hi6 : 6 < Γ.length)
    (h : ∀ Δ' x, EV C ((wipeS Γ [6]).set 6 x) Δ' t1 (Ask.w (g, v, d, lo, hi, .none)) ∧ EV C ((wipeS Γ [6]).set 6 x) Δ' t2 d ∧ EV C ((wipeS Γ [6]).set 6 x) Δ' t3 lo ∧ EV C ((wipeS Γ [6]).set 6 x) Δ' t4 hi) :
    EVL C Γ Δ (tLc (iRng1 (tCons (tC (.int (n : Nat))) tNil)) (gName 6) tYes (tCallS (sp_law_outcome C1 C3 C.P C.w C.K) (WE W) (tCons (tVar 6) (tCons t1 (tCons t2 (tCons t3 (tCons t4 (tCons (tC (.int 0)) tNil))))))) [6]) (List.replicate n (.str (if g then "place" else "form"))) := by
  have e : (rngD 0 ((n : Int)).toNat).map (fun _ => PyData.str (if g then "place" else "form")) = List.replicate n (.str (if g then "place" else "form")) := by
    rw [List.map_const']
    simp [rngD]
  rw [← e]
  refine evl_map (fun _ => .str (if g then "place" else "form")) (wd_rng1 (eva_cons ev_int eva_nil) (by omega)) (by simp [rngD]; omega) fun D hs acc dd hd => ?_
  obtain ⟨i, hi', rfl⟩ := List.mem_map.mp hd
  rw [List.mem_range] at hi'
  have hi4 : i < n := by omega
  refine ⟨[6], _, tg_name, by decide, ?_⟩
  obtain ⟨a1, a2, a3, a4⟩ := h ((D, .ml acc) :: (Δ ++ hs)) (.dat (.int (0 + (i : Int))))
  refine eca_ref (k := ⟨i, by omega⟩) (a := (g, v, d, lo, hi, if (⟨i, by omega⟩ : Fin 4) = 0 then .int 1 else .int 0)) (hok ⟨i, by omega⟩ hi4) ((ev_var (d := .int (0 + (i : Int))) ?_).to (by simp)) a1 a2 a3 a4 (ev_int.to ?_)
  · rw [List.getElem?_set_self (by simpa [wipeS] using hi6)]
  · split
    · rfl
    · rfl
end
end Kw

/-! text D26 -/
/-! _law_refused_right: the walk -/
namespace Kw
open PySem PySem.Spec PyProof.Rows L2 PySem.Calls
def oddS (s : S) : List PyData := [.none, .tuple [.int s.lev, intsD s.past, intsD s.on, intsD s.off], .tuple [.int s.lev, intsD s.past, intsD s.on, intsD s.off, .none], .tuple [.int s.lev, intsD s.past, intsD s.on, intsD s.off, .int 13], .tuple [.int (-1), intsD s.past, intsD s.on, intsD s.off, .int s.ready], .list s.l]
def oddB : List PyData := [.tuple [.int (-1), .int 0], .tuple [.int 1, .int 0], .tuple [.int 0, .int 301], .tuple [.none, .int 0], .tuple [.int 0, .bool true]]
def oddF : List PyData := [.int (-1), .int 5, .none, .bool true, .str "0"]
theorem oddS_bad {v : Wl} {s : S} (hv : v.Ok) (hs : s.Ok v) : ∀ d ∈ oddS s, isFew v d = false ∧ sm5 d := by
  have h5 := sm5_S hv hs
  intro d hd
  simp only [oddS, List.mem_cons, List.not_mem_nil, or_false] at hd
  have hm : ∀ x ∈ s.l, sm x := h5.2
  simp only [S.l, List.mem_cons, List.not_mem_nil, or_false, forall_eq_or_imp, forall_eq] at hm
  obtain ⟨m1, m2, m3, m4, m5⟩ := hm
  rcases hd with rfl | rfl | rfl | rfl | rfl | rfl
  · exact ⟨rfl, trivial⟩
  · exact ⟨few_four _ _ _ _ _, by simp, by
      intro x hx
      simp only [List.mem_cons, List.not_mem_nil, or_false] at hx
      rcases hx with rfl | rfl | rfl | rfl <;> first | exact m2 | exact m3 | exact m4 | exact trivial⟩
  · exact ⟨few_none _ _ _ _ _, by simp, by
      intro x hx
      simp only [List.mem_cons, List.not_mem_nil, or_false] at hx
      rcases hx with rfl | rfl | rfl | rfl | rfl <;> first | exact m2 | exact m3 | exact m4 | exact trivial⟩
  · exact ⟨few_13 hs _ _, by simp, by
      intro x hx
      simp only [List.mem_cons, List.not_mem_nil, or_false] at hx
      rcases hx with rfl | rfl | rfl | rfl | rfl <;> first | exact m2 | exact m3 | exact m4 | exact trivial⟩
  · exact ⟨few_neg _ _ _ _ _, by simp, by
      intro x hx
      simp only [List.mem_cons, List.not_mem_nil, or_false] at hx
      rcases hx with rfl | rfl | rfl | rfl | rfl <;> first | exact m2 | exact m3 | exact m4 | exact trivial⟩
  · exact ⟨few_list _ _, trivial⟩
theorem oddB_bad (fl : PyData) : ∀ d ∈ oddB, ∃ lo hi, d = .tuple [lo, hi] ∧ bounds lo hi fl = false := by
  intro d hd
  simp only [oddB, List.mem_cons, List.not_mem_nil, or_false] at hd
  rcases hd with rfl | rfl | rfl | rfl | rfl
  all_goals exact ⟨_, _, rfl, rfl⟩
theorem oddF_bad : ∀ d ∈ oddF, bounds (.int 0) (.int 0) d = false := by
  intro d hd
  simp only [oddF, List.mem_cons, List.not_mem_nil, or_false] at hd
  rcases hd with rfl | rfl | rfl | rfl | rfl
  all_goals rfl
theorem place_shaped : SeqAt.shaped (.str "place") = true := str_shaped _ (by decide +kernel)
section
variable {P : Program} {w : World} {K : PySem.W.Frag} {mg : Str → Option Value} {base : Heap} {C1 C2 C3 : Addr}
theorem ok_law_refused_right {f : Addr} {fd : FuncData} (T : Tx P K mg C1 C2 C3) (F : Fun K "_law_refused_right" "_law_refused_right" s__law_refused_right f fd) (c__law_outcome : Cl P w K mg base 8 "_law_outcome" (sp_law_outcome C1 C3 P w K)) : FnG P w K mg base 9 f fd ["_law_well_here", "_law_state"] (sp_refused P w K) := by
  refine body_g F sc__law_refused_right (fun a => rfl) (fun cdv ar up z H Q E hgd hr => ⟨_, (pss_cons (ps_set (i := 2) sc__law_refused_right.nd rfl (by first | exact Or.inl rfl | exact Or.inr rfl) (pe_ix (gIx (P := P) (w := w) (K := K) ⟨rfl, rfl, rfl⟩ (hu65 hr)) (pv 1) pe_int (fun _ _ => rfl))) (pss_cons (ps_if (pt_cmpR (gNe (P := P) (w := w) (K := K) ⟨rfl, rfl, rfl⟩ (hu65 hr)) (pe_lc (own := [("_law_way", 6)]) rfl sc__law_refused_right.nd (pi_range1 (by rfl) T.b_range (pa_cons pe_int pa_nil)) (blkOk_by (N := ["_law_well_here", "_law_state", "_law_level", "_law_odd", "_law_low", "_law_high", "_law_way"]) (sc := defScope s__law_refused_right) (by decide +kernel)) (fun _ _ _ _ _ => (pg_name (i := 6) sc__law_refused_right.nd rfl (by first | exact Or.inl rfl | exact Or.inr rfl))) (fun _ _ _ _ _ => pts_nil) (fun _ _ _ _ _ => (gCl (P := P) (w := w) (K := K) ⟨rfl, rfl, rfl⟩ rfl rfl c__law_outcome hr hgd (by rfl) takesF (pa_cons (pv 6) (pa_cons (pe_slice (gSl (P := P) (w := w) (K := K) ⟨rfl, rfl, rfl⟩) (pv 0) po_none (po_some pe_int)) (pa_cons (pv 1) (pa_cons pe_int (pa_cons pe_int (pa_cons pe_int pa_nil))))))))) (pe_op (gMul (P := P) (w := w) (K := K) ⟨rfl, rfl, rfl⟩) (pe_lst (pa_cons pe_str pa_nil)) pe_int) (nomark _)) (pss_one (ps_ret pe_bl)) pss_nil) (pss_cons (ps_for (passes_of rfl) rfl (gIt (P := P) (w := w) (K := K) ⟨rfl, rfl, rfl⟩ (pe_lst (pa_cons pe_non (pa_cons (pe_slice (gSl (P := P) (w := w) (K := K) ⟨rfl, rfl, rfl⟩) (pv 1) po_none (po_some pe_int)) (pa_cons (pe_op (gAdd (P := P) (w := w) (K := K) ⟨rfl, rfl, rfl⟩) (pe_slice (gSl (P := P) (w := w) (K := K) ⟨rfl, rfl, rfl⟩) (pv 1) po_none (po_some pe_int)) (pe_tup (pa_cons pe_non pa_nil))) (pa_cons (pe_op (gAdd (P := P) (w := w) (K := K) ⟨rfl, rfl, rfl⟩) (pe_slice (gSl (P := P) (w := w) (K := K) ⟨rfl, rfl, rfl⟩) (pv 1) po_none (po_some pe_int)) (pe_tup (pa_cons pe_int pa_nil))) (pa_cons (pe_op (gAdd (P := P) (w := w) (K := K) ⟨rfl, rfl, rfl⟩) (pe_tup (pa_cons (pe_un un_neg pe_int) pa_nil)) (pe_slice (gSl (P := P) (w := w) (K := K) ⟨rfl, rfl, rfl⟩) (pv 1) (po_some pe_int) po_none)) (pa_cons (pe_callTy (gLst (P := P) (w := w) (K := K) ⟨rfl, rfl, rfl⟩ rfl) (by rfl) T.b_list boot_k_list (pa_cons (pv 1) pa_nil)) pa_nil)))))))) (pg_name (i := 3) sc__law_refused_right.nd rfl (by first | exact Or.inl rfl | exact Or.inr rfl)) (pss_one (ps_if (pt_cmpR (gNe (P := P) (w := w) (K := K) ⟨rfl, rfl, rfl⟩ (hu65 hr)) (pe_lc (own := [("_law_way", 6)]) rfl sc__law_refused_right.nd (pi_range1 (by rfl) T.b_range (pa_cons pe_int pa_nil)) (blkOk_by (N := ["_law_well_here", "_law_state", "_law_level", "_law_odd", "_law_low", "_law_high", "_law_way"]) (sc := defScope s__law_refused_right) (by decide +kernel)) (fun _ _ _ _ _ => (pg_name (i := 6) sc__law_refused_right.nd rfl (by first | exact Or.inl rfl | exact Or.inr rfl))) (fun _ _ _ _ _ => pts_nil) (fun _ _ _ _ _ => (gCl (P := P) (w := w) (K := K) ⟨rfl, rfl, rfl⟩ rfl rfl c__law_outcome hr hgd (by rfl) takesF (pa_cons (pv 6) (pa_cons (pv 0) (pa_cons (pv 3) (pa_cons pe_int (pa_cons pe_int (pa_cons pe_int pa_nil))))))))) (pe_op (gMul (P := P) (w := w) (K := K) ⟨rfl, rfl, rfl⟩) (pe_lst (pa_cons pe_str pa_nil)) pe_int) (nomark _)) (pss_one (ps_ret pe_bl)) pss_nil))) (pss_cons (ps_for (passes_of rfl) rfl (gIt (P := P) (w := w) (K := K) ⟨rfl, rfl, rfl⟩ (pe_lst (pa_cons (pe_tup (pa_cons (pe_un un_neg pe_int) (pa_cons pe_int pa_nil))) (pa_cons (pe_tup (pa_cons pe_int (pa_cons pe_int pa_nil))) (pa_cons (pe_tup (pa_cons pe_int (pa_cons pe_int pa_nil))) (pa_cons (pe_tup (pa_cons pe_non (pa_cons pe_int pa_nil))) (pa_cons (pe_tup (pa_cons pe_int (pa_cons pe_bl pa_nil))) pa_nil))))))) (gTupT (n := 2) (P := P) (w := w) (K := K) ⟨rfl, rfl, rfl⟩ rfl (pgs_cons (pg_name (i := 4) sc__law_refused_right.nd rfl (by first | exact Or.inl rfl | exact Or.inr rfl)) (pgs_cons (pg_name (i := 5) sc__law_refused_right.nd rfl (by first | exact Or.inl rfl | exact Or.inr rfl)) pgs_nil)) rfl rfl) (pss_cons (ps_if (pt_cmpR (gNe (P := P) (w := w) (K := K) ⟨rfl, rfl, rfl⟩ (hu65 hr)) (pe_lc (own := [("_law_way", 6)]) rfl sc__law_refused_right.nd (pi_range1 (by rfl) T.b_range (pa_cons pe_int pa_nil)) (blkOk_by (N := ["_law_well_here", "_law_state", "_law_level", "_law_odd", "_law_low", "_law_high", "_law_way"]) (sc := defScope s__law_refused_right) (by decide +kernel)) (fun _ _ _ _ _ => (pg_name (i := 6) sc__law_refused_right.nd rfl (by first | exact Or.inl rfl | exact Or.inr rfl))) (fun _ _ _ _ _ => pts_nil) (fun _ _ _ _ _ => (gCl (P := P) (w := w) (K := K) ⟨rfl, rfl, rfl⟩ rfl rfl c__law_outcome hr hgd (by rfl) takesF (pa_cons (pv 6) (pa_cons (pv 0) (pa_cons (pv 1) (pa_cons (pv 4) (pa_cons (pv 5) (pa_cons pe_int pa_nil))))))))) (pe_op (gMul (P := P) (w := w) (K := K) ⟨rfl, rfl, rfl⟩) (pe_lst (pa_cons pe_str pa_nil)) pe_int) (nomark _)) (pss_one (ps_ret pe_bl)) pss_nil) (pss_one (ps_if (pt_cmpR (gNe (P := P) (w := w) (K := K) ⟨rfl, rfl, rfl⟩ (hu65 hr)) (gCl (P := P) (w := w) (K := K) ⟨rfl, rfl, rfl⟩ rfl rfl c__law_outcome hr hgd (by rfl) takesF (pa_cons pe_int (pa_cons (pv 0) (pa_cons (pv 2) (pa_cons (pv 4) (pa_cons (pv 5) (pa_cons pe_int pa_nil))))))) pe_str (nomark _)) (pss_one (ps_ret pe_bl)) pss_nil)))) (pss_cons (ps_for (passes_of rfl) rfl (gIt (P := P) (w := w) (K := K) ⟨rfl, rfl, rfl⟩ (pe_lst (pa_cons (pe_un un_neg pe_int) (pa_cons pe_int (pa_cons pe_non (pa_cons pe_bl (pa_cons pe_str pa_nil))))))) (pg_name (i := 3) sc__law_refused_right.nd rfl (by first | exact Or.inl rfl | exact Or.inr rfl)) (pss_cons (ps_if (pt_cmpR (gNe (P := P) (w := w) (K := K) ⟨rfl, rfl, rfl⟩ (hu65 hr)) (pe_lc (own := [("_law_way", 6)]) rfl sc__law_refused_right.nd (gIt (P := P) (w := w) (K := K) ⟨rfl, rfl, rfl⟩ (pe_tup (pa_cons pe_int (pa_cons pe_int pa_nil)))) (blkOk_by (N := ["_law_well_here", "_law_state", "_law_level", "_law_odd", "_law_low", "_law_high", "_law_way"]) (sc := defScope s__law_refused_right) (by decide +kernel)) (fun _ _ _ _ _ => (pg_name (i := 6) sc__law_refused_right.nd rfl (by first | exact Or.inl rfl | exact Or.inr rfl))) (fun _ _ _ _ _ => pts_nil) (fun _ _ _ _ _ => (gCl (P := P) (w := w) (K := K) ⟨rfl, rfl, rfl⟩ rfl rfl c__law_outcome hr hgd (by rfl) takesF (pa_cons (pv 6) (pa_cons (pv 0) (pa_cons (pv 1) (pa_cons pe_int (pa_cons pe_int (pa_cons (pv 3) pa_nil))))))))) (pe_op (gMul (P := P) (w := w) (K := K) ⟨rfl, rfl, rfl⟩) (pe_lst (pa_cons pe_str pa_nil)) pe_int) (nomark _)) (pss_one (ps_ret pe_bl)) pss_nil) (pss_one (ps_if (pt_cmpR (gNe (P := P) (w := w) (K := K) ⟨rfl, rfl, rfl⟩ (hu65 hr)) (gCl (P := P) (w := w) (K := K) ⟨rfl, rfl, rfl⟩ rfl rfl c__law_outcome hr hgd (by rfl) takesF (pa_cons pe_int (pa_cons (pv 0) (pa_cons (pv 2) (pa_cons pe_int (pa_cons pe_int (pa_cons (pv 3) pa_nil))))))) pe_str (nomark _)) (pss_one (ps_ret pe_bl)) pss_nil)))) (pss_one (ps_ret (pe_cmpR (gEq (P := P) (w := w) (K := K) ⟨rfl, rfl, rfl⟩ (hu65 hr)) (pe_lc (own := [("_law_odd", 3)]) rfl sc__law_refused_right.nd (gIt (P := P) (w := w) (K := K) ⟨rfl, rfl, rfl⟩ (pe_tup (pa_cons pe_non (pa_cons (pe_un un_neg pe_int) (pa_cons (pe_op (gAdd (P := P) (w := w) (K := K) ⟨rfl, rfl, rfl⟩) (pe_ix (gIx (P := P) (w := w) (K := K) ⟨rfl, rfl, rfl⟩ (hu65 hr)) (pv 0) pe_int (fun _ _ => rfl)) pe_int) (pa_cons pe_bl pa_nil)))))) (blkOk_by (N := ["_law_well_here", "_law_state", "_law_level", "_law_odd", "_law_low", "_law_high", "_law_way"]) (sc := defScope s__law_refused_right) (by decide +kernel)) (fun _ _ _ _ _ => (pg_name (i := 3) sc__law_refused_right.nd rfl (by first | exact Or.inl rfl | exact Or.inr rfl))) (fun _ _ _ _ _ => pts_nil) (fun _ _ _ _ _ => (gCl (P := P) (w := w) (K := K) ⟨rfl, rfl, rfl⟩ rfl rfl c__law_outcome hr hgd (by rfl) takesF (pa_cons pe_int (pa_cons (pv 0) (pa_cons (pv 3) (pa_cons pe_int (pa_cons pe_int (pa_cons pe_int pa_nil))))))))) (pe_op (gMul (P := P) (w := w) (K := K) ⟨rfl, rfl, rfl⟩) (pe_lst (pa_cons pe_str pa_nil)) pe_int) (nomark _))))))))), fun a hv hq => ?_⟩)
  obtain ⟨v, s⟩ := a
  replace hq : RsOk P w K H Q E (.dat (.bool true)) := hq _ rfl
  obtain ⟨hv, hs⟩ : v.Ok ∧ s.Ok v := hv
  have h5 := sm5_S hv hs
  show Nx _ [.dat v.d, .dat s.d, .any, .any, .any, .any, .any] _ _
  refine nx_sq (nx_asg (d := .int s.lev) (x_ix (ev_var rfl) ev_int rfl) ?_)
  (try dsimp only [List.set, setAll])
  refine nx_sq ?_
  refine nx_ifF (ref_ne (n := 4) (by decide +kernel) (by decide) (row_ref (g := false) (v := v) (n := 4) (by decide) (fun k _ => oqF (fun h => by rw [if_pos h]) hv h5) (by simp) fun Δ' x => ⟨?_, ev_var rfl, ev_int, ev_int⟩)) rfl (nx_nx ?_)
  · exact x_sl (da := v.d) (lo := none) (hi := some 8) (ev_var rfl) evo_none (evo_some ev_int) rfl
  (try dsimp only [List.set, setAll])
  refine nx_sq ?_
  refine nx_for (ds := oddS s) (w_list (evl_ev (evl_lst (eva_cons ev_non (eva_cons (x_sl (da := s.d) (lo := none) (hi := some 4) (ev_var rfl) evo_none (evo_some ev_int) rfl) (eva_cons (x_add (da := .tuple [.int s.lev, intsD s.past, intsD s.on, intsD s.off]) (db := .tuple [.none]) (x_sl (da := s.d) (lo := none) (hi := some 4) (ev_var rfl) evo_none (evo_some ev_int) rfl) (ev_tup (eva_cons ev_non eva_nil) (Nat.le_of_ble_eq_true rfl)) rfl ?_)
    (eva_cons (x_add (da := .tuple [.int s.lev, intsD s.past, intsD s.on, intsD s.off]) (db := .tuple [.int 13]) (x_sl (da := s.d) (lo := none) (hi := some 4) (ev_var rfl) evo_none (evo_some ev_int) rfl) (ev_tup (eva_cons ev_int eva_nil) (Nat.le_of_ble_eq_true rfl)) rfl ?_)
    (eva_cons (x_add (da := .tuple [.int (-1)]) (db := .tuple [intsD s.past, intsD s.on, intsD s.off, .int s.ready]) (ev_tup (eva_cons (ev_neg ev_int) eva_nil) (Nat.le_of_ble_eq_true rfl)) (x_sl (da := s.d) (lo := some 1) (hi := none) (ev_var rfl) (evo_some ev_int) evo_none rfl) rfl ?_)
    (eva_cons (evl_ev (l_list (ev_var rfl))) eva_nil)))))) (Nat.le_of_ble_eq_true rfl)))) (fun i Γ Δ => ∃ a : SV, Γ = [.dat v.d, .dat s.d, .dat (.int s.lev), a, .any, .any, .any] ∧ Δ = []) ⟨_, rfl, rfl⟩ ?_ ?_
  · exact Nat.le_of_ble_eq_true rfl
  · exact Nat.le_of_ble_eq_true rfl
  · exact Nat.le_of_ble_eq_true rfl
  · rintro hs' i d Γ Δ hd ⟨a, rfl, rfl⟩
    obtain ⟨hf, hd5⟩ := oddS_bad hv hs d (List.mem_of_getElem? hd)
    refine ⟨[3], _, tg_name, ?_⟩
    (try dsimp only [List.set, setAll])
    refine nx_ifF (ref_ne (n := 3) (by decide +kernel) (by decide) (row_ref (g := true) (v := v) (d := d) (lo := .int 0) (hi := .int 0) (n := 3) (by decide) (fun k hk => oq3 (fun z => by rw [z] at hk; exact absurd hk (by decide)) (fun h => by rw [if_pos h]) hv hd5 (by rw [hf]; rfl)) (by simp) fun Δ' x => ⟨ev_var rfl, ev_var rfl, ev_int, ev_int⟩)) rfl (nx_nx ?_)
    (try dsimp only [List.set, setAll])
    exact nx_li ⟨_, rfl, rfl⟩
  rintro Γ Δ ⟨a, rfl, rfl⟩
  (try dsimp only [List.set, setAll])
  refine nx_sq ?_
  refine nx_for (ds := oddB) (w_list (evl_ev (evl_lst ?_ (Nat.le_of_ble_eq_true rfl)))) (fun i Γ Δ => ∃ a b c : SV, Γ = [.dat v.d, .dat s.d, .dat (.int s.lev), a, b, c, .any] ∧ Δ = []) ⟨_, _, _, rfl, rfl⟩ ?_ ?_
  · exact eva_cons (ev_tup (eva_cons (ev_neg ev_int) (eva_cons ev_int eva_nil)) (Nat.le_of_ble_eq_true rfl)) (eva_cons (ev_tup (eva_cons ev_int (eva_cons ev_int eva_nil)) (Nat.le_of_ble_eq_true rfl)) (eva_cons (ev_tup (eva_cons ev_int (eva_cons ev_int eva_nil)) (Nat.le_of_ble_eq_true rfl)) (eva_cons (ev_tup (eva_cons ev_non (eva_cons ev_int eva_nil)) (Nat.le_of_ble_eq_true rfl)) (eva_cons (ev_tup (eva_cons ev_int (eva_cons ev_bl eva_nil)) (Nat.le_of_ble_eq_true rfl)) eva_nil))))
  · rintro hs' i d Γ Δ hd ⟨a, b, c, rfl, rfl⟩
    have hb := fun fl => oddB_bad fl d (List.mem_of_getElem? hd)
    obtain ⟨lo, hi, rfl, -⟩ := hb .none
    have hb' : ∀ fl, bounds lo hi fl = false := fun fl => by
      obtain ⟨lo', hi', e, h⟩ := hb fl
      cases e
      exact h
    refine ⟨[4, 5], _, tg_tup rfl rfl, ?_⟩
    (try dsimp only [List.set, setAll])
    refine nx_sq ?_
    refine nx_ifF (ref_ne (n := 3) (by decide +kernel) (by decide) (row_ref (g := true) (v := v) (d := s.d) (lo := lo) (hi := hi) (n := 3) (by decide) (fun k hk => oq3 (fun z => by rw [z] at hk; exact absurd hk (by decide)) (fun h => by rw [if_pos h]) hv h5 (by rw [hb', Bool.and_false])) (by simp) fun Δ' x => ⟨ev_var rfl, ev_var rfl, ev_var rfl, ev_var rfl⟩)) rfl (nx_nx ?_)
    (try dsimp only [List.set, setAll])
    refine nx_ifF (evt_test (ev_neD (eca_ref (C1 := C1) (C3 := C3) (k := 3) (a := (true, v, .int s.lev, lo, hi, .int 0)) (oq4 hv (by rw [hb', Bool.and_false])) ev_int (ev_var rfl) (ev_var rfl) (ev_var rfl) (ev_var rfl) ev_int) ev_str place_shaped place_shaped)) (by show (!PyData.eqv (.str "place") (.str "place")) = false; rw [str_eq]; rfl) (nx_nx ?_)
    (try dsimp only [List.set, setAll])
    exact nx_li ⟨_, _, _, rfl, rfl⟩
  rintro Γ Δ ⟨a, b, c, rfl, rfl⟩
  (try dsimp only [List.set, setAll])
  refine nx_sq ?_
  refine nx_for (ds := oddF) (w_list (evl_ev (evl_lst (eva_cons (ev_neg ev_int) (eva_cons ev_int (eva_cons ev_non (eva_cons ev_bl (eva_cons ev_str eva_nil))))) (Nat.le_of_ble_eq_true rfl)))) (fun i Γ Δ => ∃ a b c : SV, Γ = [.dat v.d, .dat s.d, .dat (.int s.lev), a, b, c, .any] ∧ Δ = []) ⟨_, _, _, rfl, rfl⟩ ?_ ?_
  · rintro hs' i d Γ Δ hd ⟨a, b, c, rfl, rfl⟩
    have hb := oddF_bad d (List.mem_of_getElem? hd)
    refine ⟨[3], _, tg_name, ?_⟩
    (try dsimp only [List.set, setAll])
    refine nx_sq ?_
    refine nx_ifF (ref_ne (n := 2) (x := "place") (by decide +kernel) (by decide) ?_) rfl (nx_nx ?_)
    · show EVL _ _ _ _ ([PyData.int 1, .int 2].map fun _ => PyData.str "place")
      refine evl_map (fun _ => .str "place") (w_tup (ev_tup (eva_cons ev_int (eva_cons ev_int eva_nil)) (Nat.le_of_ble_eq_true rfl))) (by decide) fun D hs acc dd hd => ?_
      refine ⟨[6], _, tg_name, by decide, ?_⟩
      simp only [List.mem_cons, List.not_mem_nil, or_false] at hd
      rcases hd with rfl | rfl
      · exact eca_ref (C1 := C1) (C3 := C3) (k := 1) (a := (true, v, s.d, .int 0, .int 0, d)) (oq3 (by decide) (fun z => absurd z (by decide)) hv h5 (by rw [hb, Bool.and_false])) (ev_var rfl) (ev_var rfl) (ev_var rfl) ev_int ev_int (ev_var rfl)
      · exact eca_ref (C1 := C1) (C3 := C3) (k := 2) (a := (true, v, s.d, .int 0, .int 0, d)) (oq3 (by decide) (fun z => absurd z (by decide)) hv h5 (by rw [hb, Bool.and_false])) (ev_var rfl) (ev_var rfl) (ev_var rfl) ev_int ev_int (ev_var rfl)
    (try dsimp only [List.set, setAll])
    refine nx_ifF (evt_test (ev_neD (eca_ref (C1 := C1) (C3 := C3) (k := 3) (a := (true, v, .int s.lev, .int 0, .int 0, d)) (oq4 hv (by rw [hb, Bool.and_false])) ev_int (ev_var rfl) (ev_var rfl) ev_int ev_int (ev_var rfl)) ev_str place_shaped place_shaped)) (by show (!PyData.eqv (.str "place") (.str "place")) = false; rw [str_eq]; rfl) (nx_nx ?_)
    (try dsimp only [List.set, setAll])
    exact nx_li ⟨_, _, _, rfl, rfl⟩
  rintro Γ Δ ⟨a, b, c, rfl, rfl⟩
  (try dsimp only [List.set, setAll])
  have htop := hv.top
  refine nx_ret2 (ev_eqD (da := .list (List.replicate 4 (.str "place"))) (db := .list (List.replicate 4 (.str "place"))) (evl_ev ?_) (evl_ev ?_) (rep_shaped 4 _ (by decide +kernel)) (rep_shaped 4 _ (by decide +kernel))) (by rw [PyData.eqv, rep_eqv]) (rt_of rfl hq)
  · show EVL _ _ _ _ ([PyData.none, .int (-1), .int (v.top + 1), .bool true].map fun _ => PyData.str "place")
    refine evl_map (fun _ => .str "place") (w_tup (ev_tup (eva_cons ev_non (eva_cons (ev_neg ev_int) (eva_cons (x_add (da := .int v.top) (db := .int 1) (x_ix (ev_var rfl) ev_int rfl) ev_int rfl trivial) (eva_cons ev_bl eva_nil)))) (Nat.le_of_ble_eq_true rfl))) (Nat.le_of_ble_eq_true rfl) fun D hs acc dd hd => ?_
    refine ⟨[3], _, tg_name, by decide, ?_⟩
    refine eca_ref (C1 := C1) (C3 := C3) (k := 3) (a := (true, v, dd, .int 0, .int 0, .int 0)) (oq4 hv ?_) ev_int (ev_var rfl) (ev_var rfl) ev_int ev_int ev_int
    simp only [List.mem_cons, List.not_mem_nil, or_false] at hd
    rcases hd with rfl | rfl | rfl | rfl
    · rfl
    · rfl
    · rw [whole_int, decide_eq_false (show ¬ v.top + 1 ≤ v.top by omega), Bool.and_false, Bool.false_and]
    · rfl
  · exact l_rep (ds := [.str "place"]) (j := 4) (evl_lst (eva_cons ev_str eva_nil) (Nat.le_of_ble_eq_true rfl)) (fun p => ev_int) (by omega) (Nat.le_of_ble_eq_true rfl)
end
end Kw

/-! text R1 -/
/-! The draws, part 1: dicts with written keys, local lists as they are read and written; the state of the draws; expressions that draw. -/
namespace Kw
open PySem PySem.Spec PyProof.Rows L2 PySem.Calls

section
variable {C : Ct} {G G' H H' : Hp} {σ : L2.St} {Γ : List SV} {Δ : Dl}
variable {ta tb tc te : TE} {da db d : PyData} {ds es : List PyData} {t u : TT} {b c : Bool}
theorem dk_at (S : ST C G H σ Γ Δ) {k : Nat} {p : Addr} {kvs : List (Key × V)} (h : Δ[k]? = some (p, .dk kvs)) : H p = some (.dK kvs) := (S.mo p _ (List.mem_of_getElem? h)).2
theorem ml_dp (S : ST C G H σ Γ Δ) {k : Nat} {p : Addr} (h : Δ[k]? = some (p, .ml ds)) : Dp C.K H (.ref p) (.list ds) := by
  obtain ⟨vs, e, r⟩ := ml_at S h
  exact .lst (SqL.of e) (dpAll_mono S.g _ _ r)
theorem dpAll_set {K : PySem.W.Frag} {G : Hp} : ∀ {ds : List PyData} {vs : List V} {v : V} {d : PyData}, DpAll K G vs ds → Dp K G v d → ∀ j, DpAll K G (vs.set j v) (ds.set j d)
  | [], _, _, _, h, _, _ => by cases h; exact .nil
  | _ :: _, _, _, _, h, r, 0 => by
    cases h with
    | cons a b => exact .cons r b
  | _ :: _, _, _, _, h, r, j + 1 => by
    cases h with
    | cons a b => exact .cons a (dpAll_set b r j)
/-- m['key'] -/
theorem evm_get {k : Nat} {p q : Addr} {kvs : List (Key × V)} {x : Str} (ha : EVM C Γ Δ ta p) (hk : Δ[k]? = some (p, .dk kvs)) (hv : valV kvs (.inr x) = some (.ref q)) : EVM C Γ Δ (tDGet ta (tC (.str x))) q := fun G H σ S Q qq =>
  ha G H σ S _ fun G1 H1 s1 S1 => ⟨p, .ref q, rfl, by rw [← hv]; exact DGet.k (k := .inr x) (dk_at S1 hk), qq G1 H1 s1 S1⟩
theorem ev_getI {k : Nat} {p : Addr} {i : Int} {kvs : List (Key × V)} {x : Str} (ha : EVM C Γ Δ ta p) (hk : Δ[k]? = some (p, .dk kvs)) (hv : valV kvs (.inr x) = some (.int i)) : EV C Γ Δ (tDGet ta (tC (.str x))) (.int i) := fun G H σ S Q qq =>
  ha G H σ S _ fun G1 H1 s1 S1 => ⟨p, .int i, rfl, by rw [← hv]; exact DGet.k (k := .inr x) (dk_at S1 hk), qq _ G1 H1 s1 S1 (.int i)⟩
/-- a local list != a datum -/
theorem ev_neM {k : Nat} {p : Addr} (ha : EVM C Γ Δ ta p) (hk : Δ[k]? = some (p, .ml ds)) (hb : EV C Γ Δ tb db) (sa : SeqAt.shaped (.list ds) = true) (sb : SeqAt.shaped db = true) : EV C Γ Δ (tOp (rNeD C.K) ta tb) (.bool (!PyData.eqv (.list ds) db)) := fun G H σ S Q q =>
  ha G H σ S _ fun G1 H1 s1 S1 => hb G1 H1 σ S1 _ fun y G2 H2 s2 S2 r2 => ⟨_, _, ml_dp S2 hk, dp_mono S2.g _ _ r2, sa, sb, q _ G2 H2 (s1.trans s2) S2 (.bl _)⟩
/-- xs[i], xs[i:j], len(xs) of a local list -/
theorem e_ixM {k : Nat} {p : Addr} {i : Int} (ha : EVM C Γ Δ ta p) (hk : Δ[k]? = some (p, .ml ds)) (hb : EV C Γ Δ tb (.int i)) (e : atI ds i = some d) : EV C Γ Δ (tOp (uIx C.P C.w C.K) ta tb) d := fun G H σ S Q q =>
  ha G H σ S _ fun G1 H1 s1 S1 => hb G1 H1 σ S1 _ fun y G2 H2 s2 S2 r2 => by
    cases r2
    obtain ⟨vs, e1, r⟩ := ml_at S2 hk
    obtain ⟨v, e2, rv⟩ := atI_dp r e
    exact .inr (.inl ⟨p, vs, i, v, rfl, rfl, SqL.of e1, e2, q v G2 H2 (s1.trans s2) S2 rv⟩)
theorem l_slM {to th : TO} {lo hi : Option Int} {k : Nat} {p : Addr} (h : EVM C Γ Δ te p) (hk : Δ[k]? = some (p, .ml ds)) (hl : EVO C Γ Δ to lo) (hh : EVO C Γ Δ th hi) : EVL C Γ Δ (tSl (uSl C.K) te to th) (cutL ds lo hi) := fun G H σ S Q q =>
  h G H σ S _ fun G1 H1 s1 S1 => hl G1 H1 σ S1 _ fun G2 H2 s2 S2 => hh G2 H2 σ S2 _ fun G3 H3 s3 S3 => by
    obtain ⟨vs, e1, r⟩ := ml_at S3 hk
    exact .inr ⟨p, vs, rfl, SqL.of e1, fun l hl => q l _ G3 _ ((s1.trans s2).trans s3) (S3.g.free hl) (S3.apart hl) (S3.new0 hl) upd_same (cut_dp r lo hi)⟩
theorem e_lenM {k : Nat} {p : Addr} (h : EVM C Γ Δ ta p) (hk : Δ[k]? = some (p, .ml ds)) : EV C Γ Δ (tCB (uLen C.P C.w C.K) (tCons ta tNil)) (.int (ds.length : Int)) := fun G H σ S Q q =>
  h G H σ S _ fun G1 H1 s1 S1 => by
    obtain ⟨vs, e1, r⟩ := ml_at S1 hk
    exact .inl ⟨p, vs, rfl, .inl (SqL.of e1), by rw [dpAll_len r]; exact q _ G1 H1 s1 S1 (.int _)⟩
theorem ev_pow {i j : Int} (ha : EV C Γ Δ ta (.int i)) (hb : EV C Γ Δ tb (.int j)) (hc : CPow i j) : EV C Γ Δ (tOp (rI CPow fun i j => .int (i ^ j.toNat)) ta tb) (.int (i ^ j.toNat)) := ev_op ha hb (op_intsC hc fun _ => .int _)
/-- m['key'] = a new list, an int; xs[i] = a datum -/
theorem nx_dputL {D : Ends} {k : Nat} {p : Addr} {kvs : List (Key × V)} {x : Str} (hv : EVL C Γ Δ te ds) (ho : ∀ q, EVM C Γ ((q, .ml ds) :: Δ) ta p) (hk : Δ[k]? = some (p, .dk kvs)) (hl : kvs.length < 1000)
    (n : ∀ q, Nx C Γ ((q, .ml ds) :: Δ.set k (p, .dk (putK kvs (.inr x) (.ref q)))) D.nx) : Nx C Γ Δ (sDPut ta (tC (.str x)) te D) := fun G H σ S =>
  hv G H σ S _ fun q vs G1 H1 s1 n1 a1 S1 e1 r1 => ho q G1 H1 σ (S1.loc n1 a1 ⟨vs, e1, r1⟩) _ fun G2 H2 s2 S2 =>
    ⟨p, _, rfl, DPut.k (k := .inr x) (dk_at S2 (k := k + 1) hk) (by rw [sizeLine_eq]; omega), n q G2 _ σ (S2.mut (k := k + 1) (m' := .dk (putK kvs (.inr x) (.ref q))) hk rfl rfl upd_same)⟩
theorem nx_dputI {D : Ends} {k : Nat} {p : Addr} {i : Int} {kvs : List (Key × V)} {x : Str} (hv : EV C Γ Δ te (.int i)) (ho : EVM C Γ Δ ta p) (hk : Δ[k]? = some (p, .dk kvs)) (hl : kvs.length < 1000)
    (n : Nx C Γ (Δ.set k (p, .dk (putK kvs (.inr x) (.int i)))) D.nx) : Nx C Γ Δ (sDPut ta (tC (.str x)) te D) := fun G H σ S =>
  hv G H σ S _ fun v G1 H1 s1 S1 r1 => ho G1 H1 σ S1 _ fun G2 H2 s2 S2 => by
    cases r1
    exact ⟨p, _, rfl, DPut.k (k := .inr x) (dk_at S2 hk) (by rw [sizeLine_eq]; omega), n G2 _ σ (S2.mut (k := k) (m' := .dk (putK kvs (.inr x) (.int i))) hk rfl rfl upd_same)⟩
theorem nx_setM {D : Ends} {k j : Nat} {p : Addr} {i : Int} (hv : EV C Γ Δ te d) (ho : EVM C Γ Δ ta p) (hi : EV C Γ Δ tb (.int i)) (hk : Δ[k]? = some (p, .ml ds)) (hj : ixN ds.length i = some j) (n : Nx C Γ (Δ.set k (p, .ml (ds.set j d))) D.nx) :
    Nx C Γ Δ (tAsg te (gSub ta tb rSetL) D) := fun G H σ S =>
  hv G H σ S _ fun v G1 H1 s1 S1 r1 => ho G1 H1 σ S1 _ fun G2 H2 s2 S2 => hi G2 H2 σ S2 _ fun y G3 H3 s3 S3 r3 => by
    cases r3
    obtain ⟨vs, e1, r⟩ := ml_at S3 hk
    exact ⟨p, vs, i, j, rfl, rfl, e1, by rw [dpAll_len r]; exact hj, n G3 _ σ (S3.mut (k := k) (m' := .ml (ds.set j d)) hk rfl rfl ⟨_, upd_same, dpAll_set r (dp_mono (s2.trans s3) _ _ r1) j⟩)⟩
end

/-! ### the state of the draws -/
def drK (pc pl : Addr) (k : Int) : List (Key × V) := [(.inr "cells", .ref pc), (.inr "left", .ref pl), (.inr "at", .int k)]
def Dr (pm pc pl : Addr) (cs ls : List Int) (k : Int) : Dl := [(pm, .dk (drK pc pl k)), (pc, .ml (cs.map .int)), (pl, .ml (ls.map .int))]
def DX (pm : Addr) (N : Int) (E : Dl) : Prop := ∃ pc pl cs ls k, E = Dr pm pc pl cs ls k ∧ cs.length ≤ 63 ∧ ls.length ≤ 63 ∧ 0 ≤ k ∧ k ≤ N
theorem DX.mono {pm : Addr} {N M : Int} {E : Dl} (h : DX pm N E) (l : N ≤ M) : DX pm M E := by
  obtain ⟨pc, pl, cs, ls, k, a, b, c, d, e⟩ := h
  exact ⟨pc, pl, cs, ls, k, a, b, c, d, by omega⟩

theorem mOk_ct {C C' : Ct} {G H : Hp} {p : Addr} {m : MO} (e1 : C.K = C'.K) (e2 : C.P = C'.P) (e3 : C.w = C'.w) (h : MOk C G H p m) : MOk C' G H p m := by
  obtain ⟨K, P, w, G0⟩ := C
  obtain ⟨K', P', w', G0'⟩ := C'
  cases e1; cases e2; cases e3
  cases m <;> exact h
section
variable {C : Ct} {G G' H H' : Hp} {σ : L2.St} {Γ : List SV} {Δ Δ' : Dl}
theorem ST.bare (S : ST C G H σ Γ Δ) : ST ⟨C.K, C.P, C.w, G⟩ G H [] [] Δ :=
  ⟨Same.refl _, S.g, rfl, (fun i sv e => by simp at e), (fun p m e => ⟨(S.mo p m e).1, mOk_ct rfl rfl rfl (S.mo p m e).2⟩), S.nd⟩
theorem ST.onto {G0 : Hp} (S : ST C G H σ Γ Δ) (s : Same G G') (S' : ST ⟨C.K, C.P, C.w, G0⟩ G' H' [] [] Δ') : ST C G' H' σ Γ Δ' :=
  ⟨S.g0.trans s, S'.g, S.len, (fun i sv e => let ⟨o, e1, q⟩ := S.sl i sv e; ⟨o, e1, svOk_mono s q⟩), (fun p m e => ⟨(S'.mo p m e).1, mOk_ct rfl rfl rfl (S'.mo p m e).2⟩), S'.nd⟩
theorem ST.mix {σ' : L2.St} {Γ' : List SV} (S : ST C G H σ Γ Δ) (s : Same G G') (S' : ST C G' H' σ' Γ' Δ') : ST C G' H' σ Γ Δ' :=
  ⟨S.g0.trans s, S'.g, S.len, (fun i sv e => let ⟨o, e1, q⟩ := S.sl i sv e; ⟨o, e1, svOk_mono s q⟩), S'.mo, S'.nd⟩
end

/-! ### expressions that draw -/
def ESX (C : Ct) (Γ : List SV) (pm : Addr) (N n : Int) (Δ : Dl) (te : TE) (R : PyData → Prop) : Prop :=
  ∀ E, DX pm N E → ∀ G H σ, ST C G H σ Γ (E ++ Δ) → ∀ Q : VK, (∀ E' v d G' H', DX pm (N + n) E' → Same G G' → ST C G' H' σ Γ (E' ++ Δ) → Dp C.K G' v d → R d → Q v H') → te σ H Q
def EAX (C : Ct) (Γ : List SV) (pm : Addr) (N n : Int) (Δ : Dl) (ta : TA) (R : List PyData → Prop) : Prop :=
  ∀ E, DX pm N E → ∀ G H σ, ST C G H σ Γ (E ++ Δ) → ∀ Q : List V → Hp → Prop, (∀ E' vs ds G' H', DX pm (N + n) E' → Same G G' → ST C G' H' σ Γ (E' ++ Δ) → DpAll C.K G' vs ds → R ds → Q vs H') → ta σ H Q
/-- a new list -/
def ELX (C : Ct) (Γ : List SV) (pm : Addr) (N n : Int) (Δ : Dl) (te : TE) (R : List PyData → Prop) : Prop :=
  ∀ E, DX pm N E → ∀ G H σ, ST C G H σ Γ (E ++ Δ) → ∀ Q : VK, (∀ E' p vs ds G' H', DX pm (N + n) E' → Same G G' → G' p = none → (∀ q m, (q, m) ∈ E' ++ Δ → isLoc m = true → q ≠ p) → ST C G' H' σ Γ (E' ++ Δ) → H' p = some (.lst vs) → DpAll C.K G' vs ds → R ds → Q (.ref p) H') → te σ H Q
def DSp {α : Type} (P : Program) (w : World) (K : PySem.W.Frag) (dom : α → List PyData) (ok : α → Prop) (n B : Int) (out : α → PyData → Prop) : Sp := fun vs H Q _ =>
  ∃ (a : α) (pm : Addr) (ar : List V) (N : Int) (E Δ : Dl) (G : Hp), vs = .ref pm :: ar ∧ 0 ≤ N ∧ N ≤ B ∧ DX pm N E ∧ ST ⟨K, P, w, G⟩ G H [] [] (E ++ Δ) ∧ DpAll K G ar (dom a) ∧ ok a ∧
    ∀ E' v d G' H', DX pm (N + n) E' → Same G G' → ST ⟨K, P, w, G⟩ G' H' [] [] (E' ++ Δ) → Dp K G' v d → out a d → Q v H'
section
variable {C : Ct} {G G' H H' : Hp} {σ : L2.St} {Γ : List SV} {Δ : Dl} {pm : Addr} {N n n1 n2 : Int} {R R1 R2 : PyData → Prop} {Rl Rl1 : List PyData → Prop}
variable {ta tb tc te : TE} {tr : TA} {da db d : PyData} {ds es : List PyData} {t u : TT} {b c : Bool}
theorem esx_ev (hn : 0 ≤ n) (h : ∀ E, DX pm N E → ∃ d, EV C Γ (E ++ Δ) te d ∧ R d) : ESX C Γ pm N n Δ te R := fun E hE G H σ S Q q => by
  obtain ⟨d, hd, hr⟩ := h E hE
  exact hd G H σ S Q fun v G1 H1 s1 S1 r1 => q E v d G1 H1 (hE.mono (by omega)) s1 S1 r1 hr
theorem ESX.to {R' : PyData → Prop} (h : ESX C Γ pm N n1 Δ te R) (hn : n1 ≤ n) (hr : ∀ d, R d → R' d) : ESX C Γ pm N n Δ te R' := fun E hE G H σ S Q q =>
  h E hE G H σ S Q fun E' v d G1 H1 hE' s1 S1 r1 z => q E' v d G1 H1 (hE'.mono (by omega)) s1 S1 r1 (hr d z)
theorem eax_nil (hn : 0 ≤ n) (hr : Rl []) : EAX C Γ pm N n Δ tNil Rl := fun E hE G H σ S Q q => q E [] [] G H (hE.mono (by omega)) (Same.refl _) S .nil hr
theorem eax_cons (h : ESX C Γ pm N n1 Δ te R1) (hr : EAX C Γ pm (N + n1) n2 Δ tr Rl1) (hn : n1 + n2 ≤ n) (hR : ∀ d ds, R1 d → Rl1 ds → Rl (d :: ds)) : EAX C Γ pm N n Δ (tCons te tr) Rl := fun E hE G H σ S Q q =>
  h E hE G H σ S _ fun E1 v d G1 H1 hE1 s1 S1 r1 z1 => hr E1 hE1 G1 H1 σ S1 _ fun E2 vs ds G2 H2 hE2 s2 S2 r2 z2 => q E2 _ _ G2 H2 (hE2.mono (by omega)) (s1.trans s2) S2 (.cons (dp_mono s2 d v r1) r2) (hR d ds z1 z2)
theorem esx_op {r : L2.R2} (ha : ESX C Γ pm N n1 Δ ta R1) (hb : ESX C Γ pm (N + n1) n2 Δ tb R2) (hn : n1 + n2 ≤ n) (ho : ∀ x y, R1 x → R2 y → ∃ d, R d ∧ ∀ Δ', OpD C Γ Δ' r x y d) : ESX C Γ pm N n Δ (tOp r ta tb) R := fun E hE G H σ S Q q =>
  ha E hE G H σ S _ fun E1 x dx G1 H1 hE1 s1 S1 r1 z1 => hb E1 hE1 G1 H1 σ S1 _ fun E2 y dy G2 H2 hE2 s2 S2 r2 z2 => by
    obtain ⟨d, hd, o⟩ := ho dx dy z1 z2
    exact o _ G2 H2 σ S2 x y (dp_mono s2 dx x r1) r2 Q fun v G3 H3 s3 S3 r3 => q E2 v d G3 H3 (hE2.mono (by omega)) ((s1.trans s2).trans s3) S3 r3 hd
theorem esx_tup (h : EAX C Γ pm N n Δ tr Rl) (hl : ∀ ds, Rl ds → ds.length ≤ 1000) (hR : ∀ ds, Rl ds → R (.tuple ds)) : ESX C Γ pm N n Δ (tTup tr) R := fun E hE G H σ S Q q =>
  h E hE G H σ S _ fun E1 vs ds G1 H1 hE1 s1 S1 r1 z1 => ⟨by have := hl ds z1; rw [dpAll_len r1, sizeLine_eq]; omega, fun p hp => by
    have n : G1 p = none := S1.g.free hp
    exact q E1 _ _ _ _ hE1 (s1.trans (same_new n)) (S1.new hp) (.tup (SqT.of upd_same) (dpAll_mono (same_new n) _ _ r1)) (hR ds z1)⟩
/-- a call of what does not draw -/
theorem esx_call {α : Type} {dom : α → List PyData} {ok : α → Prop} {out : α → Rs → Prop} {W : WX} (ha : EAX C Γ pm N n Δ tr Rl) (hc : ∀ ds, Rl ds → ∃ a d, dom a = ds ∧ ok a ∧ (∀ r, out a r → r = .dat d) ∧ lfree d = true ∧ R d) :
    ESX C Γ pm N n Δ (tCallS (ASp C.P C.w C.K dom ok out) (WE W) tr) R := fun E hE G H σ S Q q =>
  ha E hE G H σ S _ fun E1 vs ds G1 H1 hE1 s1 S1 r1 z1 => by
    obtain ⟨a, d, e, ho, hr, l, hd⟩ := hc ds z1
    subst e
    refine ⟨a, dpAll_mono S1.g _ _ r1, ho, fun r hr' => ?_⟩
    cases hr r hr'
    intro v H2 s2 r2
    obtain ⟨a', S2⟩ := S1.less s2
    exact q E1 v d _ H2 hE1 (s1.trans a') S2 (dp_out (S1.out s2) d v l r2) hd
/-- a call of what draws -/
theorem esx_draw {α : Type} {B : Int} {dom : α → List PyData} {ok : α → Prop} {out : α → PyData → Prop} {W : WX} {i : Nat} (hi : Γ[i]? = some (.loc pm)) (ha : EAX C Γ pm N n1 Δ tr Rl) (hN : 0 ≤ N + n1 ∧ N + n1 ≤ B) (hc : ∀ ds, Rl ds → ∃ a, dom a = ds ∧ ok a ∧ ∀ d, out a d → R d) (hn : n1 + n2 ≤ n) :
    ESX C Γ pm N n Δ (tCallS (DSp C.P C.w C.K dom ok n2 B out) (WE W) (tCons (tVar i) tr)) R := fun E hE G H σ S Q q => by
  obtain ⟨o, e, rfl⟩ := S.sl i _ hi
  refine ⟨_, e, ha E hE G H σ S _ fun E1 vs ds G1 H1 hE1 s1 S1 r1 z1 => ?_⟩
  obtain ⟨a, e, ho, hr⟩ := hc ds z1
  subst e
  exact ⟨a, pm, vs, N + n1, E1, Δ, G1, rfl, hN.1, hN.2, hE1, S1.bare, r1, ho, fun E' v d G' H' hE' s' S' r' z' => q E' v d G' H' (hE'.mono (by omega)) (s1.trans s') (S1.onto s' S') r' (hr d z')⟩
theorem eax_ev (hn : 0 ≤ n) (h : ∀ E, DX pm N E → ∃ ds, EVA C Γ (E ++ Δ) tr ds ∧ Rl ds) : EAX C Γ pm N n Δ tr Rl := fun E hE G H σ S Q q => by
  obtain ⟨ds, hd, hr⟩ := h E hE
  exact hd G H σ S Q fun vs G1 H1 s1 S1 r1 => q E vs ds G1 H1 (hE.mono (by omega)) s1 S1 r1 hr
/-- operations -/
theorem opd_add {i j : Int} : OpD C Γ Δ (uAdd C.K) (.int i) (.int j) (.int (i + j)) := opd_l (op_ints fun _ => .int _)
theorem opd_cat (hl : ds.length + es.length ≤ 1000000) : OpD C Γ Δ (uAdd C.K) (.tuple ds) (.tuple es) (.tuple (ds ++ es)) := opd_r (opd_l fun G H σ S x y rx ry Q q => by
  cases rx with
  | tup a1 b1 =>
    cases ry with
    | tup a2 b2 =>
      refine ⟨_, _, _, _, rfl, rfl, sqT_mono S.g a1, sqT_mono S.g a2, by rw [dpAll_len b1, dpAll_len b2, sizeLine_eq]; omega, fun z => ?_, fun _ z => ?_, fun _ _ p hp => ?_⟩
      · subst z
        cases b1
        exact q _ G H (Same.refl _) S (.tup a2 b2)
      · subst z
        cases b2
        exact q _ G H (Same.refl _) S (by rw [List.append_nil]; exact .tup a1 b1)
      · have n : G p = none := S.g.free hp
        exact q _ _ _ (same_new n) (S.new hp) (.tup (SqT.of upd_same) (dpAll_mono (same_new n) _ _ (dpAll_app b1 b2))))
theorem opd_ixL {i : Int} (e : atI ds i = some d) : OpD C Γ Δ (uIx C.P C.w C.K) (.list ds) (.int i) d := .pure fun G H x y s rx ry Q q => by
  cases ry
  cases rx with
  | lst a b =>
    obtain ⟨v, e1, r⟩ := atI_dp b e
    exact .inr (.inl ⟨_, _, i, v, rfl, rfl, s.seq a, e1, q v r⟩)

/-! ### statements -/
variable {D : Ends} {E : Dl}
theorem nx_asgX {i : Nat} (h : ESX C Γ pm N n Δ te R) (hE : DX pm N E) (k : ∀ d E', R d → DX pm (N + n) E' → Nx C (Γ.set i (.dat d)) (E' ++ Δ) D.nx) : Nx C Γ (E ++ Δ) (tAsg te (gName i) D) := fun G H σ S =>
  h E hE G H σ S _ fun E1 v d G1 H1 hE1 s1 S1 r1 z1 => k d E1 z1 hE1 G1 H1 _ (S1.set r1)
theorem nx_parX {i j : Nat} (h1 : ESX C Γ pm N n1 Δ ta R1) (h2 : ESX C Γ pm (N + n1) n2 Δ tb R2) (hE : DX pm N E) (k : ∀ d1 d2 E', R1 d1 → R2 d2 → DX pm (N + n1 + n2) E' → Nx C ((Γ.set i (.dat d1)).set j (.dat d2)) (E' ++ Δ) D.nx) :
    Nx C Γ (E ++ Δ) (tPar i j (tCons ta (tCons tb tNil)) D) := fun G H σ S =>
  h1 E hE G H σ S _ fun E1 v d1 G1 H1 hE1 s1 S1 r1 z1 => h2 E1 hE1 G1 H1 σ S1 _ fun E2 u d2 G2 H2 hE2 s2 S2 r2 z2 => ⟨v, u, rfl, k d1 d2 E2 z1 z2 hE2 G2 H2 _ ((S2.set (dp_mono s2 _ _ r1)).set r2)⟩
/-- what a return is to show in a def that draws -/
def RtX (C : Ct) (rt : VK) (pm : Addr) (N : Int) (Δ : Dl) (R : PyData → Prop) : Prop := ∀ E' v d G' H', DX pm N E' → Same C.G0 G' → ST C G' H' [] [] (E' ++ Δ) → Dp C.K G' v d → R d → rt v H'
theorem ST.noslots (S : ST C G H σ Γ Δ) : ST C G H [] [] Δ := ⟨S.g0, S.g, rfl, (fun i sv e => by simp at e), S.mo, S.nd⟩
theorem nx_retX (h : ESX C Γ pm N n Δ te R) (hE : DX pm N E) {M : Int} (hn : N + n ≤ M) (k : RtX C D.rt pm M Δ R) : Nx C Γ (E ++ Δ) (tRet te D) := fun G H σ S =>
  h E hE G H σ S _ fun E1 v d G1 H1 hE1 s1 S1 r1 z1 => k E1 v d G1 H1 (hE1.mono hn) S1.g0 S1.noslots r1 z1
end
end Kw

/-! text R2 -/
/-! The draws, part 2: bodies of defs that draw, loops, comprehensions. -/
namespace Kw
open PySem PySem.Spec PyProof.Rows L2 PySem.Calls

/-! ### the body of a def that draws -/
def Γ1 (pm : Addr) (N : List Str) (ds : List PyData) : List SV := .loc pm :: (ds.map .dat ++ List.replicate (N.length - (ds.length + 1)) .any)
section
variable {C : Ct} {G G' H H' : Hp} {σ : L2.St} {Γ : List SV} {Δ : Dl} {pm : Addr} {n n1 n2 : Int} {R R1 R2 : PyData → Prop} {Rl Rl1 : List PyData → Prop}
variable {ta tb tc te : TE} {tr : TA} {da db d : PyData} {ds es : List PyData} {t u : TT} {b c : Bool}
theorem st_startX {K : PySem.W.Frag} {P : Program} {w : World} {N : List Str} {ar : List V} (S : ST ⟨K, P, w, G⟩ G H [] [] Δ) (r : DpAll K G ar ds) : ST ⟨K, P, w, G⟩ G H (L2.start N (.ref pm :: ar)) (Γ1 pm N ds) Δ where
  g0 := S.g0
  g := S.g
  len := by unfold L2.start Γ1; simp [dpAll_len r]
  sl := fun i sv e => by
    have hl := dpAll_len r
    cases i with
    | zero =>
      cases e
      exact ⟨some (.ref pm), rfl, rfl⟩
    | succ i =>
      have e' : (ds.map SV.dat ++ List.replicate (N.length - (ds.length + 1)) SV.any)[i]? = some sv := e
      show ∃ o, (ar.map some ++ List.replicate (N.length - (ar.length + 1)) none)[i]? = some o ∧ _
      by_cases hi : i < ds.length
      · rw [List.getElem?_append_left (by simpa using hi), List.getElem?_map] at e'
        rw [List.getElem?_append_left (by simpa [hl] using hi), List.getElem?_map]
        obtain ⟨v, e1, e2⟩ := dpAll_get r (List.getElem?_eq_getElem hi)
        rw [List.getElem?_eq_getElem hi] at e'
        cases e'
        exact ⟨some v, by rw [e1]; rfl, v, rfl, e2⟩
      · rw [List.getElem?_append_right (by simpa using hi)] at e'
        rw [List.getElem?_append_right (by simpa [hl] using hi)]
        rw [List.getElem?_replicate] at e' ⊢
        simp only [List.length_map] at e' ⊢
        rw [hl]
        split at e'
        · rename_i h1
          cases e'
          rw [if_pos h1]
          exact ⟨none, rfl, trivial⟩
        · cases e'
  mo := S.mo
  nd := S.nd
theorem body_d {α : Type} {B : Int} {P : Program} {w : World} {K : PySem.W.Frag} {mg : Str → Option Value} {base : Heap} {x qual : Str} {st : Stmt} {f : Addr} {fd : FuncData} {N ps : List Str} {k : Nat} {dom : α → List PyData} {ok : α → Prop} {out : α → PyData → Prop}
    (F : Fun K x qual st f fd) (S : FnScope N ps (defScope st)) (len : ∀ a, (dom a).length + 1 = ps.length)
    (hb : ∀ (cdv : Value) (ar : Around) (up : List Env) (z : Shared) (H : Hp) (Q : VK) (E : XK), ar.guards = some [] → Room k (ar.deeper (envOfC qual (defScope st) z.heap.objs.size f cdv)) →
      ∃ t, PSs (cxOf (L2.CX P w) P w K mg base N qual (defScope st) f cdv ar up z H E) (defBody st) t ∧
        ∀ (a : α) (pm : Addr) (M : Int) (E0 Δ : Dl) (G : Hp), ok a → 0 ≤ M → M ≤ B → DX pm M E0 → RtX ⟨K, P, w, G⟩ Q pm (M + n) Δ (out a) → Nx ⟨K, P, w, G⟩ (Γ1 pm N (dom a)) (E0 ++ Δ) (t { nx := fun _ H' => Q .non H', rt := Q })) :
    FnG P w K mg base (k + 1) f fd ps (DSp P w K dom ok n B out) := by
  refine fun_g F S (fun vs H Q E ⟨a, pm, ar, N, E0, Δ, G, e, _, _, _, _, r, _⟩ => by rw [e, List.length_cons, dpAll_len r]; exact len a) fun cdv ar up z H vs Q E g hr ⟨a, pm, ar2, M, E0, Δ, G, e, h0, h1, hE, S0, r, ho, hq⟩ => ?_
  subst e
  obtain ⟨t, t1, t2⟩ := hb cdv ar up z H Q E g hr
  exact ⟨t, t1, t2 a pm M E0 Δ G ho h0 h1 hE (fun E' v d G' H' hE' s' S' r' z' => hq E' v d G' H' hE' s' S' r' z') G H _ (st_startX S0 r)⟩

/-! ### what is walked, loops -/
variable {D : Ends} {E : Dl} {N : Int}
def WDX (C : Ct) (Γ : List SV) (pm : Addr) (N n : Int) (Δ : Dl) (wi : TI) (R : List PyData → Prop) : Prop :=
  ∀ E, DX pm N E → ∀ G H σ, ST C G H σ Γ (E ++ Δ) → ∀ Rr : It → Hp → Prop, (∀ E' J hs ds G' H', DX pm (N + n) E' → R ds → Same G G' → ST C G' H' σ Γ ((E' ++ Δ) ++ hs) → WkD C J hs ds → Rr J H') → wi σ H Rr
theorem nx_forX {wi : TI} {g : TG} {tu : TS} (w : WDX C Γ pm N n Δ wi Rl) (hE : DX pm N E)
    (h : ∀ E' ds, DX pm (N + n) E' → Rl ds → ∃ I : Nat → List SV → Dl → Prop, I 0 Γ (E' ++ Δ) ∧
      (∀ (hs : Dl) (i : Nat) d Γ' Δ', ds[i]? = some d → I i Γ' Δ' → ∃ js f, TG1 C g d js f ∧ Nx C (f Γ') (Δ' ++ hs) (tu { D with nx := LI C (I (i + 1)) hs, ct := LI C (I (i + 1)) hs, bk := D.nx })) ∧
      (∀ Γ' Δ', I ds.length Γ' Δ' → Nx C Γ' Δ' D.nx)) : Nx C Γ (E ++ Δ) (tFor wi g tu D) := fun G H σ S => w E hE G H σ S _ fun E' J hh ds G1 H1 hE' hR s1 S1 K => by
  obtain ⟨I, h0, hs, hd⟩ := h E' ds hE' hR
  refine ⟨fun i m σ H => m = ds.length - i ∧ i ≤ ds.length ∧ LI C (I i) hh σ H, ⟨ds.length, by simp, Nat.zero_le _, G1, Γ, E' ++ Δ, h0, S1⟩, ?_⟩
  rintro i m σ H ⟨rfl, hi, G2, Γ2, Δ2, hI, S2⟩
  by_cases hlt : i < ds.length
  · refine .inr ⟨K.goes i G2 H σ Γ2 Δ2 hlt S2, LI C (I (i + 1)) hh, fun σ' H' p => ⟨ds.length - (i + 1), by omega, rfl, hlt, p⟩, fun x H' y => ?_⟩
    have e := List.getElem?_eq_getElem hlt
    obtain ⟨G3, s3, S3, r3⟩ := K.yields i G2 H σ Γ2 Δ2 x H' _ S2 e y
    obtain ⟨js, f, tg, n⟩ := hs hh i _ Γ2 Δ2 e hI
    exact tg G3 H' σ Γ2 _ x S3 r3 _ fun σ' _ _ S4 => n G3 H' σ' S4
  · have e : i = ds.length := by omega
    subst e
    exact .inl ⟨K.stops G2 H σ Γ2 Δ2 S2, hd Γ2 Δ2 hI G2 H σ (S2.sub (List.sublist_append_left _ _))⟩
theorem wdx_rng1 {J : Int → Prop} (h : EAX C Γ pm N n Δ tr (fun ds => ∃ j, ds = [.int j] ∧ J j ∧ 0 ≤ j ∧ j ≤ 1000000)) : WDX C Γ pm N n Δ (iRng1 tr) (fun ds => ∃ j, J j ∧ ds = rngD 0 j.toNat) :=
  fun E hE G H σ S Rr q => h E hE G H σ S _ fun E1 vs ds G1 H1 hE1 s1 S1 r1 ⟨j, e, hj, h0, h1⟩ => by
    subst e
    cases r1 with
    | cons a b =>
      cases a
      cases b
      exact ⟨j, rfl, by omega, by omega, q E1 _ [] _ G1 H1 hE1 ⟨j, hj, rfl⟩ s1 (by rw [List.append_nil]; exact S1) wk_rng⟩
theorem wdx_list (h : ESX C Γ pm N n Δ te (fun d => ∃ ds, d = .list ds ∧ Rl ds)) : WDX C Γ pm N n Δ (uIt C.K te) Rl := fun E hE G H σ S Rr q => .inl (h E hE G H σ S _ fun E1 v d G1 H1 hE1 s1 S1 r1 ⟨ds, e, hR⟩ => by
  subst e
  cases r1 with
  | @lst a xs _ sa da =>
    refine ⟨a, rfl, ⟨xs, S1.g.seq sa⟩, q E1 _ [(a, .hd (.list ds))] ds G1 H1 hE1 hR s1 (S1.hold1 (.lst sa da)) ?_⟩
    have get : ∀ {G H σ Γ Δ}, ST C G H σ Γ (Δ ++ [(a, MO.hd (.list ds))]) → ∃ ys, SqL C.K H a ys ∧ DpAll C.K G ys ds := fun {G H σ Γ Δ} S => by
      have z := held S (d := .list ds) (p := a) (by simp)
      cases z with
      | lst a b => exact ⟨_, S.g.seq a, b⟩
    refine ⟨fun i G H σ Γ Δ hi S => ?_, fun G H σ Γ Δ S => ?_, fun i G H σ Γ Δ x H' d S e y => ?_⟩
    · obtain ⟨ys, q1, q2⟩ := get S
      obtain ⟨v, e1, _⟩ := dpAll_get q2 (List.getElem?_eq_getElem hi)
      exact ⟨ys, v, q1, e1⟩
    · obtain ⟨ys, q1, q2⟩ := get S
      exact ⟨ys, q1, Nat.le_of_eq (dpAll_len q2)⟩
    · obtain ⟨ys, q1, q2⟩ := get S
      obtain ⟨e1, e2⟩ := y
      subst e1
      obtain ⟨v, e3, e4⟩ := dpAll_get q2 e
      rw [e2 ys q1] at e3
      cases e3
      exact ⟨G, Same.refl _, S, e4⟩)
/-- a new list is taken as a datum -/
theorem elx_esx (h : ELX C Γ pm N n Δ te Rl) : ESX C Γ pm N n Δ te (fun d => ∃ ds, d = .list ds ∧ Rl ds) := fun E hE G H σ S Q q => by
  refine h E hE G H σ S Q fun E1 p vs ds G' H' hE1 s1 n a S' e r z => ?_
  have sg : Same G' (upd G' p (.lst vs)) := same_new n
  refine q E1 _ (.list ds) (upd G' p (.lst vs)) H' hE1 (s1.trans sg) (S'.grow sg (fun b u z => ?_) (Same.refl _) fun q m z l => ?_) (.lst (SqL.of upd_same) (dpAll_mono sg _ _ r)) ⟨ds, rfl, z⟩
  · by_cases hb : b = p
    · subst hb; rw [upd_same] at z; cases z; exact e
    · rw [upd_ne hb] at z; exact S'.g b u z
  · rw [upd_ne (a q m z l)]; exact (S'.mo q m z).1 l
/-- xs + ys, xs a local list, ys new -/
theorem elx_catM {k : Nat} {p1 : Addr} (ha : ∀ E, EVM C Γ (E ++ Δ) ta p1) (hk : Δ[k]? = some (p1, .ml ds)) (hb : ELX C Γ pm N n Δ tb Rl) (hl : ∀ es, Rl es → ds.length + es.length ≤ 1000000) : ELX C Γ pm N n Δ (tOp (uAdd C.K) ta tb) (fun l => ∃ es, Rl es ∧ l = ds ++ es) := fun E hE G H σ S Q q =>
  ha E G H σ S _ fun G1 H1 s1 S1 => hb E hE G1 H1 σ S1 _ fun E1 p2 vs2 es G2 H2 hE1 s2 n2 a2 S2 e2 r2 z2 => by
    obtain ⟨-, us, eu, ru⟩ := S2.mo p1 (.ml ds) (List.mem_append_right _ (List.mem_of_getElem? hk))
    have := hl es z2
    exact .inr (.inr ⟨p1, p2, us, vs2, rfl, rfl, eu, e2, by rw [dpAll_len ru, dpAll_len r2, sizeLine_eq]; omega, fun p hp =>
      q E1 p _ _ G2 _ hE1 (s1.trans s2) (S2.g.free hp) (S2.apart hp) (S2.new0 hp) upd_same (dpAll_app ru r2) ⟨es, z2, rfl⟩⟩)
/-- [.. for ..] where each item draws n1 times -/
theorem elx_map {wi : TI} {g : TG} {vs : List Nat} (w : ∀ E, WD C Γ (E ++ Δ) wi ds) (hz : ds.length ≤ 1000000) (hn : 0 ≤ n1)
    (hs : ∀ D hs acc (i : Nat) d, ds[i]? = some d → ∃ js fΓ, TG1 C g d js fΓ ∧ (∀ j ∈ js, j ∈ vs) ∧ ESX C (fΓ (wipeS Γ vs)) pm (N + i * n1) n1 ((D, .ml acc) :: (Δ ++ hs)) te R) :
    ELX C Γ pm N (ds.length * n1) Δ (tLc wi g tYes te vs) (fun es => es.length = ds.length ∧ ∀ e ∈ es, R e) := fun E hE G H σ S Q q => w E G H σ S _ fun J hh G1 H1 s1 S1 K D hD => by
  have n0 : G1 D = none := S1.g.free hD
  refine ⟨fun i m H => m = ds.length - i ∧ i ≤ ds.length ∧ ∃ G2 E2 es, Same G1 G2 ∧ DX pm (N + i * n1) E2 ∧ es.length = i ∧ (∀ e ∈ es, R e) ∧ (∀ q m, (q, m) ∈ E2 ++ Δ → isLoc m = true → q ≠ D) ∧ ST C G2 H (L2.wipe σ vs) (wipeS Γ vs) ((D, .ml es) :: ((E2 ++ Δ) ++ hh)), ⟨ds.length, by simp, Nat.zero_le _, G1, E, [], Same.refl _, hE.mono (by simp), rfl, (fun _ z => nomatch z), (fun q m z l => S1.apart hD q m (List.mem_append_left _ z) l), ?_⟩, ?_⟩
  · have S2 := (S1.wipe vs).new0 (o := .lst []) hD
    exact S2.loc n0 (S1.apart hD) ⟨[], upd_same, .nil⟩
  rintro i m H2 ⟨rfl, hi, G2, E2, acc, s2, hE2, hl, hR, hap, S2⟩
  by_cases hlt : i < ds.length
  · have e := List.getElem?_eq_getElem hlt
    have S2' : ST C G2 H2 (L2.wipe σ vs) (wipeS Γ vs) (((D, .ml acc) :: (E2 ++ Δ)) ++ hh) := S2
    refine .inr ⟨K.goes i G2 H2 _ _ _ hlt S2', fun H => ∃ G3 E3 es, Same G1 G3 ∧ DX pm (N + (i + 1 : Nat) * n1) E3 ∧ es.length = i + 1 ∧ (∀ e ∈ es, R e) ∧ (∀ q m, (q, m) ∈ E3 ++ Δ → isLoc m = true → q ≠ D) ∧ ST C G3 H (L2.wipe σ vs) (wipeS Γ vs) ((D, .ml es) :: ((E3 ++ Δ) ++ hh)), fun H' ⟨G3, E3, es, z⟩ => ⟨ds.length - (i + 1), by omega, rfl, hlt, G3, E3, es, z⟩, fun x H3 y => ?_⟩
    obtain ⟨G3, s3, S3, r3⟩ := K.yields i G2 H2 _ _ _ x H3 _ S2' e y
    obtain ⟨js, fΓ, tg, hj, he⟩ := hs D hh acc i _ e
    refine tg G3 H3 _ _ _ x S3 r3 _ fun σ' hl' hout S4 => ?_
    have hw : L2.wipe σ' vs = L2.wipe σ vs := by
      have h1 : L2.wipe σ' vs = L2.wipe (L2.wipe σ vs) vs := wipe_eq hl' fun i hi => hout i fun z => hi (hj i z)
      rw [h1]
      exact wipe_eq (wipe_length σ vs) fun i hi => wipe_at vs i hi
    refine ⟨hw, ?_⟩
    show te σ' H3 _
    have S5 : ST C G3 H3 σ' (fΓ (wipeS Γ vs)) (E2 ++ ((D, .ml acc) :: (Δ ++ hh))) := by
      refine S4.perm ?_
      show List.Perm ((D, MO.ml acc) :: ((E2 ++ Δ) ++ hh)) _
      rw [List.append_assoc]
      exact List.perm_middle.symm
    refine he E2 hE2 G3 H3 σ' S5 _ fun E3 y d G6 H6 hE3 s6 S6 r6 z6 => ?_
    have S6' : ST C G6 H6 σ' (fΓ (wipeS Γ vs)) ((D, .ml acc) :: ((E3 ++ Δ) ++ hh)) := by
      refine S6.perm ?_
      rw [List.append_assoc]
      exact List.perm_middle
    obtain ⟨us, eu, ru⟩ := ml_at S6' (k := 0) rfl
    refine ⟨us, eu, ?_, G6, E3, acc ++ [d], (s2.trans s3).trans s6, hE3.mono (by rw [Int.natCast_add, Int.add_mul]; simp; omega), by simp [hl], ?_, ?_, ?_⟩
    · rw [dpAll_len ru, hl, sizeLine_eq]
      omega
    · intro e he
      rcases List.mem_append.mp he with he | he
      · exact hR e he
      · rw [List.mem_singleton.mp he]
        exact z6
    · intro q m hq l e
      obtain ⟨j, hj⟩ := List.getElem?_of_mem (List.mem_append_left hh hq)
      exact S6'.other (i := 0) (j := j + 1) rfl hj (by omega) rfl l e
    · have S7 := S6'.mut (k := 0) (m' := .ml (acc ++ [d])) (o := .lst (us ++ [y])) rfl rfl rfl ⟨_, upd_same, dpAll_app ru (.cons r6 .nil)⟩
      exact ST.mix S2 (s3.trans s6) S7
  · have e : i = ds.length := by omega
    subst e
    refine .inl ⟨K.stops G2 H2 _ _ ((D, .ml acc) :: (E2 ++ Δ)) S2, ?_⟩
    obtain ⟨n2, us, eu, ru⟩ := S2.mo D _ List.mem_cons_self
    have S3 : ST C G2 H2 σ Γ (E2 ++ Δ) := (S1.mix s2 S2).sub ((List.sublist_append_left _ _).trans (List.sublist_cons_self _ _))
    exact q E2 D us acc G2 H2 hE2 (s1.trans s2) (n2 rfl) hap S3 eu ru ⟨hl, hR⟩

/-! ### the begun state -/
def BSp (P : Program) (w : World) (K : PySem.W.Frag) : Sp := fun vs H Q _ => ∃ (a : Addr) (cs : List Int) (G : Hp) (Δ : Dl), vs = [.ref a] ∧ cs.length ≤ 63 ∧ ST ⟨K, P, w, G⟩ G H [] [] Δ ∧ Dp K G (.ref a) (.list (cs.map .int)) ∧
  ∀ E pm G' H', DX pm 0 E → Same G G' → ST ⟨K, P, w, G⟩ G' H' [] [] (E ++ Δ) → Q (.ref pm) H'
theorem ST.setLocX (S : ST C G H σ Γ Δ) {i : Nat} {p : Addr} : ST C G H (σ.set i (some (.ref p))) (Γ.set i (.loc p)) Δ := S.setLoc
theorem nx_begun {i j : Nat} {W : WX} {cs : List Int} (hj : Γ[j]? = some (.dat (.list (cs.map .int)))) (hl : cs.length ≤ 63) (k : ∀ pm E, DX pm 0 E → Nx C (Γ.set i (.loc pm)) (E ++ Δ) D.nx) :
    Nx C Γ Δ (tAsg (tCallS (BSp C.P C.w C.K) (WE W) (tCons (tVar j) tNil)) (gName i) D) := fun G H σ S => by
  obtain ⟨o, e, v, rfl, hv⟩ := S.sl j _ hj
  refine ⟨v, e, ?_⟩
  have hv0 := hv
  cases hv with
  | @lst a xs _ sa da => exact ⟨a, cs, G, Δ, rfl, hl, S.bare, hv0, fun E pm G' H' hE s' S' => k pm E hE G' H' _ (ST.setLoc (S.onto s' S'))⟩
end
end Kw

/-! text R3 -/
/-! _law_begun, _law_next -/
namespace Kw
open PySem PySem.Spec PyProof.Rows L2 PySem.Calls
abbrev s__law_begun : Stmt := top 54
theorem sc__law_begun : FnScope ["_law_script", "_law_cell"] ["_law_script"] (defScope s__law_begun) := ⟨rfl, rfl, rfl, by decide +kernel, rfl, by decide +kernel, by decide +kernel⟩
abbrev s__law_next : Stmt := top 55
theorem sc__law_next : FnScope ["_law_m", "_law_total", "_law_rest", "_law_k", "_law_cell", "_law_mixed"] ["_law_m", "_law_total"] (defScope s__law_next) := ⟨rfl, rfl, rfl, by decide +kernel, rfl, by decide +kernel, by decide +kernel⟩
theorem hu1 {k : Nat} {A : Around} (hr : Room k A) : A.units + 1 < cLine := by have := hr.un; omega
theorem k_cl : ¬ (("cells" : Str) = "left") := by decide +kernel
theorem k_ca : ¬ (("cells" : Str) = "at") := by decide +kernel
theorem k_lc : ¬ (("left" : Str) = "cells") := by decide +kernel
theorem k_la : ¬ (("left" : Str) = "at") := by decide +kernel
theorem k_ac : ¬ (("at" : Str) = "cells") := by decide +kernel
theorem k_al : ¬ (("at" : Str) = "left") := by decide +kernel
theorem dr_cells (pc pl : Addr) (k : Int) : valV (drK pc pl k) (.inr "cells") = some (.ref pc) := by simp [valV, drK]
theorem dr_left (pc pl : Addr) (k : Int) : valV (drK pc pl k) (.inr "left") = some (.ref pl) := by simp [valV, drK, k_cl]
theorem dr_at (pc pl : Addr) (k : Int) : valV (drK pc pl k) (.inr "at") = some (.int k) := by simp [valV, drK, k_ca, k_la]
theorem dr_putL (pc pl q : Addr) (k : Int) : putK (drK pc pl k) (.inr "left") (.ref q) = drK pc q k := by simp [putK, drK, k_cl, k_al]
theorem dr_putA (pc pl : Addr) (k j : Int) : putK (drK pc pl k) (.inr "at") (.int j) = drK pc pl j := by simp [putK, drK, k_ca, k_la]
theorem dr_merge (pc pl : Addr) (k : Int) : mergeK [] (drK pc pl k) = drK pc pl k := by simp [mergeK, putK, drK, k_cl, k_ca, k_la]
theorem ints_flat (l : List Int) : SeqAt.shaped (.list (l.map .int)) = true := list_shaped fun d hd => by
  obtain ⟨i, -, rfl⟩ := List.mem_map.mp hd
  exact ⟨by simp [PyData.canLay0], by simp [PyData.depth]⟩
abbrev sp_next (P : Program) (w : World) (K : PySem.W.Frag) : Sp := DSp (α := Int) P w K (fun t => [.int t]) (fun t => 0 < t ∧ t ≤ 1000000) 1 10000 fun t d => ∃ j, d = .int j ∧ 0 ≤ j ∧ j < t
section
variable {P : Program} {w : World} {K : PySem.W.Frag} {mg : Str → Option Value} {base : Heap} {C1 C2 C3 : Addr}
theorem nx_retB {C : Ct} {Γ : List SV} {Δ : Dl} {D : Ends} {t1 t2 : TE} {cs ls : List Int} (h1 : ∀ p, EVL C Γ ((p, .dk []) :: Δ) t1 (cs.map .int)) (h2 : ∀ p q, EVL C Γ ((q, .ml (cs.map .int)) :: (p, .dk []) :: Δ) t2 (ls.map .int)) (hc : cs.length ≤ 63) (hl : ls.length ≤ 63)
    (k : ∀ E pm G' H', DX pm 0 E → Same C.G0 G' → ST C G' H' [] [] (E ++ Δ) → D.rt (.ref pm) H') : Nx C Γ Δ (tRet (tDisp [(tC (.str "cells"), t1), (tC (.str "left"), t2), (tC (.str "at"), tC (.int 0))]) D) := fun G H σ S p hp => by
  have S1 : ST C G (upd H p (.dK [])) σ Γ ((p, .dk []) :: Δ) := (S.new0 hp).loc (S.g.free hp) (S.apart hp) upd_same
  refine h1 p G _ σ S1 _ fun q vs1 G1 H1 s1 n1 a1 S2 e1 r1 => ?_
  refine h2 p q G1 H1 σ (S2.loc n1 a1 ⟨vs1, e1, r1⟩) _ fun r vs2 G2 H2 s2 n2 a2 S3 e2 r2 => ?_
  have S4 : ST C G2 H2 σ Γ ((r, .ml (ls.map .int)) :: (q, .ml (cs.map .int)) :: (p, .dk []) :: Δ) := S3.loc n2 a2 ⟨vs2, e2, r2⟩
  refine ⟨dk_at S4 (k := 2) rfl, drK q r 0, rfl, Nat.le_of_ble_eq_true rfl, ?_⟩
  rw [dr_merge]
  have S5 := S4.mut (k := 2) (m' := .dk (drK q r 0)) (o := .dK (drK q r 0)) rfl rfl rfl upd_same
  have S6 : ST C G2 (upd H2 p (.dK (drK q r 0))) σ Γ (Dr p q r cs ls 0 ++ Δ) := by
    refine S5.perm ?_
    show List.Perm ((r, MO.ml (ls.map .int)) :: (q, MO.ml (cs.map .int)) :: (p, MO.dk (drK q r 0)) :: Δ) ((p, MO.dk (drK q r 0)) :: (q, MO.ml (cs.map .int)) :: (r, MO.ml (ls.map .int)) :: Δ)
    refine (List.Perm.swap _ _ _).trans (((List.Perm.swap _ _ _).cons _).trans ?_)
    refine (List.Perm.swap _ _ _).trans ?_
    exact List.Perm.refl _
  exact k _ p G2 _ ⟨q, r, cs, ls, 0, rfl, hc, hl, by omega, by omega⟩ S6.g0 S6.noslots
theorem ok_law_begun {f : Addr} {fd : FuncData} (T : Tx P K mg C1 C2 C3) (F : Fun K "_law_begun" "_law_begun" s__law_begun f fd) : FnG P w K mg base 1 f fd ["_law_script"] (BSp P w K) := by
  refine fun_g F sc__law_begun (fun vs H Q E ⟨a, cs, G, Δ, e, _⟩ => by rw [e]; rfl) fun cdv ar up z H vs Q E hgd hr ⟨a, cs, G, Δ, e, hl, S0, hd, hq⟩ => ?_
  subst e
  refine ⟨_, (pss_one (ps_ret (pe_disp (pps_cons pe_str (pe_callTy (gLst (P := P) (w := w) (K := K) ⟨rfl, rfl, rfl⟩ rfl) (by rfl) T.b_list boot_k_list (pa_cons (pv 0) pa_nil)) (pps_cons pe_str (pe_lc (own := [("_law_cell", 1)]) rfl sc__law_begun.nd (gIt (P := P) (w := w) (K := K) ⟨rfl, rfl, rfl⟩ (pv 0)) (blkOk_by (N := ["_law_script", "_law_cell"]) (sc := defScope s__law_begun) (by decide +kernel)) (fun _ _ _ _ _ => (pg_name (i := 1) sc__law_begun.nd rfl (by first | exact Or.inl rfl | exact Or.inr rfl))) (fun _ _ _ _ _ => (pts_one (pt_cmpR op_ge (pv 1) (pe_op op_pow pe_int pe_int) (nomark _)))) (fun _ _ _ _ _ => (pv 1))) (pps_cons pe_str pe_int pps_nil))) rfl rfl (fun h => nomatch h) (by decide)))), ?_⟩
  have S1 : ST ⟨K, P, w, G⟩ G H (L2.start ["_law_script", "_law_cell"] [.ref a]) [.dat (.list (cs.map .int)), .any] Δ := ⟨S0.g0, S0.g, rfl, (fun i sv e => by
    match i, e with
    | 0, e =>
      cases e
      exact ⟨_, rfl, _, rfl, hd⟩
    | 1, e =>
      cases e
      exact ⟨_, rfl, trivial⟩
    | i + 2, e => simp at e), S0.mo, S0.nd⟩
  refine (?_ : Nx ⟨K, P, w, G⟩ [.dat (.list (cs.map .int)), .any] Δ _) G H _ S1
  refine nx_retB (cs := cs) (ls := cs.filter fun c => decide ((10 : Int) ^ (18 : Int).toNat ≤ c)) (fun p => l_listL (ev_var rfl)) (fun p q => ?_) hl (Nat.le_trans (List.length_filter_le _ _) hl) hq
  have e : (cs.filter fun c => decide ((10 : Int) ^ (18 : Int).toNat ≤ c)).map PyData.int = ((cs.map PyData.int).filter (fun d => match d with | .int c => decide ((10 : Int) ^ (18 : Int).toNat ≤ c) | _ => false)).map id := by
    rw [List.map_id, List.filter_map]
    rfl
  rw [e]
  refine evl_lc (vs := [1]) (w_list (ev_var rfl)) (by rw [List.length_map]; omega) fun D hs acc d hd => ?_
  obtain ⟨c, -, rfl⟩ := List.mem_map.mp hd
  exact ⟨[1], _, tg_name, by decide, evt_test (ev_ge (ev_var rfl) (ev_pow ev_int ev_int ⟨by decide, by decide, by decide⟩)), fun _ => ev_var rfl⟩
end
end Kw

/-! text R4 -/
/-! _law_next -/
namespace Kw
open PySem PySem.Spec PyProof.Rows L2 PySem.Calls
section
variable {P : Program} {w : World} {K : PySem.W.Frag} {mg : Str → Option Value} {base : Heap} {C1 C2 C3 : Addr}
theorem nx_asgE {C : Ct} {Γ : List SV} {Δ : Dl} {D : Ends} {te : TE} {i : Nat} {Pd : PyData → Prop} (h : ∃ d, Pd d ∧ EV C Γ Δ te d) (k : ∀ d, Pd d → Nx C (Γ.set i (.dat d)) Δ D.nx) : Nx C Γ Δ (tAsg te (gName i) D) := by
  obtain ⟨d, hd, he⟩ := h
  exact nx_asg he (k d hd)
theorem dr_dx {pm pc pl : Addr} {cs ls : List Int} {k N : Int} (hc : cs.length ≤ 63) (hl : ls.length ≤ 63) (h0 : 0 ≤ k) (h1 : k ≤ N) : DX pm N (Dr pm pc pl cs ls k) := ⟨pc, pl, cs, ls, k, rfl, hc, hl, h0, h1⟩
theorem neM_nil {C : Ct} {Γ : List SV} {Δ : Dl} {ta : TE} {k : Nat} {p : Addr} {ls : List Int} (ha : EVM C Γ Δ ta p) (hk : Δ[k]? = some (p, .ml (ls.map .int))) : EVT C Γ Δ (tTest (tOp (rNeD C.K) ta (tLst tNil))) (!ls.isEmpty) := by
  have h := evt_test (ev_neM ha hk (evl_ev (evl_lst eva_nil (Nat.le_of_ble_eq_true rfl))) (ints_flat ls) (by decide +kernel))
  rw [eqv_lnil] at h
  cases ls <;> exact h
theorem atI_mod {l : List Int} (h : 0 < l.length) (k : Int) : ∃ c, atI (l.map PyData.int) (k % (l.length : Int)) = some (.int c) := by
  have h1 := Int.emod_lt_of_pos k (b := (l.length : Int)) (by omega)
  have h2 := Int.emod_nonneg k (b := (l.length : Int)) (by omega)
  obtain ⟨j, hj⟩ : ∃ j : Nat, k % (l.length : Int) = (j : Int) := ⟨(k % (l.length : Int)).toNat, by omega⟩
  rw [hj] at h1 ⊢
  refine ⟨l[j]'(by omega), ?_⟩
  rw [atI_nat, List.getElem?_map, List.getElem?_eq_getElem (by omega)]
  rfl
theorem ixN_0 {n : Nat} (h : 0 < n) : ixN n 0 = some 0 := by
  unfold ixN
  rw [if_pos (by omega), if_pos (by omega)]
  rfl
theorem ok_law_next {f : Addr} {fd : FuncData} (T : Tx P K mg C1 C2 C3) (F : Fun K "_law_next" "_law_next" s__law_next f fd) : FnG P w K mg base 1 f fd ["_law_m", "_law_total"] (sp_next P w K) := by
  refine body_d F sc__law_next (fun t => rfl) (fun cdv ar up z H Q E hgd hr => ⟨_, (pss_cons (ps_while (passes_of rfl) (PW.pt (pw_and (pt_cmpR (gNe (P := P) (w := w) (K := K) ⟨rfl, rfl, rfl⟩ (hu65 hr)) (pe_dget (hu1 hr) (pv 0) pe_str (fun _ _ => rfl)) (pe_lst pa_nil) (nomark _)) (pw_and1 (pt_cmpR (gEq (P := P) (w := w) (K := K) ⟨rfl, rfl, rfl⟩ (hu65 hr)) (pe_ix (gIx (P := P) (w := w) (K := K) ⟨rfl, rfl, rfl⟩ (hu65 hr)) (pe_dget (hu1 hr) (pv 0) pe_str (fun _ _ => rfl)) pe_int (fun _ _ => rfl)) pe_int (nomark _))))) (pss_one (ps_dput (hu1 hr) (pv 0) pe_str (pe_slice (gSl (P := P) (w := w) (K := K) ⟨rfl, rfl, rfl⟩) (pe_dget (hu1 hr) (pv 0) pe_str (fun _ _ => rfl)) (po_some pe_int) po_none) rfl))) (pss_cons (ps_if (pt_cmpR (gNe (P := P) (w := w) (K := K) ⟨rfl, rfl, rfl⟩ (hu65 hr)) (pe_dget (hu1 hr) (pv 0) pe_str (fun _ _ => rfl)) (pe_lst pa_nil) (nomark _)) (pss_cons (ps_set (i := 2) sc__law_next.nd rfl (by first | exact Or.inl rfl | exact Or.inr rfl) (pe_callTy call_int1 (by rfl) T.b_int boot_k_int (pa_cons (pe_ix (gIx (P := P) (w := w) (K := K) ⟨rfl, rfl, rfl⟩ (hu65 hr)) (pe_dget (hu1 hr) (pv 0) pe_str (fun _ _ => rfl)) pe_int (fun _ _ => rfl)) pa_nil))) (pss_cons (ps_asg (pe_op op_fdiv (pv 2) (pv 1)) (pg_sub (pe_dget (hu1 hr) (pv 0) pe_str (fun _ _ => rfl)) pe_int set_list)) (pss_one (ps_ret (pe_op op_mod (pv 2) (pv 1)))))) pss_nil) (pss_cons (ps_set (i := 3) sc__law_next.nd rfl (by first | exact Or.inl rfl | exact Or.inr rfl) (pe_op (gAdd (P := P) (w := w) (K := K) ⟨rfl, rfl, rfl⟩) (pe_dget (hu1 hr) (pv 0) pe_str (fun _ _ => rfl)) pe_int)) (pss_cons (ps_dput (hu1 hr) (pv 0) pe_str (pv 3) rfl) (pss_cons (ps_set (i := 4) sc__law_next.nd rfl (by first | exact Or.inl rfl | exact Or.inr rfl) (pe_ifExp (pt_cmpR (gNe (P := P) (w := w) (K := K) ⟨rfl, rfl, rfl⟩ (hu65 hr)) (pe_dget (hu1 hr) (pv 0) pe_str (fun _ _ => rfl)) (pe_lst pa_nil) (nomark _)) (pe_ix (gIx (P := P) (w := w) (K := K) ⟨rfl, rfl, rfl⟩ (hu65 hr)) (pe_dget (hu1 hr) (pv 0) pe_str (fun _ _ => rfl)) (pe_op op_mod (pe_callTy call_int1 (by rfl) T.b_int boot_k_int (pa_cons (pv 3) pa_nil)) (pe_callB (gLen (P := P) (w := w) (K := K) ⟨rfl, rfl, rfl⟩ (hu65 hr)) (by rfl) T.b_len boot_k_len (pa_cons (pe_dget (hu1 hr) (pv 0) pe_str (fun _ _ => rfl)) pa_nil))) (fun _ _ => rfl)) pe_int)) (pss_cons (ps_set (i := 5) sc__law_next.nd rfl (by first | exact Or.inl rfl | exact Or.inr rfl) (pe_op (gMul (P := P) (w := w) (K := K) ⟨rfl, rfl, rfl⟩) (pe_callTy call_int1 (by rfl) T.b_int boot_k_int (pa_cons (pe_op (gAdd (P := P) (w := w) (K := K) ⟨rfl, rfl, rfl⟩) (pe_op (gAdd (P := P) (w := w) (K := K) ⟨rfl, rfl, rfl⟩) (pe_op op_mod (pe_callTy call_int1 (by rfl) T.b_int boot_k_int (pa_cons (pv 4) pa_nil)) pe_int) (pe_op (gMul (P := P) (w := w) (K := K) ⟨rfl, rfl, rfl⟩) pe_int (pv 3))) (pe_op (gMul (P := P) (w := w) (K := K) ⟨rfl, rfl, rfl⟩) (pe_op (gMul (P := P) (w := w) (K := K) ⟨rfl, rfl, rfl⟩) pe_int (pv 3)) (pv 3))) pa_nil)) pe_int)) (pss_cons (ps_set (i := 5) sc__law_next.nd rfl (by first | exact Or.inl rfl | exact Or.inr rfl) (pe_op (gMul (P := P) (w := w) (K := K) ⟨rfl, rfl, rfl⟩) (pe_callTy call_int1 (by rfl) T.b_int boot_k_int (pa_cons (pe_op (gAdd (P := P) (w := w) (K := K) ⟨rfl, rfl, rfl⟩) (pe_op op_mod (pe_callTy call_int1 (by rfl) T.b_int boot_k_int (pa_cons (pv 5) pa_nil)) pe_int) (pe_op (gMul (P := P) (w := w) (K := K) ⟨rfl, rfl, rfl⟩) pe_int (pv 3))) pa_nil)) pe_int)) (pss_one (ps_ret (pe_op op_mod (pe_callTy call_int1 (by rfl) T.b_int boot_k_int (pa_cons (pe_op op_fdiv (pe_op op_mod (pe_callTy call_int1 (by rfl) T.b_int boot_k_int (pa_cons (pv 5) pa_nil)) pe_int) pe_int) pa_nil)) (pv 1))))))))))), fun t pm M E0 Δ G ht hM0 hM1 hE hq => ?_⟩)
  obtain ⟨pc, pl, cs, ls, k, rfl, hc, hl, hk0, hkM⟩ := hE
  obtain ⟨ht0, ht1⟩ := ht
  show Nx _ [.loc pm, .dat (.int t), .any, .any, .any, .any] (Dr pm pc pl cs ls k ++ Δ) _
  refine nx_sq ?_
  refine nx_while (fun m Γ' Δ' => ∃ pl ls, m = ls.length ∧ ls.length ≤ 63 ∧ Γ' = [.loc pm, .dat (.int t), .any, .any, .any, .any] ∧ Δ' = Dr pm pc pl cs ls k ++ Δ) ls.length ⟨pl, ls, rfl, hl, rfl, rfl⟩ ?_
  rintro m Γ' Δ' ⟨pl, ls, rfl, hl, rfl, rfl⟩
  have hleft : EVM ⟨K, P, w, G⟩ [.loc pm, .dat (.int t), .any, .any, .any, .any] (Dr pm pc pl cs ls k ++ Δ) (tDGet (tVar 0) (tC (.str "left"))) pl := evm_get (k := 0) (evm_var rfl) rfl (dr_left _ _ _)
  have hmore : EVT ⟨K, P, w, G⟩ [.loc pm, .dat (.int t), .any, .any, .any, .any] (Dr pm pc pl cs ls k ++ Δ) (tTest (tOp (rNeD K) (tDGet (tVar 0) (tC (.str "left"))) (tLst tNil))) (!ls.isEmpty) := neM_nil (k := 2) hleft rfl
  refine ⟨!ls.isEmpty && (match ls with | x :: _ => decide (x = 0) | [] => false), evt_and hmore fun hne => ?_, fun hb => ?_, fun hb => ?_⟩
  · cases ls with
    | nil => cases hne
    | cons x r =>
      refine evt_test (EV.to (ev_eqD (e_ixM (k := 2) (d := .int x) hleft rfl ev_int (atI_nat _ 0)) ev_int rfl rfl) ?_)
      rw [eqv_ints]
  · cases ls with
    | nil => cases hb
    | cons x r =>
      refine nx_dputL (k := 0) (l_slM (k := 2) (lo := some 1) (hi := none) hleft rfl (evo_some ev_int) evo_none) (fun q => evm_var rfl) rfl (Nat.le_of_ble_eq_true rfl) fun q => ?_
      rw [dr_putL]
      have e : cutL (((x :: r).map PyData.int)) (some 1) none = r.map PyData.int := cutL_from _ 1
      rw [e]
      refine Nx.sub (Δ' := (q, .ml (r.map .int)) :: (pm, .dk (drK pc q k)) :: (pc, .ml (cs.map .int)) :: Δ) ?_ (Nx.perm (Δ' := Dr pm pc q cs r k ++ Δ) ?_ ?_)
      · exact (((List.Sublist.refl _).cons _).cons_cons _).cons_cons _ |>.cons_cons _
      · exact (List.Perm.swap _ _ _).trans ((List.Perm.swap _ _ _).cons _)
      · exact nx_lw (m' := r.length) (by simp) ⟨q, r, rfl, by simp at hl; omega, rfl, rfl⟩
  · refine nx_sq ?_
    cases ls with
    | cons x r =>
      refine nx_ifT hmore rfl ?_
      refine nx_sq ?_
      refine nx_asg (ev_intc (e_ixM (k := 2) (d := .int x) hleft rfl ev_int (atI_nat _ 0))) ?_
      (try dsimp only [List.set, setAll])
      refine nx_sq ?_
      refine nx_setM (k := 2) (j := 0) (d := .int (x / t)) (e_div (ev_var rfl) (ev_var rfl) ⟨ht0, by omega⟩) (evm_get (k := 0) (evm_var rfl) rfl (dr_left _ _ _)) ev_int rfl (ixN_0 (by simp)) ?_
      show Nx _ _ (Dr pm pc pl cs ((x / t) :: r) k ++ Δ) _
      refine nx_retX (n := 0) (R := fun d => ∃ j, d = .int j ∧ 0 ≤ j ∧ j < t) (esx_ev (by omega) fun E hE => ⟨.int (x % t), ev_mod (ev_var rfl) (ev_var rfl) ht0, _, rfl, Int.emod_nonneg _ (by omega), Int.emod_lt_of_pos _ ht0⟩) (dr_dx hc (by simpa using hl) hk0 hkM) (by omega) hq
    | nil =>
      refine nx_ifF hmore rfl (nx_nx ?_)
      refine nx_sq ?_
      refine nx_asg (d := .int (k + 1)) (x_add (ev_getI (k := 0) (evm_var rfl) rfl (dr_at _ _ _)) ev_int rfl trivial) ?_
      (try dsimp only [List.set, setAll])
      refine nx_sq ?_
      refine nx_dputI (k := 0) (ev_var rfl) (evm_var rfl) rfl (Nat.le_of_ble_eq_true rfl) ?_
      rw [dr_putA]
      show Nx _ _ (Dr pm pc pl cs [] (k + 1) ++ Δ) _
      (try dsimp only [List.set, setAll])
      refine nx_sq ?_
      have hcells : EVM ⟨K, P, w, G⟩ [.loc pm, .dat (.int t), .any, .dat (.int (k + 1)), .any, .any] (Dr pm pc pl cs [] (k + 1) ++ Δ) (tDGet (tVar 0) (tC (.str "cells"))) pc := evm_get (k := 0) (evm_var rfl) rfl (dr_cells _ _ _)
      refine nx_asgE (Pd := fun d => ∃ c, d = .int c) ?_ ?_
      · cases cs with
        | nil => exact ⟨.int 3, ⟨_, rfl⟩, ev_ifF (neM_nil (k := 1) hcells rfl) rfl ev_int⟩
        | cons x r =>
          obtain ⟨c, e⟩ := atI_mod (l := x :: r) (by simp) (k + 1)
          exact ⟨_, ⟨c, rfl⟩, ev_ifT (neM_nil (k := 1) hcells rfl) rfl (e_ixM (k := 1) hcells rfl (ev_mod (ev_intc (ev_var rfl)) (EV.to (e_lenM (k := 1) hcells rfl) (by rw [List.length_map])) (by rw [List.length_cons]; omega)) e)⟩
      · rintro _ ⟨c, rfl⟩
        (try dsimp only [List.set, setAll])
        refine nx_sq ?_
        refine nx_asg (e_mul (ev_intc (e_add (e_add (ev_mod (ev_intc (ev_var rfl)) ev_int (by decide)) (e_mul ev_int (ev_var rfl) (.inl ⟨by decide, by decide⟩))) (e_mul (e_mul ev_int (ev_var rfl) (.inl ⟨by decide, by decide⟩)) (ev_var rfl) (.inl ⟨by omega, by omega⟩)))) ev_int (.inr ⟨by decide, by decide⟩)) ?_
        (try dsimp only [List.set, setAll])
        refine nx_sq ?_
        refine nx_asg (e_mul (ev_intc (e_add (ev_mod (ev_intc (ev_var rfl)) ev_int (by decide)) (e_mul ev_int (ev_var rfl) (.inl ⟨by decide, by decide⟩)))) ev_int (.inr ⟨by decide, by decide⟩)) ?_
        (try dsimp only [List.set, setAll])
        refine nx_retX (n := 0) (N := M + 1) (R := fun d => ∃ j, d = .int j ∧ 0 ≤ j ∧ j < t) (esx_ev (by omega) fun E hE => ⟨_, ev_mod (ev_intc (e_div (ev_mod (ev_intc (ev_var rfl)) ev_int (by decide)) ev_int ⟨by decide, by decide⟩)) (ev_var rfl) ht0, _, rfl, Int.emod_nonneg _ (by omega), Int.emod_lt_of_pos _ ht0⟩) (dr_dx hc hl (by omega) (by omega)) (by omega) hq
end
end Kw

/-! text R5 -/
/-! _law_well, _law_some_beats_on -/
namespace Kw
open PySem PySem.Spec PyProof.Rows L2 PySem.Calls
abbrev s__law_well : Stmt := top 56
theorem sc__law_well : FnScope ["_law_m", "_law_top", "_law_size", "_law_high", "_law_low", "_law_more"] ["_law_m", "_law_top"] (defScope s__law_well) := ⟨rfl, rfl, rfl, by decide +kernel, rfl, by decide +kernel, by decide +kernel⟩
abbrev s__law_some_beats_on : Stmt := top 63
theorem sc__law_some_beats_on : FnScope ["_law_m", "_law_well_here", "_law_state", "_law_low", "_law_high", "_law_count", "_law_fresh"] ["_law_m", "_law_well_here", "_law_state", "_law_low", "_law_high"] (defScope s__law_some_beats_on) := ⟨rfl, rfl, rfl, by decide +kernel, rfl, by decide +kernel, by decide +kernel⟩
section
variable {C : Ct} {Γ : List SV} {Δ : Dl} {pm : Addr} {N n n1 n2 : Int} {R R1 R2 : PyData → Prop} {Rl Rl1 : List PyData → Prop} {ta tb tc te : TE} {tr : TA} {d : PyData}
theorem esx_nx {i : Nat} {W : WX} {t : Int} (hi : Γ[i]? = some (.loc pm)) (ht : 0 < t ∧ t ≤ 1000000) (hN : 0 ≤ N ∧ N ≤ 10000) (h : ∀ E, DX pm N E → EV C Γ (E ++ Δ) te (.int t)) :
    ESX C Γ pm N 1 Δ (tCallS (sp_next C.P C.w C.K) (WE W) (tCons (tVar i) (tCons te tNil))) (fun d => ∃ j, d = .int j ∧ 0 ≤ j ∧ j < t) :=
  esx_draw (n1 := 0) (n2 := 1) (Rl := fun ds => ds = [.int t]) hi (eax_ev (by omega) fun E hE => ⟨_, eva_cons (h E hE) eva_nil, rfl⟩) (by omega) (fun ds e => ⟨t, e.symm, ht, fun d z => z⟩) (by omega)
theorem esx_plus {a : Int} {J : Int → Prop} (h0 : ∀ E, DX pm N E → EV C Γ (E ++ Δ) ta (.int a)) (h : ESX C Γ pm N n Δ tb (fun d => ∃ j, d = .int j ∧ J j)) : ESX C Γ pm N n Δ (tOp (uAdd C.K) ta tb) (fun d => ∃ j, d = .int (a + j) ∧ J j) :=
  esx_op (n1 := 0) (n2 := n) (R1 := fun d => d = .int a) (esx_ev (by omega) fun E hE => ⟨_, h0 E hE, rfl⟩) (by rw [Int.add_zero]; exact h) (by omega) fun x y hx hy => by
    obtain ⟨j, rfl, hj⟩ := hy
    subst hx
    exact ⟨_, ⟨j, rfl, hj⟩, fun Δ' => opd_add⟩
theorem esx_is (h : ∀ E, DX pm N E → EV C Γ (E ++ Δ) te d) : ESX C Γ pm N 0 Δ te (fun x => x = d) := esx_ev (by omega) fun E hE => ⟨_, h E hE, rfl⟩
theorem eax_c (h : ESX C Γ pm N n1 Δ te R1) (hr : EAX C Γ pm (N + n1) n2 Δ tr Rl1) : EAX C Γ pm N (n1 + n2) Δ (tCons te tr) (fun l => ∃ d ds, l = d :: ds ∧ R1 d ∧ Rl1 ds) := eax_cons h hr (Int.le_refl _) fun d ds a b => ⟨d, ds, rfl, a, b⟩
theorem eax_n : EAX C Γ pm N 0 Δ tNil (fun l => l = []) := eax_nil (Int.le_refl _) rfl
theorem esx_t (h : EAX C Γ pm N n Δ tr Rl) (hl : ∀ ds, Rl ds → ds.length ≤ 1000) : ESX C Γ pm N n Δ (tTup tr) (fun d => ∃ ds, d = .tuple ds ∧ Rl ds) := esx_tup h hl fun ds z => ⟨ds, rfl, z⟩
end
abbrev sp_well (P : Program) (w : World) (K : PySem.W.Frag) : Sp := DSp (α := Unit) P w K (fun _ => [.int 4]) (fun _ => True) 9 9000 fun _ d => ∃ v : Wl, v.Ok ∧ d = v.d
abbrev Bo := Wl × S × Int × Int
abbrev sp_beats (P : Program) (w : World) (K : PySem.W.Frag) : Sp := DSp (α := Bo) P w K (fun a => [a.1.d, a.2.1.d, .int a.2.2.1, .int a.2.2.2]) (fun a => a.1.Ok ∧ a.2.1.Ok a.1 ∧ a.2.2.1 ≤ a.2.2.2 ∧ a.2.2.2 ≤ a.2.2.1 + 1000) 6 9000 fun a d => ∃ s : S, s.Ok a.1 ∧ d = s.d
section
variable {P : Program} {w : World} {K : PySem.W.Frag} {mg : Str → Option Value} {base : Heap} {C1 C2 C3 : Addr}
theorem ok_law_well {f : Addr} {fd : FuncData} (T : Tx P K mg C1 C2 C3) (F : Fun K "_law_well" "_law_well" s__law_well f fd) (c__law_next : Cl P w K mg base 1 "_law_next" (sp_next P w K)) : FnG P w K mg base 2 f fd ["_law_m", "_law_top"] (sp_well P w K) := by
  refine body_d F sc__law_well (fun t => rfl) (fun cdv ar up z H Q E hgd hr => ⟨_, (pss_cons (ps_set (i := 2) sc__law_well.nd rfl (by first | exact Or.inl rfl | exact Or.inr rfl) (pe_op (gAdd (P := P) (w := w) (K := K) ⟨rfl, rfl, rfl⟩) pe_int (gCl (P := P) (w := w) (K := K) ⟨rfl, rfl, rfl⟩ rfl rfl c__law_next hr hgd (by rfl) takesF (pa_cons (pv 0) (pa_cons (pe_op op_sub (pv 1) pe_int) pa_nil))))) (pss_cons (ps_set (i := 3) sc__law_well.nd rfl (by first | exact Or.inl rfl | exact Or.inr rfl) (pe_op (gAdd (P := P) (w := w) (K := K) ⟨rfl, rfl, rfl⟩) pe_int (gCl (P := P) (w := w) (K := K) ⟨rfl, rfl, rfl⟩ rfl rfl c__law_next hr hgd (by rfl) takesF (pa_cons (pv 0) (pa_cons (pv 2) pa_nil))))) (pss_cons (ps_set (i := 4) sc__law_well.nd rfl (by first | exact Or.inl rfl | exact Or.inr rfl) (gCl (P := P) (w := w) (K := K) ⟨rfl, rfl, rfl⟩ rfl rfl c__law_next hr hgd (by rfl) takesF (pa_cons (pv 0) (pa_cons (pv 3) pa_nil)))) (pss_cons (ps_set (i := 5) sc__law_well.nd rfl (by first | exact Or.inl rfl | exact Or.inr rfl) (pe_tup (pa_cons (pe_op (gAdd (P := P) (w := w) (K := K) ⟨rfl, rfl, rfl⟩) pe_int (gCl (P := P) (w := w) (K := K) ⟨rfl, rfl, rfl⟩ rfl rfl c__law_next hr hgd (by rfl) takesF (pa_cons (pv 0) (pa_cons pe_int pa_nil)))) (pa_cons (pe_op (gAdd (P := P) (w := w) (K := K) ⟨rfl, rfl, rfl⟩) pe_int (gCl (P := P) (w := w) (K := K) ⟨rfl, rfl, rfl⟩ rfl rfl c__law_next hr hgd (by rfl) takesF (pa_cons (pv 0) (pa_cons pe_int pa_nil)))) (pa_cons (pe_op (gAdd (P := P) (w := w) (K := K) ⟨rfl, rfl, rfl⟩) pe_int (gCl (P := P) (w := w) (K := K) ⟨rfl, rfl, rfl⟩ rfl rfl c__law_next hr hgd (by rfl) takesF (pa_cons (pv 0) (pa_cons pe_int pa_nil)))) (pa_cons (pe_op (gAdd (P := P) (w := w) (K := K) ⟨rfl, rfl, rfl⟩) pe_int (gCl (P := P) (w := w) (K := K) ⟨rfl, rfl, rfl⟩ rfl rfl c__law_next hr hgd (by rfl) takesF (pa_cons (pv 0) (pa_cons pe_int pa_nil)))) (pa_cons (gCl (P := P) (w := w) (K := K) ⟨rfl, rfl, rfl⟩ rfl rfl c__law_next hr hgd (by rfl) takesF (pa_cons (pv 0) (pa_cons pe_int pa_nil))) pa_nil))))))) (pss_one (ps_ret (pe_op (gAdd (P := P) (w := w) (K := K) ⟨rfl, rfl, rfl⟩) (pe_tup (pa_cons (pv 2) (pa_cons (pe_op (gAdd (P := P) (w := w) (K := K) ⟨rfl, rfl, rfl⟩) pe_int (gCl (P := P) (w := w) (K := K) ⟨rfl, rfl, rfl⟩ rfl rfl c__law_next hr hgd (by rfl) takesF (pa_cons (pv 0) (pa_cons pe_int pa_nil)))) (pa_cons (pv 3) (pa_cons (pv 4) pa_nil))))) (pv 5)))))))), fun _ pm M E0 Δ G _ hM0 hM1 hE hq => ?_⟩)
  show Nx _ [.loc pm, .dat (.int 4), .any, .any, .any, .any] (E0 ++ Δ) _
  refine nx_sq ?_
  refine nx_asgX (esx_plus (a := 2) (fun E hE => ev_int) (esx_nx (t := 4 - 1) rfl (by omega) (by omega) fun E hE => e_sub (ev_var rfl) ev_int)) hE ?_
  rintro _ E1 ⟨a, rfl, ha0, ha1⟩ hE1
  (try dsimp only [List.set, setAll])
  refine nx_sq ?_
  refine nx_asgX (esx_plus (a := 1) (fun E hE => ev_int) (esx_nx (t := 2 + a) rfl (by omega) (by omega) fun E hE => ev_var rfl)) hE1 ?_
  rintro _ E2 ⟨b, rfl, hb0, hb1⟩ hE2
  (try dsimp only [List.set, setAll])
  refine nx_sq ?_
  refine nx_asgX (esx_nx (t := 1 + b) rfl (by omega) (by omega) fun E hE => ev_var rfl) hE2 ?_
  rintro _ E3 ⟨c, rfl, hc0, hc1⟩ hE3
  (try dsimp only [List.set, setAll])
  refine nx_sq ?_
  refine nx_asgX (esx_t (eax_c (esx_plus (a := 1) (fun E hE => ev_int) (esx_nx (t := 3) rfl (by omega) (by omega) fun E hE => ev_int)) (eax_c (esx_plus (a := 1) (fun E hE => ev_int) (esx_nx (t := 3) rfl (by omega) (by omega) fun E hE => ev_int))
    (eax_c (esx_plus (a := 1) (fun E hE => ev_int) (esx_nx (t := 2) rfl (by omega) (by omega) fun E hE => ev_int)) (eax_c (esx_plus (a := 1) (fun E hE => ev_int) (esx_nx (t := 2) rfl (by omega) (by omega) fun E hE => ev_int)) (eax_c (esx_nx (t := 3) rfl (by omega) (by omega) fun E hE => ev_int) eax_n))))) ?_) hE3 ?_
  · rintro _ ⟨_, _, rfl, -, _, _, rfl, -, _, _, rfl, -, _, _, rfl, -, _, _, rfl, -, rfl⟩
    exact Nat.le_of_ble_eq_true rfl
  rintro _ E4 ⟨_, rfl, _, _, rfl, ⟨m1, rfl, h10, h11⟩, _, _, rfl, ⟨m2, rfl, h20, h21⟩, _, _, rfl, ⟨m3, rfl, h30, h31⟩, _, _, rfl, ⟨m4, rfl, h40, h41⟩, _, _, rfl, ⟨m5, rfl, h50, h51⟩, rfl⟩ hE4
  (try dsimp only [List.set, setAll])
  refine nx_retX (n := 1) (esx_op (esx_t (eax_c (esx_is fun E hE => ev_var rfl) (eax_c (esx_plus (a := 1) (fun E hE => ev_int) (esx_nx (t := 3) rfl (by omega) (by omega) fun E hE => ev_int)) (eax_c (esx_is fun E hE => ev_var rfl) (eax_c (esx_is fun E hE => ev_var rfl) eax_n)))) ?_) (esx_is fun E hE => ev_var rfl) (by omega) ?_) hE4 (by omega) hq
  · rintro _ ⟨_, _, rfl, -, _, _, rfl, -, _, _, rfl, -, _, _, rfl, -, rfl⟩
    exact Nat.le_of_ble_eq_true rfl
  · rintro _ _ ⟨_, rfl, _, _, rfl, rfl, _, _, rfl, ⟨q, rfl, hq0, hq1⟩, _, _, rfl, rfl, _, _, rfl, rfl, rfl⟩ rfl
    exact ⟨_, ⟨⟨2 + a, 1 + q, 1 + b, c, 1 + m1, 1 + m2, 1 + m3, 1 + m4, m5⟩, ⟨by simp only; omega, by simp only; omega, by simp only; omega, by simp only; omega, by simp only; omega, by simp only; omega, by simp only; omega, by simp only; omega, by simp only; omega⟩, rfl⟩, fun Δ' => opd_cat (Nat.le_of_ble_eq_true rfl)⟩
theorem ok_law_some_beats_on {f : Addr} {fd : FuncData} (T : Tx P K mg C1 C2 C3) (F : Fun K "_law_some_beats_on" "_law_some_beats_on" s__law_some_beats_on f fd) (c__law_next : Cl P w K mg base 1 "_law_next" (sp_next P w K)) (c__law_step : Cl P w K mg base 1 "_law_step" (sp_law_step P w K)) : FnG P w K mg base 2 f fd ["_law_m", "_law_well_here", "_law_state", "_law_low", "_law_high"] (sp_beats P w K) := by
  refine body_d F sc__law_some_beats_on (fun t => rfl) (fun cdv ar up z H Q E hgd hr => ⟨_, (pss_cons (ps_for (passes_of rfl) rfl (pi_range1 (by rfl) T.b_range (pa_cons (gCl (P := P) (w := w) (K := K) ⟨rfl, rfl, rfl⟩ rfl rfl c__law_next hr hgd (by rfl) takesF (pa_cons (pv 0) (pa_cons pe_int pa_nil))) pa_nil)) (pg_name (i := 5) sc__law_some_beats_on.nd rfl (by first | exact Or.inl rfl | exact Or.inr rfl)) (pss_cons (ps_set (i := 6) sc__law_some_beats_on.nd rfl (by first | exact Or.inl rfl | exact Or.inr rfl) (gCl (P := P) (w := w) (K := K) ⟨rfl, rfl, rfl⟩ rfl rfl c__law_step hr hgd (by rfl) takesF (pa_cons (pv 1) (pa_cons (pv 2) (pa_cons (pe_op (gAdd (P := P) (w := w) (K := K) ⟨rfl, rfl, rfl⟩) (pv 3) (gCl (P := P) (w := w) (K := K) ⟨rfl, rfl, rfl⟩ rfl rfl c__law_next hr hgd (by rfl) takesF (pa_cons (pv 0) (pa_cons (pe_op (gAdd (P := P) (w := w) (K := K) ⟨rfl, rfl, rfl⟩) (pe_op op_sub (pv 4) (pv 3)) pe_int) pa_nil)))) pa_nil))))) (pss_one (ps_if (pt_not (pt_val (gIsinst (P := P) (w := w) (K := K) ⟨rfl, rfl, rfl⟩ (by rfl) T.b_isinstance (pv 6) (pe_bltn (v := .ty "str") (by rfl) T.b_str boot_ty_str rfl)))) (pss_one (ps_set (i := 2) sc__law_some_beats_on.nd rfl (by first | exact Or.inl rfl | exact Or.inr rfl) (pv 6))) pss_nil)))) (pss_one (ps_ret (pv 2)))), fun a pm M E0 Δ G ho hM0 hM1 hE hq => ?_⟩)
  obtain ⟨v, s, lo, hi⟩ := a
  obtain ⟨hv, hs, hlh, hhi⟩ : v.Ok ∧ s.Ok v ∧ lo ≤ hi ∧ hi ≤ lo + 1000 := ho
  show Nx _ [.loc pm, .dat v.d, .dat s.d, .dat (.int lo), .dat (.int hi), .any, .any] (E0 ++ Δ) _
  refine nx_sq ?_
  refine nx_forX (n := 1) (wdx_rng1 (J := fun j => 0 ≤ j ∧ j < 6) (?_ : EAX _ _ pm M 1 Δ _ _)) hE ?_
  · refine eax_cons (n2 := 0) (esx_nx (t := 6) rfl (by omega) (by omega) fun E hE => ev_int) eax_n (by omega) ?_
    rintro _ _ ⟨j, rfl, h0, h1⟩ rfl
    exact ⟨j, rfl, ⟨h0, h1⟩, h0, by omega⟩
  rintro E1 _ hE1 ⟨j, ⟨hj0, hj1⟩, rfl⟩
  refine ⟨fun i Γ' Δ' => ∃ (E : Dl) (s' : S) (x y : SV), DX pm (M + 1 + i) E ∧ s'.Ok v ∧ Γ' = [.loc pm, .dat v.d, .dat s'.d, .dat (.int lo), .dat (.int hi), x, y] ∧ Δ' = E ++ Δ, ⟨E1, s, .any, .any, hE1.mono (by omega), hs, rfl, rfl⟩, ?_, ?_⟩
  · rintro hs' i d Γ' Δ' hd ⟨E2, s', x, y, hE2, hs1, rfl, rfl⟩
    have hi6 : i < 6 := by
      have := (List.getElem?_eq_some_iff.mp hd).1
      simp [rngD] at this
      omega
    refine ⟨[5], _, tg_name, ?_⟩
    (try dsimp only [List.set, setAll])
    rw [List.append_assoc]
    refine nx_sq ?_
    refine nx_asgX (R := fun d => ∃ i, d = (stepF v s' i).d) (esx_call (eax_c (esx_is fun E hE => ev_var rfl) (eax_c (esx_is fun E hE => ev_var rfl) (eax_c (esx_plus (a := lo) (fun E hE => ev_var rfl) (esx_nx (t := hi - lo + 1) rfl (by omega) (by omega) fun E hE => x_add (da := .int (hi - lo)) (db := .int 1) (e_sub (ev_var rfl) (ev_var rfl)) ev_int rfl trivial)) eax_n))) ?_) hE2 ?_
    · rintro _ ⟨_, _, rfl, rfl, _, _, rfl, rfl, _, _, rfl, ⟨i, rfl, -⟩, rfl⟩
      generalize lo + i = i
      refine ⟨((v, s'), i), _, rfl, ⟨hv, hs1⟩, fun r h => h, ?_, i, rfl⟩
      cases stepF v s' i with
      | over => rfl
      | dry => rfl
      | st t => exact lfree_S t
    rintro _ E3 ⟨i', rfl⟩ hE3
    (try dsimp only [List.set, setAll])
    cases ho : stepF v s' i' with
    | over =>
      refine nx_ifF (b := !isStr (Out.d .over)) (evt_not (evt_test (ev_isStr (ev_var rfl)))) rfl (nx_nx ?_)
      rw [← List.append_assoc]
      exact nx_li ⟨E3, s', _, _, hE3.mono (by omega), hs1, rfl, rfl⟩
    | dry =>
      refine nx_ifF (b := !isStr (Out.d .dry)) (evt_not (evt_test (ev_isStr (ev_var rfl)))) rfl (nx_nx ?_)
      rw [← List.append_assoc]
      exact nx_li ⟨E3, s', _, _, hE3.mono (by omega), hs1, rfl, rfl⟩
    | st t =>
      refine nx_ifT (b := !isStr (Out.d (.st t))) (evt_not (evt_test (ev_isStr (ev_var rfl)))) rfl ?_
      refine nx_asg (d := t.d) (ev_var rfl) ?_
      (try dsimp only [List.set, setAll])
      rw [← List.append_assoc]
      exact nx_li ⟨E3, t, _, _, hE3.mono (by omega), step_ok hv hs1 ho, rfl, rfl⟩
  · rintro Γ' Δ' ⟨E2, s', x, y, hE2, hs1, rfl, rfl⟩
    refine nx_retX (n := 0) (esx_ev (by omega) fun E hE => ⟨s'.d, ev_var rfl, s', hs1, rfl⟩) hE2 (M := M + 6) ?_ hq
    simp [rngD]
    omega
end
end Kw

/-! text R6 -/
/-! _law_bent -/
namespace Kw
open PySem PySem.Spec PyProof.Rows L2 PySem.Calls
abbrev s__law_bent : Stmt := top 67
theorem sc__law_bent : FnScope ["_law_m", "_law_sheet", "_law_word", "_law_rows", "_law_k", "_law_odds", "_law_odd", "_law_some"] ["_law_m", "_law_sheet"] (defScope s__law_bent) := ⟨rfl, rfl, rfl, by decide +kernel, rfl, by decide +kernel, by decide +kernel⟩
def ShOk (v : Wl) : Sheet → Prop
  | .two _ t => TabS v t
  | .odd d => isTup d = false
  | .one _ => True
def oddL : List PyData := [.none, .tuple [.str "ready"], .tuple [.str "beat", .int 0], .tuple [.str "beat", .int 1], .tuple [.str "on", .int 1], .tuple [.str "beat", .bool true], .str "x", .tuple [], .tuple [.str "rest", .int 1]]
theorem oddL_elem (v : Wl) : ∀ d ∈ oddL, Elem v d := by
  intro d hd
  simp only [oddL, List.mem_cons, List.not_mem_nil, or_false] at hd
  rcases hd with rfl | rfl | rfl | rfl | rfl | rfl | rfl | rfl | rfl
  · exact .inr (.inr ⟨0, by decide, rfl⟩)
  · exact .inl (.inr (.inr (.inl rfl)))
  · exact .inl (.inr (.inr (.inr ⟨0, by decide, by decide, rfl⟩)))
  · exact .inl (.inr (.inr (.inr ⟨1, by decide, by decide, rfl⟩)))
  · exact .inl (.inl ⟨0, by decide, rfl⟩)
  · exact .inr (.inr ⟨1, by decide, rfl⟩)
  · exact .inr (.inr ⟨2, by decide, rfl⟩)
  · exact .inr (.inr ⟨3, by decide, rfl⟩)
  · exact .inl (.inr (.inl ⟨0, by decide, rfl⟩))
/-- the sheets that are made of one -/
def bentL (o : Bool) (rows : List PyData) (odd : PyData) (k : Nat) : List Sheet :=
  [.two o (.inl (rows.take k ++ rows.drop (k + 1))), .two o (.inl (rows.take k ++ [odd] ++ rows.drop k)), .two o (.inl rows.reverse), .two o (.inl (rows ++ rows)), .two (!o) (.inl rows), .two o (.inr (.list rows)), .two o (.inl []),
    .odd (.list [.str (wordS o), .tuple rows]), .one o]
theorem bentL_ok {v : Wl} {o : Bool} {rows : List PyData} {odd : PyData} {k : Nat} (h1 : rows.length ≤ 9000) (h2 : ∀ d ∈ rows, Elem v d) (h3 : Elem v odd) : ∀ sh ∈ bentL o rows odd k, ShOk v sh := by
  have t1 : ∀ n, (rows.take n).length ≤ 9000 := fun n => by rw [List.length_take]; omega
  have t2 : ∀ n, (rows.drop n).length ≤ 9000 := fun n => by rw [List.length_drop]; omega
  have m1 : ∀ n, ∀ d ∈ rows.take n, Elem v d := fun n d hd => h2 d (List.mem_of_mem_take hd)
  have m2 : ∀ n, ∀ d ∈ rows.drop n, Elem v d := fun n d hd => h2 d (List.mem_of_mem_drop hd)
  intro sh hsh
  simp only [bentL, List.mem_cons, List.not_mem_nil, or_false] at hsh
  rcases hsh with rfl | rfl | rfl | rfl | rfl | rfl | rfl | rfl | rfl
  · refine ⟨?_, fun d hd => ?_⟩
    · have := t1 k; have := t2 (k + 1); rw [List.length_append]; omega
    · rcases List.mem_append.mp hd with hd | hd
      · exact m1 _ d hd
      · exact m2 _ d hd
  · refine ⟨?_, fun d hd => ?_⟩
    · have := t1 k; have := t2 k; rw [List.length_append, List.length_append, List.length_singleton]; omega
    · rcases List.mem_append.mp hd with hd | hd
      · rcases List.mem_append.mp hd with hd | hd
        · exact m1 _ d hd
        · rw [List.mem_singleton.mp hd]; exact h3
      · exact m2 _ d hd
  · exact ⟨by rw [List.length_reverse]; omega, fun d hd => h2 d (List.mem_reverse.mp hd)⟩
  · refine ⟨by rw [List.length_append]; omega, fun d hd => ?_⟩
    rcases List.mem_append.mp hd with hd | hd <;> exact h2 d hd
  · exact ⟨by omega, h2⟩
  · rfl
  · exact ⟨by simp, fun d hd => nomatch hd⟩
  · rfl
  · trivial
abbrev Bt2 := Wl × Bool × List PyData
abbrev sp_bent (P : Program) (w : World) (K : PySem.W.Frag) : Sp := DSp (α := Bt2) P w K (fun a => [Sheet.d (.two a.2.1 (.inl a.2.2))]) (fun a => a.2.2.length ≤ 9000 ∧ ∀ d ∈ a.2.2, Elem a.1 d) 3 9000 fun a d => ∃ sh : Sheet, d = sh.d ∧ ShOk a.1 sh
theorem RtX.sub {C : Ct} {rt : VK} {pm : Addr} {N : Int} {Δ Δ' : Dl} {R : PyData → Prop} (h : RtX C rt pm N Δ R) (s : Δ.Sublist Δ') : RtX C rt pm N Δ' R := fun E' v d G' H' hE s1 S r z => h E' v d G' H' hE s1 (S.sub (s.append_left E')) r z
section
variable {P : Program} {w : World} {K : PySem.W.Frag} {mg : Str → Option Value} {base : Heap} {C1 C2 C3 : Addr}
theorem at_nat {l : List PyData} {j : Int} (h0 : 0 ≤ j) (h1 : j < l.length) : ∃ d, d ∈ l ∧ atI l j = some d := by
  obtain ⟨n, rfl⟩ : ∃ n : Nat, j = (n : Int) := ⟨j.toNat, by omega⟩
  refine ⟨l[n]'(by omega), List.getElem_mem _, ?_⟩
  rw [atI_nat, List.getElem?_eq_getElem (by omega)]
theorem ok_law_bent {f : Addr} {fd : FuncData} (T : Tx P K mg C1 C2 C3) (F : Fun K "_law_bent" "_law_bent" s__law_bent f fd) (c__law_next : Cl P w K mg base 1 "_law_next" (sp_next P w K)) : FnG P w K mg base 2 f fd ["_law_m", "_law_sheet"] (sp_bent P w K) := by
  refine body_d F sc__law_bent (fun t => rfl) (fun cdv ar up z H Q E hgd hr => ⟨_, (pss_cons (ps_asg (pv 1) (gTupT (n := 2) (P := P) (w := w) (K := K) ⟨rfl, rfl, rfl⟩ rfl (pgs_cons (pg_name (i := 2) sc__law_bent.nd rfl (by first | exact Or.inl rfl | exact Or.inr rfl)) (pgs_cons (pg_name (i := 3) sc__law_bent.nd rfl (by first | exact Or.inl rfl | exact Or.inr rfl)) pgs_nil)) rfl rfl)) (pss_cons (ps_set (i := 4) sc__law_bent.nd rfl (by first | exact Or.inl rfl | exact Or.inr rfl) (gCl (P := P) (w := w) (K := K) ⟨rfl, rfl, rfl⟩ rfl rfl c__law_next hr hgd (by rfl) takesF (pa_cons (pv 0) (pa_cons (pe_op (gAdd (P := P) (w := w) (K := K) ⟨rfl, rfl, rfl⟩) (pe_callB (gLen (P := P) (w := w) (K := K) ⟨rfl, rfl, rfl⟩ (hu65 hr)) (by rfl) T.b_len boot_k_len (pa_cons (pv 3) pa_nil)) pe_int) pa_nil)))) (pss_cons (ps_set (i := 5) sc__law_bent.nd rfl (by first | exact Or.inl rfl | exact Or.inr rfl) (pe_lst (pa_cons pe_non (pa_cons (pe_tup (pa_cons pe_str pa_nil)) (pa_cons (pe_tup (pa_cons pe_str (pa_cons pe_int pa_nil))) (pa_cons (pe_tup (pa_cons pe_str (pa_cons pe_int pa_nil))) (pa_cons (pe_tup (pa_cons pe_str (pa_cons pe_int pa_nil))) (pa_cons (pe_tup (pa_cons pe_str (pa_cons pe_bl pa_nil))) (pa_cons pe_str (pa_cons (pe_tup pa_nil) (pa_cons (pe_tup (pa_cons pe_str (pa_cons pe_int pa_nil))) pa_nil))))))))))) (pss_cons (ps_set (i := 6) sc__law_bent.nd rfl (by first | exact Or.inl rfl | exact Or.inr rfl) (pe_ix (gIx (P := P) (w := w) (K := K) ⟨rfl, rfl, rfl⟩ (hu65 hr)) (pv 5) (gCl (P := P) (w := w) (K := K) ⟨rfl, rfl, rfl⟩ rfl rfl c__law_next hr hgd (by rfl) takesF (pa_cons (pv 0) (pa_cons pe_int pa_nil))) (fun _ _ => rfl))) (pss_cons (ps_set (i := 7) sc__law_bent.nd rfl (by first | exact Or.inl rfl | exact Or.inr rfl) (pe_lst (pa_cons (pe_tup (pa_cons (pv 2) (pa_cons (pe_op (gAdd (P := P) (w := w) (K := K) ⟨rfl, rfl, rfl⟩) (pe_slice (gSl (P := P) (w := w) (K := K) ⟨rfl, rfl, rfl⟩) (pv 3) po_none (po_some (pv 4))) (pe_slice (gSl (P := P) (w := w) (K := K) ⟨rfl, rfl, rfl⟩) (pv 3) (po_some (pe_op (gAdd (P := P) (w := w) (K := K) ⟨rfl, rfl, rfl⟩) (pv 4) pe_int)) po_none)) pa_nil))) (pa_cons (pe_tup (pa_cons (pv 2) (pa_cons (pe_op (gAdd (P := P) (w := w) (K := K) ⟨rfl, rfl, rfl⟩) (pe_op (gAdd (P := P) (w := w) (K := K) ⟨rfl, rfl, rfl⟩) (pe_slice (gSl (P := P) (w := w) (K := K) ⟨rfl, rfl, rfl⟩) (pv 3) po_none (po_some (pv 4))) (pe_tup (pa_cons (pv 6) pa_nil))) (pe_slice (gSl (P := P) (w := w) (K := K) ⟨rfl, rfl, rfl⟩) (pv 3) (po_some (pv 4)) po_none)) pa_nil))) (pa_cons (pe_tup (pa_cons (pv 2) (pa_cons (gRev (P := P) (w := w) (K := K) ⟨rfl, rfl, rfl⟩ (pv 3)) pa_nil))) pa_nil))))) (pss_cons (ps_set (i := 7) sc__law_bent.nd rfl (by first | exact Or.inl rfl | exact Or.inr rfl) (pe_op (gAdd (P := P) (w := w) (K := K) ⟨rfl, rfl, rfl⟩) (pv 7) (pe_lst (pa_cons (pe_tup (pa_cons (pv 2) (pa_cons (pe_op (gAdd (P := P) (w := w) (K := K) ⟨rfl, rfl, rfl⟩) (pv 3) (pv 3)) pa_nil))) (pa_cons (pe_tup (pa_cons (pe_ifExp (pt_cmpR (gEq (P := P) (w := w) (K := K) ⟨rfl, rfl, rfl⟩ (hu65 hr)) (pv 2) pe_str (nomark _)) pe_str pe_str) (pa_cons (pv 3) pa_nil))) (pa_cons (pe_tup (pa_cons (pv 2) (pa_cons (pe_callTy (gLst (P := P) (w := w) (K := K) ⟨rfl, rfl, rfl⟩ rfl) (by rfl) T.b_list boot_k_list (pa_cons (pv 3) pa_nil)) pa_nil))) (pa_cons (pe_tup (pa_cons (pv 2) (pa_cons (pe_tup pa_nil) pa_nil))) pa_nil))))))) (pss_one (ps_ret (pe_ix (gIx (P := P) (w := w) (K := K) ⟨rfl, rfl, rfl⟩ (hu65 hr)) (pe_op (gAdd (P := P) (w := w) (K := K) ⟨rfl, rfl, rfl⟩) (pv 7) (pe_lst (pa_cons (pe_callTy (gLst (P := P) (w := w) (K := K) ⟨rfl, rfl, rfl⟩ rfl) (by rfl) T.b_list boot_k_list (pa_cons (pv 1) pa_nil)) (pa_cons (pe_tup (pa_cons (pv 2) pa_nil)) pa_nil)))) (gCl (P := P) (w := w) (K := K) ⟨rfl, rfl, rfl⟩ rfl rfl c__law_next hr hgd (by rfl) takesF (pa_cons (pv 0) (pa_cons pe_int pa_nil))) (fun _ _ => rfl)))))))))), fun a pm M E0 Δ G ho hM0 hM1 hE hq => ?_⟩)
  obtain ⟨v, o, rows⟩ := a
  obtain ⟨hlen, hel⟩ : rows.length ≤ 9000 ∧ ∀ d ∈ rows, Elem v d := ho
  show Nx _ [.loc pm, .dat (.tuple [.str (wordS o), .tuple rows]), .any, .any, .any, .any, .any, .any] (E0 ++ Δ) _
  refine nx_sq (nx_unpack (js := [2, 3]) (ds := [.str (wordS o), .tuple rows]) (ev_var rfl) rfl rfl ?_)
  (try dsimp only [List.set, setAll])
  refine nx_sq ?_
  refine nx_asgX (esx_nx (t := rows.length + 1) rfl (by omega) (by omega) fun E hE => x_add (da := .int (rows.length : Int)) (db := .int 1) (x_len (ev_var rfl) rfl) ev_int rfl trivial) hE ?_
  rintro _ E1 ⟨k, rfl, hk0, hk1⟩ hE1
  obtain ⟨k, rfl⟩ : ∃ n : Nat, k = (n : Int) := ⟨k.toNat, by omega⟩
  (try dsimp only [List.set, setAll])
  refine nx_sq ?_
  refine nx_asg (d := .list oddL) (evl_ev (evl_lst ?_ (Nat.le_of_ble_eq_true rfl))) ?_
  · repeat' (first | exact eva_nil | apply eva_cons | exact ev_non | exact ev_str | exact ev_int | exact ev_bl | refine ev_tup ?_ (Nat.le_of_ble_eq_true rfl))
  (try dsimp only [List.set, setAll])
  refine nx_sq ?_
  refine nx_asgX (n := 1) (R := Elem v) (esx_op (esx_is fun E hE => ev_var rfl) (esx_nx (t := 9) rfl (by omega) (by omega) fun E hE => ev_int) (by omega) ?_) hE1 ?_
  · rintro _ _ rfl ⟨j, rfl, h0, h1⟩
    obtain ⟨d, hd, e⟩ := at_nat (l := oddL) h0 (by exact h1)
    exact ⟨d, oddL_elem v d hd, fun Δ' => opd_ixL e⟩
  rintro odd E2 hodd hE2
  (try dsimp only [List.set, setAll])
  refine nx_sq ?_
  have c1 : cutL rows none (some (k : Int)) = rows.take k := cutL_to rows k
  have c2 : cutL rows (some ((k : Int) + 1)) none = rows.drop (k + 1) := cutL_from rows (k + 1)
  have c3 : cutL rows (some (k : Int)) none = rows.drop k := cutL_from rows k
  have t1 : ∀ n, (rows.take n).length ≤ 9000 := fun n => by rw [List.length_take]; omega
  have t2 : ∀ n, (rows.drop n).length ≤ 9000 := fun n => by rw [List.length_drop]; omega
  refine nx_asgL (ds := [Sheet.d (.two o (.inl (rows.take k ++ rows.drop (k + 1)))), Sheet.d (.two o (.inl (rows.take k ++ [odd] ++ rows.drop k))), Sheet.d (.two o (.inl rows.reverse))]) (evl_lst (eva_cons ?_ (eva_cons ?_ (eva_cons ?_ eva_nil))) (Nat.le_of_ble_eq_true rfl)) fun p => ?_
  · refine ev_tup (eva_cons (ev_var rfl) (eva_cons ?_ eva_nil)) (Nat.le_of_ble_eq_true rfl)
    have := t1 k
    have := t2 (k + 1)
    exact e_cat ((e_sl (ev_var rfl) evo_none (evo_some (ev_var rfl))).to (by rw [c1])) ((e_sl (ev_var rfl) (evo_some (x_add (da := .int (k : Int)) (db := .int 1) (ev_var rfl) ev_int rfl trivial)) evo_none).to (by rw [c2])) (by omega)
  · refine ev_tup (eva_cons (ev_var rfl) (eva_cons ?_ eva_nil)) (Nat.le_of_ble_eq_true rfl)
    have := t1 k
    have := t2 k
    exact e_cat (e_cat ((e_sl (ev_var rfl) evo_none (evo_some (ev_var rfl))).to (by rw [c1])) (ev_tup (eva_cons (ev_var rfl) eva_nil) (Nat.le_of_ble_eq_true rfl)) (by rw [List.length_singleton]; omega)) ((e_sl (ev_var rfl) (evo_some (ev_var rfl)) evo_none).to (by rw [c3])) (by rw [List.length_append, List.length_singleton]; omega)
  · exact ev_tup (eva_cons (ev_var rfl) (eva_cons (e_rev (ev_var rfl)) eva_nil)) (Nat.le_of_ble_eq_true rfl)
  (try dsimp only [List.set, setAll])
  refine nx_sq ?_
  refine nx_asgL (ds := _ ++ [Sheet.d (.two o (.inl (rows ++ rows))), Sheet.d (.two (!o) (.inl rows)), Sheet.d (.two o (.inr (.list rows))), Sheet.d (.two o (.inl []))]) (l_catM (k := 0) (evm_var rfl) rfl (evl_lst (eva_cons ?_ (eva_cons ?_ (eva_cons ?_ (eva_cons ?_ eva_nil)))) (Nat.le_of_ble_eq_true rfl)) (Nat.le_of_ble_eq_true rfl)) fun q => ?_
  · exact ev_tup (eva_cons (ev_var rfl) (eva_cons (e_cat (ev_var rfl) (ev_var rfl) (by omega)) eva_nil)) (Nat.le_of_ble_eq_true rfl)
  · refine ev_tup (eva_cons (EV.to (ev_ite (evt_test (ev_eqD (ev_var rfl) ev_str (word_shaped o) safe_shaped)) (fun _ => ev_str) fun _ => ev_str) ?_) (eva_cons (ev_var rfl) eva_nil)) (Nat.le_of_ble_eq_true rfl)
    cases o
    · exact if_pos (str_eq _)
    · exact if_neg (by rw [show wordS true = "over" from rfl, str_ne (by decide +kernel)]; exact Bool.false_ne_true)
  · exact ev_tup (eva_cons (ev_var rfl) (eva_cons (evl_ev (l_list (ev_var rfl))) eva_nil)) (Nat.le_of_ble_eq_true rfl)
  · exact ev_tup (eva_cons (ev_var rfl) (eva_cons (ev_tup eva_nil (Nat.le_of_ble_eq_true rfl)) eva_nil)) (Nat.le_of_ble_eq_true rfl)
  (try dsimp only [List.set, setAll])
  generalize hL : ([Sheet.d (.two o (.inl (rows.take k ++ rows.drop (k + 1)))), Sheet.d (.two o (.inl (rows.take k ++ [odd] ++ rows.drop k))), Sheet.d (.two o (.inl rows.reverse))] ++ [Sheet.d (.two o (.inl (rows ++ rows))), Sheet.d (.two (!o) (.inl rows)), Sheet.d (.two o (.inr (.list rows))), Sheet.d (.two o (.inl []))]) = L
  have hbl := bentL_ok (v := v) (o := o) (k := k) hlen hel hodd
  refine Nx.sub (Δ' := (q, .ml L) :: (E2 ++ Δ)) ((List.sublist_cons_self _ _).cons_cons _) (Nx.perm (Δ' := E2 ++ ((q, .ml L) :: Δ)) List.perm_middle.symm ?_)
  refine nx_retX (n := 1) (R := fun d => ∃ sh : Sheet, d = sh.d ∧ ShOk v sh) (esx_op (esx_is (d := .list ((bentL o rows odd k).map Sheet.d)) fun E hE => ?_) (esx_nx (t := 9) rfl (by omega) (by omega) fun E hE => ev_int) (by omega) ?_) hE2 (by omega) (hq.sub (List.sublist_cons_self _ _))
  · obtain ⟨pc, pl, cs, ls, kk, rfl, -⟩ := hE
    refine (evl_ev (l_catM (k := 3) (ds := L) (es := [.list [.str (wordS o), .tuple rows], .tuple [.str (wordS o)]]) (evm_var rfl) rfl (evl_lst (eva_cons (evl_ev (l_list (ev_var rfl))) (eva_cons (ev_tup (eva_cons (ev_var rfl) eva_nil) (Nat.le_of_ble_eq_true rfl)) eva_nil)) (Nat.le_of_ble_eq_true rfl)) (by rw [← hL]; exact Nat.le_of_ble_eq_true rfl))).to ?_
    rw [← hL]
    rfl
  · rintro _ _ rfl ⟨j, rfl, h0, h1⟩
    obtain ⟨d, hd, e⟩ := at_nat (l := (bentL o rows odd k).map Sheet.d) h0 (by exact h1)
    obtain ⟨sh, hsh, rfl⟩ := List.mem_map.mp hd
    exact ⟨_, ⟨sh, rfl, hbl sh hsh⟩, fun Δ' => opd_ixL e⟩
end
end Kw

/-! text R7 -/
/-! law: lemmas -/
namespace Kw
open PySem PySem.Spec PyProof.Rows L2 PySem.Calls
abbrev s_law : Stmt := top 69
theorem sc_law : FnScope ["_law_script", "_law_m", "_law_turn", "_law_well_here", "_law_low", "_law_state", "_law_high", "_law_told", "_law_some", "_law_sheet", "_law_due_here", "_law_k"] ["_law_script"] (defScope s_law) := ⟨rfl, rfl, rfl, by decide +kernel, rfl, by decide +kernel, by decide +kernel⟩
theorem sum_zero (n : Nat) : (List.replicate n (0 : Int)).sum = 0 := by
  induction n with
  | zero => rfl
  | succ n ih => rw [List.replicate_succ, List.sum_cons, ih]; rfl
theorem start_ok {v : Wl} {l n : Int} (hv : v.Ok) (hl : 0 ≤ l ∧ l ≤ v.top) (hn : 0 ≤ n ∧ n ≤ 12) : (startF (v, l, n)).Ok v := by
  have h1 := hv.lag
  have h2 := hv.run
  have h3 := hv.rest
  refine ⟨hl, ⟨?_, fun x hx => ?_⟩, ⟨?_, fun x hx => ?_⟩, ⟨?_, fun x hx => ?_⟩, hn.1, ?_⟩
  · show (((List.replicate v.lag.toNat l).length : Nat) : Int) = v.lag
    rw [List.length_replicate]; omega
  · rw [List.eq_of_mem_replicate hx]; exact hl
  · show (((List.replicate v.run.toNat (0 : Int)).length : Nat) : Int) = v.run
    rw [List.length_replicate]; omega
  · rw [List.eq_of_mem_replicate hx]; exact Int.le_refl _
  · show (((List.replicate (v.rest - 1).toNat (0 : Int)).length : Nat) : Int) = v.rest - 1
    rw [List.length_replicate]; omega
  · rw [List.eq_of_mem_replicate hx]; exact Int.le_refl _
  · show (List.replicate v.run.toNat (0 : Int)).sum + (List.replicate (v.rest - 1).toNat (0 : Int)).sum + n ≤ 12
    rw [sum_zero, sum_zero]; omega
theorem told_rows {v : Wl} {hi : Int} {d : PyData} (h2 : hi ≤ 2) (h : Told v hi 1 d) : ∃ o rows, d = Sheet.d (.two o (.inl rows)) ∧ rows.length ≤ 9000 ∧ ∀ x ∈ rows, Elem v x := by
  rcases h with ⟨ts, rfl, _, hl, ht⟩ | ⟨ns, rfl, hl, hn⟩
  · exact ⟨true, ts, rfl, by omega, fun x hx => .inl (thOk_mono h2 (ht x hx))⟩
  · refine ⟨false, ns.map Nd.d, rfl, by rw [List.length_map]; omega, fun x hx => ?_⟩
    obtain ⟨n, hn', rfl⟩ := List.mem_map.mp hx
    exact .inr (.inl ⟨n, hn n hn', rfl⟩)
noncomputable def dueD (a : Sx) : PyData := match dueR a with
  | .dat d => d
  | .lst ds => .list ds
  | _ => .none
theorem due_form (a : Sx) : (∃ o, dueR a = .dat (.str (wordS o))) ∨ ∃ x : Str, (x = "form" ∨ x = "over" ∨ x = "safe") ∧ dueR a = .lst [.str x] := by
  obtain ⟨v, s, lo, hi, sh⟩ := a
  cases sh with
  | odd d => exact .inr ⟨_, .inl rfl, rfl⟩
  | one o => exact .inr ⟨_, .inl rfl, rfl⟩
  | two o t =>
    by_cases h : Sx.good (v, s, lo, hi, .two o t) = true
    · exact .inl ⟨o, if_pos h⟩
    · refine .inr ⟨wordS o, ?_, if_neg h⟩
      cases o
      · exact .inr (.inr rfl)
      · exact .inr (.inl rfl)
structure Shw (d : PyData) : Prop where
  a : d.showable = true
  b : d.hasDict = false
  c : d.shown.length ≤ 1000
  e : d.depth ≤ 60
  f : SeqAt.shaped (.str d.shown) = true
theorem due_shw (a : Sx) : Shw (dueD a) := by
  unfold dueD
  rcases due_form a with ⟨o, e⟩ | ⟨x, hx, e⟩
  · rw [e]
    cases o
    · exact ⟨by decide +kernel, by decide +kernel, by decide +kernel, by decide +kernel, str_shaped _ (by decide +kernel)⟩
    · exact ⟨by decide +kernel, by decide +kernel, by decide +kernel, by decide +kernel, str_shaped _ (by decide +kernel)⟩
  · rw [e]
    rcases hx with rfl | rfl | rfl
    · exact ⟨by decide +kernel, by decide +kernel, by decide +kernel, by decide +kernel, str_shaped _ (by decide +kernel)⟩
    · exact ⟨by decide +kernel, by decide +kernel, by decide +kernel, by decide +kernel, str_shaped _ (by decide +kernel)⟩
    · exact ⟨by decide +kernel, by decide +kernel, by decide +kernel, by decide +kernel, str_shaped _ (by decide +kernel)⟩
theorem ev_clD {C : Ct} {Γ : List SV} {Δ : Dl} {te : TE} {W : WX} {a : Sx} (h : CL C Γ Δ te W (fun r => r = dueR a)) : EV C Γ Δ te (dueD a) := by
  rcases due_form a with ⟨o, e⟩ | ⟨x, hx, e⟩
  · have e2 : dueD a = .str (wordS o) := by unfold dueD; rw [e]
    rw [e2]
    exact ev_cl h (fun r z => z.trans e) rfl
  · have e2 : dueD a = .list [.str x] := by unfold dueD; rw [e]
    rw [e2]
    exact evl_ev (evl_cl h (fun r z => z.trans e) rfl)
section
variable {C : Ct} {Γ : List SV} {Δ : Dl} {W : WX} {t0 t1 t2 t3 t4 t5 te : TE} {C1 C3 : Addr}
theorem sx_ok {v : Wl} {s : S} {lo hi : Int} {sh : Sheet} (hv : v.Ok) (hs : s.Ok v) (h0 : 0 ≤ lo) (h1 : lo ≤ hi) (h2 : hi ≤ 2) (h : ShOk v sh) : Sx.Ok (v, s, lo, hi, sh) := by
  refine ⟨hv, hs, h0, h1, h2, ?_⟩
  cases sh <;> exact h
theorem eca_due {v : Wl} {s : S} {lo hi : Int} {sh : Sheet} (h : Sx.Ok (v, s, lo, hi, sh)) (h0 : EV C Γ Δ t0 v.d) (h1 : EV C Γ Δ t1 s.d) (h2 : EV C Γ Δ t2 (.int lo)) (h3 : EV C Γ Δ t3 (.int hi)) (h4 : EV C Γ Δ t4 sh.d) :
    EV C Γ Δ (tCallS (sp_law_due C.P C.w C.K) (WE W) (tCons t0 (tCons t1 (tCons t2 (tCons t3 (tCons t4 tNil)))))) (dueD (v, s, lo, hi, sh)) :=
  ev_clD (cl_call (α := Sx) (v, s, lo, hi, sh) (eva_cons h0 (eva_cons h1 (eva_cons h2 (eva_cons h3 (eva_cons h4 eva_nil))))) h)
theorem eca_out {v : Wl} {s : S} {lo hi : Int} {sh : Sheet} (h : Sx.Ok (v, s, lo, hi, sh)) (h0 : EV C Γ Δ t0 (.int 0)) (h1 : EV C Γ Δ t1 v.d) (h2 : EV C Γ Δ t2 s.d) (h3 : EV C Γ Δ t3 (.int lo)) (h4 : EV C Γ Δ t4 (.int hi)) (h5 : EV C Γ Δ t5 sh.d) :
    EV C Γ Δ (tCallS (sp_law_outcome C1 C3 C.P C.w C.K) (WE W) (tCons t0 (tCons t1 (tCons t2 (tCons t3 (tCons t4 (tCons t5 tNil))))))) (dueD (v, s, lo, hi, sh)) :=
  ev_clD (cl_call (α := Oq) (.inr (v, s, lo, hi, sh)) (eva_cons h0 (eva_cons h1 (eva_cons h2 (eva_cons h3 (eva_cons h4 (eva_cons h5 eva_nil)))))) h)
theorem nx_ifOpq {rs : Rs → Prop} {Pf : Prop} {D : Ends} {ts tu : TS} (h : CL C Γ Δ te W rs) (hr : ∀ r, rs r → ∃ b, r = .opq b ∧ (b = false → Pf)) (k1 : Pf → Nx C Γ Δ (ts D)) (k2 : Nx C Γ Δ (tu D)) :
    Nx C Γ Δ (tIfS (tTest (tOp notN te (tC .non))) ts tu D) := fun G H σ S => h G H σ S _ fun r z => by
  obtain ⟨b, rfl, hf⟩ := hr r z
  intro v G1 H1 s1 S1 e
  refine ⟨rfl, !decide (v = .non), rfl, ?_⟩
  rw [e]
  cases b with
  | true => exact k2 G1 H1 σ S1
  | false => exact k1 (hf rfl) G1 H1 σ S1
end
abbrev LSp (K : PySem.W.Frag) : Sp := fun vs H Q _ => ∃ (a : Addr) (cs : List Int), vs = [.ref a] ∧ SqL K H a (cs.map V.int) ∧ cs.length ≤ 63 ∧ ∀ H', Q (.bl true) H'
end Kw

/-! text R8 -/
/-! law -/
namespace Kw
open PySem PySem.Spec PyProof.Rows L2 PySem.Calls
def lawS (told : PyData) (s : S) (lo : Int) : List PyData := [told, .tuple [.str "over", .tuple [.tuple [.str "beat", .int lo]]], .tuple [.str "safe", .tuple [.tuple [s.d, .int 1]]], .none, .tuple [.str "safe"], .int 5, .tuple [.str "over", .none]]
theorem lawS_ok {v : Wl} {s : S} {lo : Int} {o : Bool} {rows : List PyData} (hs : s.Ok v) (h0 : 0 ≤ lo) (h2 : lo ≤ 2) (hl : rows.length ≤ 9000) (hr : ∀ d ∈ rows, Elem v d) : ∀ d ∈ lawS (Sheet.d (.two o (.inl rows))) s lo, ∃ sh : Sheet, d = sh.d ∧ ShOk v sh := by
  intro d hd
  simp only [lawS, List.mem_cons, List.not_mem_nil, or_false] at hd
  rcases hd with rfl | rfl | rfl | rfl | rfl | rfl | rfl
  · exact ⟨_, rfl, by omega, hr⟩
  · refine ⟨.two true (.inl [thBeat lo]), rfl, Nat.le_of_ble_eq_true rfl, fun x hx => ?_⟩
    rw [List.mem_singleton.mp hx]
    exact .inl (.inr (.inr (.inr ⟨lo, h0, h2, rfl⟩)))
  · refine ⟨.two false (.inl [Nd.d (s, 1)]), rfl, Nat.le_of_ble_eq_true rfl, fun x hx => ?_⟩
    rw [List.mem_singleton.mp hx]
    exact .inr (.inl ⟨(s, 1), ⟨hs, by simp only; omega, by simp only; omega⟩, rfl⟩)
  · exact ⟨.odd .none, rfl, rfl⟩
  · exact ⟨.one false, rfl, trivial⟩
  · exact ⟨.odd (.int 5), rfl, rfl⟩
  · exact ⟨.two true (.inr .none), rfl, rfl⟩
section
variable {P : Program} {w : World} {K : PySem.W.Frag} {mg : Str → Option Value} {base : Heap} {C1 C2 C3 : Addr}
theorem ok_law {f : Addr} {fd : FuncData} (T : Tx P K mg C1 C2 C3) (F : Fun K "law" "law" s_law f fd) (c__law_begun : Cl P w K mg base 9 "_law_begun" (BSp P w K)) (c__law_well : Cl P w K mg base 9 "_law_well" (sp_well P w K)) (c__law_next : Cl P w K mg base 9 "_law_next" (sp_next P w K))
    (c__law_begun_state : Cl P w K mg base 9 "_law_begun_state" (sp_begun_state P w K)) (c__law_refused_right : Cl P w K mg base 9 "_law_refused_right" (sp_refused P w K)) (c__law_some_beats_on : Cl P w K mg base 9 "_law_some_beats_on" (sp_beats P w K))
    (c__law_reach : Cl P w K mg base 9 "_law_reach" (sp_law_reach P w K)) (c_safe_paper : Cl P w K mg base 9 "safe_paper" (sp_safe_paper C1 C3 P w K)) (c__law_bent : Cl P w K mg base 9 "_law_bent" (sp_bent P w K))
    (c__law_due : Cl P w K mg base 9 "_law_due" (sp_law_due P w K)) (c__law_outcome : Cl P w K mg base 9 "_law_outcome" (sp_law_outcome C1 C3 P w K)) : FnG P w K mg base 10 f fd ["_law_script"] (LSp K) := by
  refine fun_g F sc_law (fun vs H Q E ⟨a, cs, e, _⟩ => by rw [e]; rfl) fun cdv ar up z H vs Q E hgd hr ⟨a, cs, e, hS, hl, hq⟩ => ?_
  subst e
  refine ⟨_, (pss_cons (ps_set (i := 1) sc_law.nd rfl (by first | exact Or.inl rfl | exact Or.inr rfl) (gCl (P := P) (w := w) (K := K) ⟨rfl, rfl, rfl⟩ rfl rfl c__law_begun hr hgd (by rfl) takesF (pa_cons (pv 0) pa_nil))) (pss_cons (ps_for (passes_of rfl) rfl (pi_range1 (by rfl) T.b_range (pa_cons (pe_op (gAdd (P := P) (w := w) (K := K) ⟨rfl, rfl, rfl⟩) pe_int (pe_callB (call_min2 rfl) (by rfl) T.b_min boot_k_min (pa_cons (pe_callB (gLen (P := P) (w := w) (K := K) ⟨rfl, rfl, rfl⟩ (hu65 hr)) (by rfl) T.b_len boot_k_len (pa_cons (pv 0) pa_nil)) (pa_cons pe_int pa_nil)))) pa_nil)) (pg_name (i := 2) sc_law.nd rfl (by first | exact Or.inl rfl | exact Or.inr rfl)) (pss_cons (ps_par (i := 3) (j := 4) rfl sc_law.nd rfl rfl (by decide) rfl rfl (pa_cons (gCl (P := P) (w := w) (K := K) ⟨rfl, rfl, rfl⟩ rfl rfl c__law_well hr hgd (by rfl) takesF (pa_cons (pv 1) (pa_cons pe_int pa_nil))) (pa_cons (gCl (P := P) (w := w) (K := K) ⟨rfl, rfl, rfl⟩ rfl rfl c__law_next hr hgd (by rfl) takesF (pa_cons (pv 1) (pa_cons pe_int pa_nil))) pa_nil)) rfl) (pss_cons (ps_set (i := 5) sc_law.nd rfl (by first | exact Or.inl rfl | exact Or.inr rfl) (gCl (P := P) (w := w) (K := K) ⟨rfl, rfl, rfl⟩ rfl rfl c__law_begun_state hr hgd (by rfl) takesF (pa_cons (pv 3) (pa_cons (gCl (P := P) (w := w) (K := K) ⟨rfl, rfl, rfl⟩ rfl rfl c__law_next hr hgd (by rfl) takesF (pa_cons (pv 1) (pa_cons (pe_op (gAdd (P := P) (w := w) (K := K) ⟨rfl, rfl, rfl⟩) (pe_ix (gIx (P := P) (w := w) (K := K) ⟨rfl, rfl, rfl⟩ (hu65 hr)) (pv 3) pe_int (fun _ _ => rfl)) pe_int) pa_nil))) (pa_cons (gCl (P := P) (w := w) (K := K) ⟨rfl, rfl, rfl⟩ rfl rfl c__law_next hr hgd (by rfl) takesF (pa_cons (pv 1) (pa_cons pe_int pa_nil))) pa_nil))))) (pss_cons (ps_set (i := 6) sc_law.nd rfl (by first | exact Or.inl rfl | exact Or.inr rfl) (pe_op (gAdd (P := P) (w := w) (K := K) ⟨rfl, rfl, rfl⟩) (pv 4) (gCl (P := P) (w := w) (K := K) ⟨rfl, rfl, rfl⟩ rfl rfl c__law_next hr hgd (by rfl) takesF (pa_cons (pv 1) (pa_cons pe_int pa_nil))))) (pss_cons (ps_if (pt_not (pt_val (gCl (P := P) (w := w) (K := K) ⟨rfl, rfl, rfl⟩ rfl rfl c__law_refused_right hr hgd (by rfl) takesF (pa_cons (pv 3) (pa_cons (pv 5) pa_nil))))) (pss_one (ps_ret pe_bl)) pss_nil) (pss_cons (ps_set (i := 5) sc_law.nd rfl (by first | exact Or.inl rfl | exact Or.inr rfl) (gCl (P := P) (w := w) (K := K) ⟨rfl, rfl, rfl⟩ rfl rfl c__law_some_beats_on hr hgd (by rfl) takesF (pa_cons (pv 1) (pa_cons (pv 3) (pa_cons (pv 5) (pa_cons (pv 4) (pa_cons (pe_op (gAdd (P := P) (w := w) (K := K) ⟨rfl, rfl, rfl⟩) (pv 6) pe_int) pa_nil))))))) (pss_one (ps_if (pt_cmpR op_notN (gCl (P := P) (w := w) (K := K) ⟨rfl, rfl, rfl⟩ rfl rfl c__law_reach hr hgd (by rfl) takesF (pa_cons (pv 3) (pa_cons (pv 5) (pa_cons (pv 4) (pa_cons (pv 6) (pa_cons pe_int (pa_cons pe_int pa_nil))))))) pe_non (nomark _)) (pss_cons (ps_set (i := 7) sc_law.nd rfl (by first | exact Or.inl rfl | exact Or.inr rfl) (gCl (P := P) (w := w) (K := K) ⟨rfl, rfl, rfl⟩ rfl rfl c_safe_paper hr hgd (by rfl) takesF (pa_cons (pv 3) (pa_cons (pv 5) (pa_cons (pv 4) (pa_cons (pv 6) (pa_cons pe_int pa_nil))))))) (pss_cons (ps_set (i := 8) sc_law.nd rfl (by first | exact Or.inl rfl | exact Or.inr rfl) (pe_lst (pa_cons (pv 7) (pa_cons (pe_tup (pa_cons pe_str (pa_cons (pe_tup (pa_cons (pe_tup (pa_cons pe_str (pa_cons (pv 4) pa_nil))) pa_nil)) pa_nil))) (pa_cons (pe_tup (pa_cons pe_str (pa_cons (pe_tup (pa_cons (pe_tup (pa_cons (pv 5) (pa_cons pe_int pa_nil))) pa_nil)) pa_nil))) (pa_cons pe_non (pa_cons (pe_tup (pa_cons pe_str pa_nil)) (pa_cons pe_int pa_nil)))))))) (pss_cons (ps_expr (pe_bm PySem.F.plainAttrs_list PySem.F.slot_list_append PySem.F.type_list_append mt_append (pv 8) (pa_cons (pe_tup (pa_cons pe_str (pa_cons pe_non pa_nil))) pa_nil))) (pss_one (ps_for (passes_of rfl) rfl (gIt (P := P) (w := w) (K := K) ⟨rfl, rfl, rfl⟩ (pe_op (gAdd (P := P) (w := w) (K := K) ⟨rfl, rfl, rfl⟩) (pv 8) (pe_lc (own := [("_law_k", 11)]) rfl sc_law.nd (pi_range1 (by rfl) T.b_range (pa_cons pe_int pa_nil)) (blkOk_by (N := ["_law_script", "_law_m", "_law_turn", "_law_well_here", "_law_low", "_law_state", "_law_high", "_law_told", "_law_some", "_law_sheet", "_law_due_here", "_law_k"]) (sc := defScope s_law) (by decide +kernel)) (fun _ _ _ _ _ => (pg_name (i := 11) sc_law.nd rfl (by first | exact Or.inl rfl | exact Or.inr rfl))) (fun _ _ _ _ _ => pts_nil) (fun _ _ _ _ _ => (gCl (P := P) (w := w) (K := K) ⟨rfl, rfl, rfl⟩ rfl rfl c__law_bent hr hgd (by rfl) takesF (pa_cons (pv 1) (pa_cons (pv 7) pa_nil))))))) (pg_name (i := 9) sc_law.nd rfl (by first | exact Or.inl rfl | exact Or.inr rfl)) (pss_cons (ps_set (i := 10) sc_law.nd rfl (by first | exact Or.inl rfl | exact Or.inr rfl) (gCl (P := P) (w := w) (K := K) ⟨rfl, rfl, rfl⟩ rfl rfl c__law_due hr hgd (by rfl) takesF (pa_cons (pv 3) (pa_cons (pv 5) (pa_cons (pv 4) (pa_cons (pv 6) (pa_cons (pv 9) pa_nil))))))) (pss_one (ps_if (pt_cmpR (gNe (P := P) (w := w) (K := K) ⟨rfl, rfl, rfl⟩ (hu65 hr)) (pe_callB (gRepr (P := P) (w := w) (K := K) ⟨rfl, rfl, rfl⟩ (hu64 hr) hgd) (by rfl) T.b_repr boot_k_repr (pa_cons (gCl (P := P) (w := w) (K := K) ⟨rfl, rfl, rfl⟩ rfl rfl c__law_outcome hr hgd (by rfl) takesF (pa_cons pe_int (pa_cons (pv 3) (pa_cons (pv 5) (pa_cons (pv 4) (pa_cons (pv 6) (pa_cons (pv 9) pa_nil))))))) pa_nil)) (pe_callB (gRepr (P := P) (w := w) (K := K) ⟨rfl, rfl, rfl⟩ (hu64 hr) hgd) (by rfl) T.b_repr boot_k_repr (pa_cons (pv 10) pa_nil)) (nomark _)) (pss_one (ps_ret pe_bl)) pss_nil)))))))) pss_nil)))))))) (pss_one (ps_ret pe_bl)))), ?_⟩
  have S0 := st_start (K := K) (P := P) (w := w) (N := ["_law_script", "_law_m", "_law_turn", "_law_well_here", "_law_low", "_law_state", "_law_high", "_law_told", "_law_some", "_law_sheet", "_law_due_here", "_law_k"]) (H := H) (vs := [.ref a]) (ds := [.list (cs.map .int)]) (.cons (.lst hS (dpAll_of_ints cs)) .nil)
  refine (?_ : Nx ⟨K, P, w, H⟩ [.dat (.list (cs.map .int)), .any, .any, .any, .any, .any, .any, .any, .any, .any, .any, .any] [] _) H H _ S0
  refine nx_sq (nx_begun (cs := cs) rfl hl fun pm E0 hE0 => ?_)
  (try dsimp only [List.set, setAll])
  refine nx_sq ?_
  refine nx_for (ds := rngD 0 (2 + min ((cs.map PyData.int).length : Int) 3).toNat) (wd_rng1 (eva_cons (x_add (da := .int 2) (db := .int (min ((cs.map PyData.int).length : Int) 3)) ev_int (ev_min (x_len (ev_var rfl) rfl) ev_int) rfl trivial) eva_nil) (by omega))
    (fun i Γ' Δ' => ∃ (E : Dl) (x2 x3 x4 x5 x6 x7 x8 x9 x10 x11 : SV), DX pm (50 * i) E ∧ Γ' = [.dat (.list (cs.map .int)), .loc pm, x2, x3, x4, x5, x6, x7, x8, x9, x10, x11] ∧ Δ' = E) ⟨E0, _, _, _, _, _, _, _, _, _, _, hE0.mono (by simp), rfl, List.append_nil _⟩ ?_ ?_
  · rintro hs i d Γ' _ hd ⟨E, x2, x3, x4, x5, x6, x7, x8, x9, x10, x11, hE, rfl, rfl⟩
    have hi5 : i < 5 := by
      have := (List.getElem?_eq_some_iff.mp hd).1
      simp only [rngD, List.length_map, List.length_range] at this
      omega
    refine ⟨[2], _, tg_name, ?_⟩
    (try dsimp only [List.set, setAll])
    refine nx_sq ?_
    refine nx_parX (n1 := 9) (R1 := fun d => ∃ v : Wl, v.Ok ∧ d = v.d) (esx_draw (n1 := 0) (n2 := 9) (Rl := fun ds => ds = [.int 4]) rfl (eax_ev (by omega) fun E hE => ⟨_, eva_cons ev_int eva_nil, rfl⟩) (by omega) (fun ds e => ⟨(), e.symm, trivial, fun d z => z⟩) (by omega))
      (esx_nx (t := 2) rfl (by omega) (by omega) fun E hE => ev_int) hE ?_
    rintro _ _ E1 ⟨v, hv, rfl⟩ ⟨lo, rfl, hlo0, hlo1⟩ hE1
    (try dsimp only [List.set, setAll])
    have htop := hv.top
    refine nx_sq ?_
    refine nx_asgX (R := fun d => ∃ s : S, s.Ok v ∧ d = s.d) (esx_call (eax_c (esx_is fun E hE => ev_var rfl) (eax_c (esx_nx (t := v.top + 1) rfl (by omega) (by omega) fun E hE => x_add (da := .int v.top) (db := .int 1) (x_ix (ev_var rfl) ev_int rfl) ev_int rfl trivial)
      (eax_c (esx_nx (t := 4) rfl (by omega) (by omega) fun E hE => ev_int) eax_n))) ?_) hE1 ?_
    · rintro _ ⟨_, _, rfl, rfl, _, _, rfl, ⟨l, rfl, hl0, hl1⟩, _, _, rfl, ⟨n, rfl, hn0, hn1⟩, rfl⟩
      exact ⟨(v, l, n), _, rfl, hv, fun r h => h, lfree_S _, startF (v, l, n), start_ok hv ⟨hl0, by omega⟩ ⟨hn0, by omega⟩, rfl⟩
    rintro _ E2 ⟨s, hsv, rfl⟩ hE2
    (try dsimp only [List.set, setAll])
    refine nx_sq ?_
    refine nx_asgX (esx_plus (a := lo) (fun E hE => ev_var rfl) (esx_nx (t := 2) rfl (by omega) (by omega) fun E hE => ev_int)) hE2 ?_
    rintro _ E3 ⟨h, rfl, hh0, hh1⟩ hE3
    (try dsimp only [List.set, setAll])
    refine nx_sq ?_
    refine nx_ifF (evt_not (evt_test (x_call (α := Wl × S) (f := fun _ => .bool true) (v, s) (eva_cons (ev_var rfl) (eva_cons (ev_var rfl) eva_nil)) ⟨hv, hsv⟩ rfl))) rfl (nx_nx ?_)
    (try dsimp only [List.set, setAll])
    refine nx_sq ?_
    refine nx_asgX (n := 6) (R := fun d => ∃ s : S, s.Ok v ∧ d = s.d) (esx_draw (n1 := 0) (n2 := 6) (Rl := fun ds => ds = [v.d, s.d, .int lo, .int (lo + h + 2)]) rfl (eax_ev (by omega) fun E hE => ⟨_, eva_cons (ev_var rfl) (eva_cons (ev_var rfl) (eva_cons (ev_var rfl) (eva_cons (x_add (da := .int (lo + h)) (db := .int 2) (ev_var rfl) ev_int rfl trivial) eva_nil))), rfl⟩)
      (by omega) (fun ds e => ⟨(v, s, lo, lo + h + 2), e.symm, ⟨hv, hsv, by simp only; omega, by simp only; omega⟩, fun d z => z⟩) (by omega)) hE3 ?_
    rintro _ E4 ⟨s', hs', rfl⟩ hE4
    (try dsimp only [List.set, setAll])
    have hrc : Rc.Ok (v, s', lo, lo + h, 1) := ⟨hv, hs', hlo0, by simp only; omega, by simp only; omega, by simp only; omega⟩
    refine nx_ifOpq (cl_call (α := Rc) (v, s', lo, lo + h, 1) (eva_cons (ev_var rfl) (eva_cons (ev_var rfl) (eva_cons (ev_var rfl) (eva_cons (ev_var rfl) (eva_cons ev_int (eva_cons ev_int eva_nil)))))) hrc) (fun r z => z) (fun hfine => ?_) (nx_nx ?_)
    · refine nx_sq ?_
      refine nx_asgC (cl_call (α := Ask ⊕ Rc) (.inr (v, s', lo, lo + h, 1)) (eva_cons (ev_var rfl) (eva_cons (ev_var rfl) (eva_cons (ev_var rfl) (eva_cons (ev_var rfl) (eva_cons ev_int eva_nil))))) ⟨hrc, hfine, by simp only; omega⟩) fun r hr => ?_
      obtain ⟨told, rfl, htold⟩ : ∃ d, r = .dat d ∧ Told v (lo + h) 1 d := hr
      refine nxc_dat (told_free htold) ?_
      obtain ⟨o, rows, rfl, hlen, hel⟩ := told_rows (by omega) htold
      (try dsimp only [List.set, setAll])
      refine nx_sq ?_
      refine nx_asgL (ds := [Sheet.d (.two o (.inl rows)), .tuple [.str "over", .tuple [.tuple [.str "beat", .int lo]]], .tuple [.str "safe", .tuple [.tuple [s'.d, .int 1]]], .none, .tuple [.str "safe"], .int 5]) (evl_lst ?_ (Nat.le_of_ble_eq_true rfl)) fun p => ?_
      · repeat' (first | exact eva_nil | apply eva_cons | exact ev_non | exact ev_str | exact ev_int | exact ev_var rfl | refine ev_tup ?_ (Nat.le_of_ble_eq_true rfl))
      (try dsimp only [List.set, setAll])
      refine nx_sq ?_
      refine nx_app (k := 0) (evm_var rfl) (d := .tuple [.str "over", .none]) (ev_tup (eva_cons ev_str (eva_cons ev_non eva_nil)) (Nat.le_of_ble_eq_true rfl)) rfl (Nat.le_of_ble_eq_true rfl) ?_
      show Nx _ _ ((p, MO.ml (lawS (Sheet.d (.two o (.inl rows))) s' lo)) :: (E4 ++ hs)) _
      refine Nx.perm (Δ' := E4 ++ ((p, .ml (lawS (Sheet.d (.two o (.inl rows))) s' lo)) :: hs)) List.perm_middle.symm ?_
      refine nx_forX (wdx_list (elx_esx (elx_catM (k := 0) (fun E => evm_var rfl) rfl (elx_map (ds := rngD 0 (7 : Int).toNat) (n1 := 3) (R := fun d => ∃ sh : Sheet, d = sh.d ∧ ShOk v sh) (fun E => wd_rng1 (eva_cons ev_int eva_nil) (by omega)) (Nat.le_of_ble_eq_true rfl) (by omega) ?_) ?_))) hE4 ?_
      · intro D hs2 acc j d hd
        have hj7 : j < 7 := by
          have := (List.getElem?_eq_some_iff.mp hd).1
          simp only [rngD, List.length_map, List.length_range] at this
          omega
        exact ⟨[11], _, tg_name, by decide, esx_draw (n1 := 0) (n2 := 3) (Rl := fun ds => ds = [Sheet.d (.two o (.inl rows))]) rfl (eax_ev (by omega) fun E hE => ⟨_, eva_cons (ev_var rfl) eva_nil, rfl⟩) (by omega) (fun ds e => ⟨(v, o, rows), e.symm, ⟨hlen, hel⟩, fun d z => z⟩) (by omega)⟩
      · rintro es ⟨he, -⟩
        rw [he]
        exact Nat.le_of_ble_eq_true rfl
      rintro E5 _ hE5 ⟨es, ⟨he7, hes⟩, rfl⟩
      have hE5' : DX pm (50 * (i + 1 : Nat)) E5 := hE5.mono (by
        have : ((rngD 0 (7 : Int).toNat).length : Int) = 7 := rfl
        rw [this]
        omega)
      refine ⟨fun n Γ' Δ' => ∃ y9 y10 y11 : SV, Γ' = [.dat (.list (cs.map .int)), .loc pm, .dat d, .dat v.d, .dat (.int lo), .dat s'.d, .dat (.int (lo + h)), .dat (Sheet.d (.two o (.inl rows))), .loc p, y9, y10, y11] ∧ Δ' = E5 ++ ((p, .ml (lawS (Sheet.d (.two o (.inl rows))) s' lo)) :: hs), ⟨_, _, _, rfl, rfl⟩, ?_, ?_⟩
      · rintro hs2 n d2 Γ' Δ' hd2 ⟨y9, y10, y11, rfl, rfl⟩
        obtain ⟨sh, rfl, hsh⟩ : ∃ sh : Sheet, d2 = sh.d ∧ ShOk v sh := by
          rcases List.mem_append.mp (List.mem_of_getElem? hd2) with hm | hm
          · exact lawS_ok hs' hlo0 (by omega) hlen hel _ hm
          · exact hes _ hm
        have hsx : Sx.Ok (v, s', lo, lo + h, sh) := sx_ok hv hs' hlo0 (by omega) (by omega) hsh
        have hw := due_shw (v, s', lo, lo + h, sh)
        refine ⟨[9], _, tg_name, ?_⟩
        (try dsimp only [List.set, setAll])
        refine nx_sq ?_
        refine nx_asg (eca_due hsx (ev_var rfl) (ev_var rfl) (ev_var rfl) (ev_var rfl) (ev_var rfl)) ?_
        (try dsimp only [List.set, setAll])
        refine nx_ifF (evt_test (ev_neD (ev_repr (eca_out (C1 := C1) (C3 := C3) hsx ev_int (ev_var rfl) (ev_var rfl) (ev_var rfl) (ev_var rfl) (ev_var rfl)) hw.a hw.b (by have := hw.c; rw [sizeLine_eq]; omega) hw.e) (ev_repr (ev_var rfl) hw.a hw.b (by have := hw.c; rw [sizeLine_eq]; omega) hw.e) hw.f hw.f)) (by rw [str_eq]; rfl) (nx_nx ?_)
        (try dsimp only [List.set, setAll])
        exact nx_li ⟨_, _, _, rfl, rfl⟩
      · rintro Γ' Δ' ⟨y9, y10, y11, rfl, rfl⟩
        refine Nx.sub (Δ' := E5 ++ hs) ((List.sublist_cons_self _ _).append_left E5) ?_
        exact nx_li ⟨E5, _, _, _, _, _, _, _, _, _, _, hE5', rfl, rfl⟩
    · exact nx_li ⟨E4, _, _, _, _, _, _, _, _, _, _, hE4.mono (by omega), rfl, rfl⟩
  · rintro Γ' _ ⟨E, x2, x3, x4, x5, x6, x7, x8, x9, x10, x11, hE, rfl, rfl⟩
    (try dsimp only [List.set, setAll])
    refine nx_ret (d := .bool true) ev_bl fun v G H' a b r => ?_
    cases r
    exact hq H'
end
end Kw

/-! text R9 -/
/-! The end, part 1: from a promise of the law's def to the walk that the head asks for; the classes. -/
namespace Kw
open PySem PySem.Spec PyProof.Rows L2 PySem.Calls

section
variable {P : Program} {w : World} {K : PySem.W.Frag} {mg mb : Str → Option Value} {s1 : Shared} {a : Addr} {H : Hp}
/-- only the script may be tracked: the rest of the heap is the surroundings of the call -/
theorem around_of {vs : Array Value} (ha : s1.heap.get? a = some { cls := .type "list", data := .seq vs }) (one : ∀ b, H b ≠ none → b = a) (own : H a ≠ none → K.lookup a = none)
    (kx : K.In s1.heap) (ng : s1.heap.Ns mainGlobals mg) (nb : s1.heap.Ns builtinsNs mb) (bb : ∀ x : Str, x ≠ "__name__" → mb x = bootBuiltins x) (nl : s1.heap.NoLimit) (gs : s1.gens = #[]) (ok : HOk P w H s1.heap) :
    K.In (hidT s1.heap H) ∧ (hidT s1.heap H).Ns mainGlobals mg ∧ Env0 P w K mg (hidT s1.heap H) callerA [] s1 H := by
  have dicts : ∀ b o es ep, s1.heap.get? b = some o → o.data = .dict es ep → (hidT s1.heap H).get? b = some o := by
    intro b o es ep e d
    refine hidT_get e (Option.eq_none_iff_forall_ne_some.mpr fun u q => ?_)
    obtain rfl := one b (by rw [q]; exact fun z => nomatch z)
    rw [e] at ha
    cases ha
    exact nomatch (show Data.seq vs _ = Data.dict es ep from d)
  have spaces : ∀ {b : Addr} {m : Str → Option Value}, s1.heap.Ns b m → (hidT s1.heap H).Ns b m := by
    rintro b m ⟨o, es, ep, e, d, r⟩
    exact ⟨o, es, ep, dicts b o es ep e d, d, r⟩
  have k1 : K.In (hidT s1.heap H) := by
    intro b o e
    refine hidT_get (kx b o e) (Option.eq_none_iff_forall_ne_some.mpr fun u q => ?_)
    have n : H b ≠ none := by rw [q]; exact fun z => nomatch z
    obtain rfl := one b n
    rw [own n] at e
    cases e
  obtain ⟨ml, m1, m2⟩ := nl
  refine ⟨k1, spaces ng, ?_⟩
  constructor
  · rfl
  · exact ⟨k1, spaces ng, ⟨mb, spaces nb, bb⟩, ⟨ml, spaces m1, m2⟩⟩
  · exact fun b o e => of_hidT e
  · rw [hidT_size]; exact Nat.le_refl _
  · exact True.intro
  · exact fun b z => absurd z (List.not_mem_nil)
  · exact ok
  · exact .of_eq gs
/-- the law's def keeps its promise: the call gives True and leaves what stood -/
theorem ends_true {k : Nat} {fa : Addr} {fd : FuncData} {x : Str} {sp : Sp} {vs : List Value} {ns : List Int} (kx : K.In s1.heap) (ng : s1.heap.Ns mainGlobals mg) (nb : s1.heap.Ns builtinsNs mb) (bb : ∀ x : Str, x ≠ "__name__" → mb x = bootBuiltins x)
    (nl : s1.heap.NoLimit) (gs : s1.gens = #[]) (ha : s1.heap.get? a = some { cls := .type "list", data := .seq vs.toArray }) (hi : IntsAre vs ns) (hl : ns.length ≤ 63) (hr : Room k callerA)
    (F : ∀ base : Heap, K.In base → base.Ns mainGlobals mg → FnG P w K mg base k fa fd [x] sp) (hb : ∀ (s : Shared) (u : Value), BindsTo s fd ⟨[u], []⟩ [(x, u)])
    (hsp : ∀ H : Hp, SqL K H a (ns.map V.int) → sp [.ref a] H (fun v _ => v = .bl true) fun _ _ _ => False) :
    codeAny (model P w) callerA (.call (.ref fa) ⟨[.ref a], []⟩) (fun r s' => r = .ok (.ret (.bool true)) ∧ OldK s1.heap s'.heap ∧ s'.os = s1.os ∧ AllBare s'.gens) s1 := by
  have rv : Vals (ns.map V.int) vs := vals_ints hi
  have lv := hi.length
  have hz : ns.length ≤ sizeLine := by rw [sizeLine_eq]; omega
  suffices go : ∀ H : Hp, (∀ b u, H b = some u → b = a ∧ ∃ o xs, u = .frz o (.lst xs)) → (H a ≠ none → K.lookup a = none) → SqL K H a (ns.map V.int) → HOk P w H s1.heap →
      codeAny (model P w) callerA (.call (.ref fa) ⟨[.ref a], []⟩) (fun r s' => r = .ok (.ret (.bool true)) ∧ OldK s1.heap s'.heap ∧ s'.os = s1.os ∧ AllBare s'.gens) s1 by
    by_cases q : ∃ o, K.lookup a = some o
    · obtain ⟨o, q⟩ := q
      have e := kx a o q
      rw [ha] at e
      cases e
      exact go (fun _ => none) (fun b u z => nomatch (show (none : Option HO) = some u from z)) (fun z => absurd rfl z) (.inr ⟨_, vs.toArray, _, q, rfl, rfl, rfl, by rw [List.size_toArray, lv]; exact hz, by simpa using rv⟩) (fun b u z => nomatch (show (none : Option HO) = some u from z))
    · have q0 : K.lookup a = none := Option.eq_none_iff_forall_ne_some.mpr fun o z => q ⟨o, z⟩
      have at_ : ∀ b u, (if b = a then some (HO.frz { cls := .type "list", data := .seq vs.toArray } (.lst (ns.map V.int))) else none) = some u → b = a ∧ u = .frz { cls := .type "list", data := .seq vs.toArray } (.lst (ns.map V.int)) := by
        intro b u z
        split at z
        · cases z
          exact ⟨‹_›, rfl⟩
        · cases z
      refine go (fun b => if b = a then some (.frz { cls := .type "list", data := .seq vs.toArray } (.lst (ns.map V.int))) else none) (fun b u z => ?_) (fun _ => q0) (.inl (.inr ⟨_, if_pos rfl⟩)) fun b u z => ?_
      · obtain ⟨e1, e2⟩ := at_ b u z
        exact ⟨e1, _, _, e2⟩
      · obtain ⟨rfl, rfl⟩ := at_ b u z
        exact ⟨ha, by rw [List.length_map]; exact hz, vs, _, rv, ha⟩
  intro H one own hS ok
  obtain ⟨k1, k2, e0⟩ := around_of ha (fun b n => by
    cases q : H b with
    | none => exact absurd q n
    | some u => exact (one b u q).1) own kx ng nb bb nl gs ok
  refine codeAny_mono ((F _ k1 k2).go callerA [] s1 H ⟨[.ref a], []⟩ [.ref a] [.ref a] _ _ rfl hr e0 (hb s1 (.ref a)) (.cons rfl .nil) (hsp H hS)) ?_
  intro r s' h
  match r, h with
  | .error e, ⟨_, _, _, _, _, _, _, _, _, _, _, _, no⟩ => exact no.elim
  | .ok (.ret u), ⟨v, H', os, bare, un, ok', rel, ev⟩ =>
    obtain rfl : v = .bl true := ev
    obtain rfl : u = .bool true := rel
    refine ⟨rfl, OldK.of_keep fun b o e => ?_, os, bare⟩
    cases q : H b with
    | none => exact un.keep b o e q List.not_mem_nil List.not_mem_nil
    | some u =>
      obtain ⟨-, ob, xs, rfl⟩ := one b u q
      have old := (ok b _ q).1
      have new := (ok' b _ (un.frzs b ob _ q)).1
      rw [e] at old
      cases old
      exact new
theorem walk_g {l : PySem.W.OpenLaw} {k : Nat} {q : Program} {loose : List Str} {XP : (Str → Option Value) → Heap → Prop} {YP : World → Heap → Prop} {d : DefRec} {K : Params → PySem.W.Frag} {sp : PySem.W.Frag → Sp} {x : Str}
    (hn : l.most = some 63) (hdf : d.params.defaults = []) (hr : Room k callerA) (hY : ∀ (w : World) (h : Heap), YP w h → (K w.params).In h)
    (F : ∀ (w : World) (mg : Str → Option Value) (fa : Addr) (h : Heap), (K w.params).In h → h.Ns mainGlobals mg → mg d.name = some (.ref fa) →
      ∃ fd : FuncData, (∀ (s : Shared) (u : Value), BindsTo s fd ⟨[u], []⟩ [(x, u)]) ∧ ∀ base : Heap, (K w.params).In base → base.Ns mainGlobals mg → FnG l.prog w (K w.params) mg base k fa fd [x] (sp (K w.params)))
    (hsp : ∀ (K : PySem.W.Frag) (H : Hp) (a : Addr) (ns : List Int), ns.length ≤ 63 → SqL K H a (ns.map V.int) → sp K [.ref a] H (fun v _ => v = .bl true) fun _ _ _ => False) :
    PySem.W.WalkO q loose XP YP l.row.toRowW d [] (fun f vs => PySem.call f vs) := by
  refine Att.attach_call hn hdf fun w s0 s1 mg mb fa o pm cd doc a vs ns G Y ho hd hcd hmg hobj hints hlen gs => ?_
  have kx := hY w _ Y
  obtain ⟨fd, h1, h2⟩ := F w mg fa _ kx G.T.g hmg
  exact ends_true kx G.T.g G.T.b G.T.builtins G.T.nolimit gs hobj hints hlen hr h2 h1 fun H hS => hsp _ H a ns hlen hS
end

/-! ### the classes -/
theorem rp1 {P : Program} {K : PySem.W.Frag} {mg : Str → Option Value} {C : Addr} (T : IniC P K mg C (inClass (top 1) 0) "BadWell.__init__") (no : PySem.W.findIn K (.ref C) "part" = some none) : RunPart P K mg C := by
  obtain ⟨f, cc, cda, oc, ccl, cl, kV, doc, pm, ct, od, cdd, cld, an, osl, ccs, csl, vs, file, tf, e1, e2, e3⟩ := T.ex
  refine ⟨f, e1, e2, fun w A h g d t os mb x t0 u R X hmg hmb hbb hlim hx hr hKx hq => run_part T e1 X hmg hmb hbb hlim hx hr no hKx (fun _ _ _ _ => ⟨rfl, rfl, ⟨_, rfl⟩, rfl⟩) (fun _ _ _ _ => rfl) rfl ⟨rfl, rfl, rfl, rfl, by decide +kernel⟩ ⟨rfl, rfl, rfl⟩ rfl (fun _ _ _ _ _ _ _ _ _ _ => .of_eq rfl) hq⟩
theorem rp2 {P : Program} {K : PySem.W.Frag} {mg : Str → Option Value} {C : Addr} (T : IniC P K mg C (inClass (top 2) 0) "BadPaper.__init__") (no : PySem.W.findIn K (.ref C) "part" = some none) : RunPart P K mg C := by
  obtain ⟨f, cc, cda, oc, ccl, cl, kV, doc, pm, ct, od, cdd, cld, an, osl, ccs, csl, vs, file, tf, e1, e2, e3⟩ := T.ex
  refine ⟨f, e1, e2, fun w A h g d t os mb x t0 u R X hmg hmb hbb hlim hx hr hKx hq => run_part T e1 X hmg hmb hbb hlim hx hr no hKx (fun _ _ _ _ => ⟨rfl, rfl, ⟨_, rfl⟩, rfl⟩) (fun _ _ _ _ => rfl) rfl ⟨rfl, rfl, rfl, rfl, by decide +kernel⟩ ⟨rfl, rfl, rfl⟩ rfl (fun _ _ _ _ _ _ _ _ _ _ => .of_eq rfl) hq⟩
theorem rp3 {P : Program} {K : PySem.W.Frag} {mg : Str → Option Value} {C : Addr} (T : IniC P K mg C (inClass (top 3) 0) "OutOfPlace.__init__") : RunText P K mg C := by
  obtain ⟨f, cc, cda, oc, ccl, cl, kV, doc, pm, ct, od, cdd, cld, an, osl, ccs, csl, vs, file, tf, e1, e2, e3⟩ := T.ex
  refine ⟨f, e1, e2, fun w A h g d t os mb x t0 u R X hmg hmb hbb hlim hx hr hq => run_text T e1 X hmg hmb hbb hlim hx hr (fun _ _ _ _ => ⟨rfl, rfl, ⟨_, rfl⟩, rfl⟩) rfl ⟨rfl, rfl, rfl, rfl, by decide +kernel⟩ ⟨rfl, rfl, rfl⟩ rfl (fun _ _ _ _ _ _ _ _ _ _ => .of_eq rfl) hq⟩
end Kw

/-! text R10 -/
/-! The end, part 2: what the top has written, and all the defs put together (printed by gen_end.py). -/
namespace Kw
open PySem PySem.Spec PyProof.Rows L2 PySem.Calls
structure DefIn (K : PySem.W.Frag) (x : Str) (st : Stmt) : Prop where
  ex : ∃ (f : Addr) (fd : FuncData), PySem.W.nsIn K mainGlobals x = some (some (.ref f)) ∧ Fun K x x st f fd
theorem defIn_mk {K : PySem.W.Frag} {x : Str} {st : Stmt} {f : Addr} {oc kV doc pm cdv ct : Value} {od an : Option Addr} {osl : Array (Option Value)} (a : PySem.W.nsIn K mainGlobals x = some (some (.ref f)))
    (l : K.lookup f = some ⟨oc, od, .func (PySem.W.fnOf x x (defArgs st) (defBody st) (defScope st) .none kV doc pm an cdv ct), osl⟩) (c : PySem.W.codeIn K cdv x = true) (k : PySem.W.keepIn K (.ref f) = true) : DefIn K x st := ⟨f, _, a, fun_mk l c k⟩
def ConstIn (K : PySem.W.Frag) (x : Str) (v : V) : Prop := ∃ u, PySem.W.nsIn K mainGlobals x = some (some u) ∧ RelV v u
theorem constI {K : PySem.W.Frag} {x : Str} {i : Int} {t : Tok} (a : PySem.W.nsIn K mainGlobals x = some (some (.int i t))) : ConstIn K x (.int i) := ⟨_, a, t, rfl⟩
theorem constS {K : PySem.W.Frag} {x y : Str} {t : Tok} (a : PySem.W.nsIn K mainGlobals x = some (some (.str y t))) : ConstIn K x (.str y) := ⟨_, a, t, rfl⟩
/-- what is written of one of the classes over ValueError -/
structure ClsA (P : Program) (K : PySem.W.Frag) (x : Str) (st : Stmt) (qual : Str) (C : Addr) : Prop where
  a : PySem.W.nsIn K mainGlobals x = some (some (.ref C))
  ox : OexC K C
  xf : XfC K C
  np : PySem.W.findIn K (.ref C) "part" = some none
  cl : PySem.W.isClsIn K C = true
  mro : PySem.W.mroIn K C (.ref C) = some true
  self : PySem.W.subIn K (.ref C) (.ref C) = some true
  subE : PySem.W.subIn K (.ref C) (.type "ValueError") = some true
  up : PySem.W.ks_superIn K C C "__init__" = some (some (.builtin "ValueError.__init__"))
  ini : ∃ (f cc cda : Addr) (oc ccl cl kV doc pm ct : Value) (od cdd cld an : Option Addr) (osl ccs csl : Array (Option Value)) (vs : Array Value) (file : Str) (tf : Tok),
    PySem.W.findIn K (.ref C) "__init__" = some (some (.ref f)) ∧ PySem.W.typeIn K (.ref f) = some (.type "function") ∧
    K.lookup f = some ⟨oc, od, .func (PySem.W.ksFn "__init__" qual (defArgs st) (defBody st) (defScope st) .none kV doc pm an (.ref cda) ct cc), osl⟩ ∧ PySem.W.codeIn K (.ref cda) qual = true ∧
    K.lookup cda = some ⟨ccl, cdd, .fields vs, ccs⟩ ∧ vs[2]? = some (.str file tf) ∧ ((P.main.file : Str) == file) = true ∧ K.lookup cc = some ⟨cl, cld, .cell (some (.ref C)), csl⟩
theorem clsA_mk {P : Program} {K : PySem.W.Frag} {x : Str} {st : Stmt} {qual nm q file : Str} {C N f cc cda : Addr} {bs sub : List Value} {sn : List Str} {ab : Bool} {col : Option Bool} {dd od cdd cld an : Option Addr} {m0 m1 m2 m3 m5 : Option Value} {oc ccl cl kV doc pm ct : Value}
    {osl ccs csl : Array (Option Value)} {vs : Array Value} {tf : Tok} (a : PySem.W.nsIn K mainGlobals x = some (some (.ref C)))
    (xL : K.lookup C = some (excClassObj nm q C N bs [.type "ValueError", .type "Exception", .type "BaseException", .type "object"] true sn sub ab col dd m0 m1 m2 m3 m5 "ValueError.__new__"))
    (sa : PySem.W.findIn K (.ref C) "__setattr__" = some (some (.builtin "object.__setattr__"))) (ga : PySem.W.findIn K (.ref C) "__getattribute__" = some (some (.builtin "BaseException.__getattribute__"))) (gg : PySem.W.findIn K (.ref C) "__getattr__" = some none) (np : PySem.W.findIn K (.ref C) "part" = some none)
    (ai : PySem.W.findIn K (.ref C) "__init__" = some (some (.ref f))) (ti : PySem.W.typeIn K (.ref f) = some (.type "function"))
    (li : K.lookup f = some ⟨oc, od, .func (PySem.W.ksFn "__init__" qual (defArgs st) (defBody st) (defScope st) .none kV doc pm an (.ref cda) ct cc), osl⟩) (ci : PySem.W.codeIn K (.ref cda) qual = true)
    (ld : K.lookup cda = some ⟨ccl, cdd, .fields vs, ccs⟩) (vf : vs[2]? = some (.str file tf)) (fl : ((P.main.file : Str) == file) = true) (lc : K.lookup cc = some ⟨cl, cld, .cell (some (.ref C)), csl⟩)
    (kC : PySem.W.keepIn K (.ref C) = true) (eC : PySem.W.subIn K (.ref C) (.type "BaseException") = some true) (tC : PySem.W.typeIn K (.ref C) = some (.type "type")) (hC : PySem.W.hasDictIn K C = true) (iC : PySem.W.isClsIn K C = true)
    (sC : PySem.W.subIn K (.ref C) (.ref C) = some true) (mC : PySem.W.mroIn K C (.ref C) = some true) (sE : PySem.W.subIn K (.ref C) (.type "ValueError") = some true) (up : PySem.W.ks_superIn K C C "__init__" = some (some (.builtin "ValueError.__init__"))) : ClsA P K x st qual C :=
  ⟨a, ⟨⟨nm, q, N, bs, _, sn, sub, ab, col, dd, m0, m1, m2, m3, m5, xL, by decide +kernel⟩, sa, eC, tC, kC⟩, ⟨ga, gg, eC, hC⟩, np, iC, mC, sC, sE, up, ⟨f, cc, cda, oc, ccl, cl, kV, doc, pm, ct, od, cdd, cld, an, osl, ccs, csl, vs, file, tf, ai, ti, li, ci, ld, vf, fl, lc⟩⟩
theorem ClsA.iniC {P : Program} {K : PySem.W.Frag} {mg : Str → Option Value} {x qual : Str} {st : Stmt} {C : Addr} (c : ClsA P K x st qual C) (opq : PySem.W.nsIn K cStatics "thirdparty.any" = some none) (sup : mg "super" = none) (pt : (P.main.scope.names.lookup ("super" : Str)).isSome = false) :
    IniC P K mg C st qual := ⟨c.ox, opq, sup, pt, c.mro, c.subE, c.up, c.ini⟩
theorem exm_is {K : PySem.W.Frag} {S C : Addr} {b : Bool} (h1 : PySem.W.subIn K (.ref C) (.type "BaseException") = some true) (h2 : PySem.W.isClsIn K C = true) (h3 : PySem.W.typeIn K (.ref C) = some (.type "type")) (h4 : PySem.W.subIn K (.ref S) (.ref C) = some b) : PySem.W.exmOne K (.ref S) (.ref C) = some b := by
  have e2 : ((PySem.W.clsIn K C).isSome && PySem.W.typeIn K (.ref C) == some (.type "type")) = true := by
    rw [show (PySem.W.clsIn K C).isSome = true from h2, h3] <;> rfl
  unfold PySem.W.exmOne
  rw [if_pos (by rw [h1] <;> rfl)]
  exact (if_pos e2).trans h4
theorem all_mk {P : Program} {w : World} {K : PySem.W.Frag} {h : Heap} {mg : Str → Option Value} {fa C1 C2 C3 : Addr} (X : K.In h) (G : h.Ns mainGlobals mg) (hfa : mg "law" = some (.ref fa)) (pt : (P.main.scope.names.lookup ("super" : Str)).isSome = false)
    (k1 : ClsA P K "BadWell" (inClass (top 1) 0) "BadWell.__init__" C1)
    (k2 : ClsA P K "BadPaper" (inClass (top 2) 0) "BadPaper.__init__" C2)
    (k3 : ClsA P K "OutOfPlace" (inClass (top 3) 0) "OutOfPlace.__init__" C3)
    (e12 : PySem.W.subIn K (.ref C1) (.ref C2) = some false) (e13 : PySem.W.subIn K (.ref C1) (.ref C3) = some false) (e21 : PySem.W.subIn K (.ref C2) (.ref C1) = some false) (e23 : PySem.W.subIn K (.ref C2) (.ref C3) = some false) (e31 : PySem.W.subIn K (.ref C3) (.ref C1) = some false) (e32 : PySem.W.subIn K (.ref C3) (.ref C2) = some false)
    (opq : PySem.W.nsIn K cStatics "thirdparty.any" = some none) (b_super : PySem.W.nsIn K mainGlobals "super" = some none)
    (b_len : PySem.W.nsIn K mainGlobals "len" = some none) (b_isinstance : PySem.W.nsIn K mainGlobals "isinstance" = some none) (b_sum : PySem.W.nsIn K mainGlobals "sum" = some none) (b_min : PySem.W.nsIn K mainGlobals "min" = some none) (b_int : PySem.W.nsIn K mainGlobals "int" = some none) (b_bool : PySem.W.nsIn K mainGlobals "bool" = some none) (b_str : PySem.W.nsIn K mainGlobals "str" = some none) (b_tuple : PySem.W.nsIn K mainGlobals "tuple" = some none) (b_list : PySem.W.nsIn K mainGlobals "list" = some none) (b_sorted : PySem.W.nsIn K mainGlobals "sorted" = some none) (b_all : PySem.W.nsIn K mainGlobals "all" = some none) (b_repr : PySem.W.nsIn K mainGlobals "repr" = some none) (b_range : PySem.W.nsIn K mainGlobals "range" = some none) (b_zip : PySem.W.nsIn K mainGlobals "zip" = some none) (b_enumerate : PySem.W.nsIn K mainGlobals "enumerate" = some none)
    (n_MOST_TOP : ConstIn K "MOST_TOP" (.int 200)) (n_MOST_DRAIN : ConstIn K "MOST_DRAIN" (.int 50)) (n_MOST_AGE : ConstIn K "MOST_AGE" (.int 5)) (n_MOST_STARTS : ConstIn K "MOST_STARTS" (.int 5)) (n_MOST_STEP : ConstIn K "MOST_STEP" (.int 20)) (n_MOST_LAG : ConstIn K "MOST_LAG" (.int 3)) (n_MOST_NUMBER : ConstIn K "MOST_NUMBER" (.int 50)) (n_MOST_COUNT : ConstIn K "MOST_COUNT" (.int 1000)) (n_OVER_wells : ConstIn K "OVER_wells" (.str "over")) (n_DRY : ConstIn K "DRY" (.str "dry")) (n_MOST_INFLOW : ConstIn K "MOST_INFLOW" (.int 300)) (n_OVER_crews : ConstIn K "OVER_crews" (.str "over")) (n_MOST_FAILS : ConstIn K "MOST_FAILS" (.int 4)) (n_MOST_LIKE : ConstIn K "MOST_LIKE" (.int 12)) (n_MOST_PAIRS : ConstIn K "MOST_PAIRS" (.int 20000)) (n_SAFE : ConstIn K "SAFE" (.str "safe"))
    (d__law_begun : DefIn K "_law_begun" s__law_begun)
    (d__law_next : DefIn K "_law_next" s__law_next)
    (d__law_well : DefIn K "_law_well" s__law_well)
    (d__law_begun_state : DefIn K "_law_begun_state" s__law_begun_state)
    (d_is_whole : DefIn K "is_whole" s_is_whole)
    (d_are_counts : DefIn K "are_counts" s_are_counts)
    (d_are_levels : DefIn K "are_levels" s_are_levels)
    (d_number_of : DefIn K "number_of" s_number_of)
    (d_is_state_of : DefIn K "is_state_of" s_is_state_of)
    (d_number_in : DefIn K "number_in" s_number_in)
    (d_is_few : DefIn K "is_few" s_is_few)
    (d_wrong_part : DefIn K "wrong_part" s_wrong_part)
    (d_need_well : DefIn K "need_well" s_need_well)
    (d_need_bounds : DefIn K "need_bounds" s_need_bounds)
    (d_need_asked : DefIn K "need_asked" s_need_asked)
    (d_aged : DefIn K "aged" s_aged)
    (d_led_to : DefIn K "led_to" s_led_to)
    (d_seen_of : DefIn K "seen_of" s_seen_of)
    (d_moves_of : DefIn K "moves_of" s_moves_of)
    (d_after_in : DefIn K "after_in" s_after_in)
    (d_less_one : DefIn K "less_one" s_less_one)
    (d_losses_of : DefIn K "losses_of" s_losses_of)
    (d_is_like : DefIn K "is_like" s_is_like)
    (d_behind_thing : DefIn K "behind_thing" s_behind_thing)
    (d_does_run_over : DefIn K "does_run_over" s_does_run_over)
    (d_is_pair : DefIn K "is_pair" s_is_pair)
    (d_things_of : DefIn K "things_of" s_things_of)
    (d_is_closed : DefIn K "is_closed" s_is_closed)
    (d_check_safe : DefIn K "check_safe" s_check_safe)
    (d_is_safe : DefIn K "is_safe" s_is_safe)
    (d_searched : DefIn K "searched" s_searched)
    (d_safe_paper : DefIn K "safe_paper" s_safe_paper)
    (d_least_number : DefIn K "least_number" s_least_number)
    (d__law_outcome : DefIn K "_law_outcome" s__law_outcome)
    (d__law_refused_right : DefIn K "_law_refused_right" s__law_refused_right)
    (d__law_step : DefIn K "_law_step" s__law_step)
    (d__law_some_beats_on : DefIn K "_law_some_beats_on" s__law_some_beats_on)
    (d__law_losses : DefIn K "_law_losses" s__law_losses)
    (d__law_things : DefIn K "_law_things" s__law_things)
    (d__law_reach : DefIn K "_law_reach" s__law_reach)
    (d__law_bent : DefIn K "_law_bent" s__law_bent)
    (d__law_runs_over : DefIn K "_law_runs_over" s__law_runs_over)
    (d_is_state : DefIn K "is_state" s_is_state)
    (d__law_is_closed : DefIn K "_law_is_closed" s__law_is_closed)
    (d__law_due : DefIn K "_law_due" s__law_due)
    (d_law : DefIn K "law" s_law)
    : ∃ fd : FuncData, (∀ (s : Shared) (u : Value), BindsTo s fd ⟨[u], []⟩ [("_law_script", u)]) ∧ ∀ base : Heap, K.In base → base.Ns mainGlobals mg → FnG P w K mg base 10 fa fd ["_law_script"] (LSp K) := by
  have g1 : ∀ {x : Str} {v : Value}, PySem.W.nsIn K mainGlobals x = some (some v) → mg x = some v := fun e => PySem.W.mg_of X G e
  have g0 : ∀ {x : Str}, PySem.W.nsIn K mainGlobals x = some none → mg x = none := fun e => PySem.W.mg_none_of X G e
  have gc : ∀ {x : Str} {v : V}, ConstIn K x v → ∃ u, mg x = some u ∧ RelV v u := fun ⟨u, e, r⟩ => ⟨u, g1 e, r⟩
  have T : Tx P K mg C1 C2 C3 := {
    b_len := g0 b_len,
    b_isinstance := g0 b_isinstance,
    b_sum := g0 b_sum,
    b_min := g0 b_min,
    b_int := g0 b_int,
    b_bool := g0 b_bool,
    b_str := g0 b_str,
    b_tuple := g0 b_tuple,
    b_list := g0 b_list,
    b_sorted := g0 b_sorted,
    b_all := g0 b_all,
    b_repr := g0 b_repr,
    b_range := g0 b_range,
    b_zip := g0 b_zip,
    b_enumerate := g0 b_enumerate,
    c_MOST_TOP := gc n_MOST_TOP,
    c_MOST_DRAIN := gc n_MOST_DRAIN,
    c_MOST_AGE := gc n_MOST_AGE,
    c_MOST_STARTS := gc n_MOST_STARTS,
    c_MOST_STEP := gc n_MOST_STEP,
    c_MOST_LAG := gc n_MOST_LAG,
    c_MOST_NUMBER := gc n_MOST_NUMBER,
    c_MOST_COUNT := gc n_MOST_COUNT,
    c_OVER_wells := gc n_OVER_wells,
    c_DRY := gc n_DRY,
    c_MOST_INFLOW := gc n_MOST_INFLOW,
    c_OVER_crews := gc n_OVER_crews,
    c_MOST_FAILS := gc n_MOST_FAILS,
    c_MOST_LIKE := gc n_MOST_LIKE,
    c_MOST_PAIRS := gc n_MOST_PAIRS,
    c_SAFE := gc n_SAFE,
    ox1 := k1.ox, ox2 := k2.ox, ox3 := k3.ox,
    rx1 := rp1 (k1.iniC opq (g0 b_super) pt) k1.np, rx2 := rp2 (k2.iniC opq (g0 b_super) pt) k2.np, rx3 := rp3 (k3.iniC opq (g0 b_super) pt),
    mx1 := g1 k1.a, mx2 := g1 k2.a, mx3 := g1 k3.a,
    ee := fun i j => by
      match i, j with
      | 0, 0 => exact exm_is k1.ox.exC k1.cl k1.ox.tyC k1.self
      | 0, 1 => exact exm_is k2.ox.exC k2.cl k2.ox.tyC e12
      | 0, 2 => exact exm_is k3.ox.exC k3.cl k3.ox.tyC e13
      | 1, 0 => exact exm_is k1.ox.exC k1.cl k1.ox.tyC e21
      | 1, 1 => exact exm_is k2.ox.exC k2.cl k2.ox.tyC k2.self
      | 1, 2 => exact exm_is k3.ox.exC k3.cl k3.ox.tyC e23
      | 2, 0 => exact exm_is k1.ox.exC k1.cl k1.ox.tyC e31
      | 2, 1 => exact exm_is k2.ox.exC k2.cl k2.ox.tyC e32
      | 2, 2 => exact exm_is k3.ox.exC k3.cl k3.ox.tyC k3.self
    xf1 := k1.xf, xf2 := k2.xf, xp1 := k1.np, xp2 := k2.np }
  obtain ⟨f__law_begun, fd__law_begun, a__law_begun, F__law_begun⟩ := d__law_begun.ex
  obtain ⟨f__law_next, fd__law_next, a__law_next, F__law_next⟩ := d__law_next.ex
  obtain ⟨f__law_well, fd__law_well, a__law_well, F__law_well⟩ := d__law_well.ex
  obtain ⟨f__law_begun_state, fd__law_begun_state, a__law_begun_state, F__law_begun_state⟩ := d__law_begun_state.ex
  obtain ⟨f_is_whole, fd_is_whole, a_is_whole, F_is_whole⟩ := d_is_whole.ex
  obtain ⟨f_are_counts, fd_are_counts, a_are_counts, F_are_counts⟩ := d_are_counts.ex
  obtain ⟨f_are_levels, fd_are_levels, a_are_levels, F_are_levels⟩ := d_are_levels.ex
  obtain ⟨f_number_of, fd_number_of, a_number_of, F_number_of⟩ := d_number_of.ex
  obtain ⟨f_is_state_of, fd_is_state_of, a_is_state_of, F_is_state_of⟩ := d_is_state_of.ex
  obtain ⟨f_number_in, fd_number_in, a_number_in, F_number_in⟩ := d_number_in.ex
  obtain ⟨f_is_few, fd_is_few, a_is_few, F_is_few⟩ := d_is_few.ex
  obtain ⟨f_wrong_part, fd_wrong_part, a_wrong_part, F_wrong_part⟩ := d_wrong_part.ex
  obtain ⟨f_need_well, fd_need_well, a_need_well, F_need_well⟩ := d_need_well.ex
  obtain ⟨f_need_bounds, fd_need_bounds, a_need_bounds, F_need_bounds⟩ := d_need_bounds.ex
  obtain ⟨f_need_asked, fd_need_asked, a_need_asked, F_need_asked⟩ := d_need_asked.ex
  obtain ⟨f_aged, fd_aged, a_aged, F_aged⟩ := d_aged.ex
  obtain ⟨f_led_to, fd_led_to, a_led_to, F_led_to⟩ := d_led_to.ex
  obtain ⟨f_seen_of, fd_seen_of, a_seen_of, F_seen_of⟩ := d_seen_of.ex
  obtain ⟨f_moves_of, fd_moves_of, a_moves_of, F_moves_of⟩ := d_moves_of.ex
  obtain ⟨f_after_in, fd_after_in, a_after_in, F_after_in⟩ := d_after_in.ex
  obtain ⟨f_less_one, fd_less_one, a_less_one, F_less_one⟩ := d_less_one.ex
  obtain ⟨f_losses_of, fd_losses_of, a_losses_of, F_losses_of⟩ := d_losses_of.ex
  obtain ⟨f_is_like, fd_is_like, a_is_like, F_is_like⟩ := d_is_like.ex
  obtain ⟨f_behind_thing, fd_behind_thing, a_behind_thing, F_behind_thing⟩ := d_behind_thing.ex
  obtain ⟨f_does_run_over, fd_does_run_over, a_does_run_over, F_does_run_over⟩ := d_does_run_over.ex
  obtain ⟨f_is_pair, fd_is_pair, a_is_pair, F_is_pair⟩ := d_is_pair.ex
  obtain ⟨f_things_of, fd_things_of, a_things_of, F_things_of⟩ := d_things_of.ex
  obtain ⟨f_is_closed, fd_is_closed, a_is_closed, F_is_closed⟩ := d_is_closed.ex
  obtain ⟨f_check_safe, fd_check_safe, a_check_safe, F_check_safe⟩ := d_check_safe.ex
  obtain ⟨f_is_safe, fd_is_safe, a_is_safe, F_is_safe⟩ := d_is_safe.ex
  obtain ⟨f_searched, fd_searched, a_searched, F_searched⟩ := d_searched.ex
  obtain ⟨f_safe_paper, fd_safe_paper, a_safe_paper, F_safe_paper⟩ := d_safe_paper.ex
  obtain ⟨f_least_number, fd_least_number, a_least_number, F_least_number⟩ := d_least_number.ex
  obtain ⟨f__law_outcome, fd__law_outcome, a__law_outcome, F__law_outcome⟩ := d__law_outcome.ex
  obtain ⟨f__law_refused_right, fd__law_refused_right, a__law_refused_right, F__law_refused_right⟩ := d__law_refused_right.ex
  obtain ⟨f__law_step, fd__law_step, a__law_step, F__law_step⟩ := d__law_step.ex
  obtain ⟨f__law_some_beats_on, fd__law_some_beats_on, a__law_some_beats_on, F__law_some_beats_on⟩ := d__law_some_beats_on.ex
  obtain ⟨f__law_losses, fd__law_losses, a__law_losses, F__law_losses⟩ := d__law_losses.ex
  obtain ⟨f__law_things, fd__law_things, a__law_things, F__law_things⟩ := d__law_things.ex
  obtain ⟨f__law_reach, fd__law_reach, a__law_reach, F__law_reach⟩ := d__law_reach.ex
  obtain ⟨f__law_bent, fd__law_bent, a__law_bent, F__law_bent⟩ := d__law_bent.ex
  obtain ⟨f__law_runs_over, fd__law_runs_over, a__law_runs_over, F__law_runs_over⟩ := d__law_runs_over.ex
  obtain ⟨f_is_state, fd_is_state, a_is_state, F_is_state⟩ := d_is_state.ex
  obtain ⟨f__law_is_closed, fd__law_is_closed, a__law_is_closed, F__law_is_closed⟩ := d__law_is_closed.ex
  obtain ⟨f__law_due, fd__law_due, a__law_due, F__law_due⟩ := d__law_due.ex
  obtain ⟨f_law, fd_law, a_law, F_law⟩ := d_law.ex
  have e := hfa.symm.trans (g1 a_law)
  cases e
  refine ⟨fd_law, ?_, fun base _ _ => ?_⟩
  · obtain ⟨_, _, _, _, _, _, _, _, _, rfl, _, _⟩ := F_law.ex
    exact fun s u => .of_eq rfl
  have g__law_begun : FnG P w K mg base 1 f__law_begun fd__law_begun ["_law_script"] (BSp P w K) := ok_law_begun T F__law_begun 
  have b__law_begun : Binds K fd__law_begun ["_law_script"] [] := F__law_begun.binds fun _ _ _ _ _ _ us hl => match us, hl with | [_], _ => rfl
  have c__law_begun : Cl P w K mg base 1 "_law_begun" (BSp P w K) := ⟨f__law_begun, fd__law_begun, _, g__law_begun, g1 a__law_begun, F__law_begun.kp, b__law_begun⟩
  have g__law_next : FnG P w K mg base 1 f__law_next fd__law_next ["_law_m", "_law_total"] (sp_next P w K) := ok_law_next T F__law_next 
  have b__law_next : Binds K fd__law_next ["_law_m", "_law_total"] [] := F__law_next.binds fun _ _ _ _ _ _ us hl => match us, hl with | [_, _], _ => rfl
  have c__law_next : Cl P w K mg base 1 "_law_next" (sp_next P w K) := ⟨f__law_next, fd__law_next, _, g__law_next, g1 a__law_next, F__law_next.kp, b__law_next⟩
  have g__law_well : FnG P w K mg base 2 f__law_well fd__law_well ["_law_m", "_law_top"] (sp_well P w K) := ok_law_well T F__law_well (c__law_next.mono (by decide))
  have b__law_well : Binds K fd__law_well ["_law_m", "_law_top"] [] := F__law_well.binds fun _ _ _ _ _ _ us hl => match us, hl with | [_, _], _ => rfl
  have c__law_well : Cl P w K mg base 2 "_law_well" (sp_well P w K) := ⟨f__law_well, fd__law_well, _, g__law_well, g1 a__law_well, F__law_well.kp, b__law_well⟩
  have g__law_begun_state : FnG P w K mg base 1 f__law_begun_state fd__law_begun_state ["_law_well_here", "_law_level", "_law_number"] (sp_begun_state P w K) := ok_begun_state T F__law_begun_state 
  have b__law_begun_state : Binds K fd__law_begun_state ["_law_well_here", "_law_level", "_law_number"] [] := F__law_begun_state.binds fun _ _ _ _ _ _ us hl => match us, hl with | [_, _, _], _ => rfl
  have c__law_begun_state : Cl P w K mg base 1 "_law_begun_state" (sp_begun_state P w K) := ⟨f__law_begun_state, fd__law_begun_state, _, g__law_begun_state, g1 a__law_begun_state, F__law_begun_state.kp, b__law_begun_state⟩
  have g_is_whole : FnG P w K mg base 1 f_is_whole fd_is_whole ["thing", "least", "most"] (sp_is_whole P w K) := ok_is_whole T F_is_whole 
  have b_is_whole : Binds K fd_is_whole ["thing", "least", "most"] [] := F_is_whole.binds fun _ _ _ _ _ _ us hl => match us, hl with | [_, _, _], _ => rfl
  have c_is_whole : Cl P w K mg base 1 "is_whole" (sp_is_whole P w K) := ⟨f_is_whole, fd_is_whole, _, g_is_whole, g1 a_is_whole, F_is_whole.kp, b_is_whole⟩
  have g_are_counts : FnG P w K mg base 2 f_are_counts fd_are_counts ["thing", "many"] (sp_are_counts P w K) := ok_are_counts T F_are_counts (c_is_whole.mono (by decide))
  have b_are_counts : Binds K fd_are_counts ["thing", "many"] [] := F_are_counts.binds fun _ _ _ _ _ _ us hl => match us, hl with | [_, _], _ => rfl
  have c_are_counts : Cl P w K mg base 2 "are_counts" (sp_are_counts P w K) := ⟨f_are_counts, fd_are_counts, _, g_are_counts, g1 a_are_counts, F_are_counts.kp, b_are_counts⟩
  have g_are_levels : FnG P w K mg base 2 f_are_levels fd_are_levels ["well", "thing", "many"] (sp_are_levels P w K) := ok_are_levels T F_are_levels (c_is_whole.mono (by decide))
  have b_are_levels : Binds K fd_are_levels ["well", "thing", "many"] [] := F_are_levels.binds fun _ _ _ _ _ _ us hl => match us, hl with | [_, _, _], _ => rfl
  have c_are_levels : Cl P w K mg base 2 "are_levels" (sp_are_levels P w K) := ⟨f_are_levels, fd_are_levels, _, g_are_levels, g1 a_are_levels, F_are_levels.kp, b_are_levels⟩
  have g_number_of : FnG P w K mg base 1 f_number_of fd_number_of ["state"] (sp_number P w K) := ok_number_of T F_number_of 
  have b_number_of : Binds K fd_number_of ["state"] [] := F_number_of.binds fun _ _ _ _ _ _ us hl => match us, hl with | [_], _ => rfl
  have c_number_of : Cl P w K mg base 1 "number_of" (sp_number P w K) := ⟨f_number_of, fd_number_of, _, g_number_of, g1 a_number_of, F_number_of.kp, b_number_of⟩
  have g_is_state_of : FnG P w K mg base 3 f_is_state_of fd_is_state_of ["well", "thing"] (sp_is_state_of P w K) := ok_is_state_of T F_is_state_of (c_is_whole.mono (by decide)) (c_are_counts.mono (by decide)) (c_are_levels.mono (by decide)) (c_number_of.mono (by decide))
  have b_is_state_of : Binds K fd_is_state_of ["well", "thing"] [] := F_is_state_of.binds fun _ _ _ _ _ _ us hl => match us, hl with | [_, _], _ => rfl
  have c_is_state_of : Cl P w K mg base 3 "is_state_of" (sp_is_state_of P w K) := ⟨f_is_state_of, fd_is_state_of, _, g_is_state_of, g1 a_is_state_of, F_is_state_of.kp, b_is_state_of⟩
  have g_number_in : FnG P w K mg base 1 f_number_in fd_number_in ["state"] (sp_number P w K) := ok_number_in T F_number_in 
  have b_number_in : Binds K fd_number_in ["state"] [] := F_number_in.binds fun _ _ _ _ _ _ us hl => match us, hl with | [_], _ => rfl
  have c_number_in : Cl P w K mg base 1 "number_in" (sp_number P w K) := ⟨f_number_in, fd_number_in, _, g_number_in, g1 a_number_in, F_number_in.kp, b_number_in⟩
  have g_is_few : FnG P w K mg base 4 f_is_few fd_is_few ["well", "thing"] (sp_is_few P w K) := ok_is_few T F_is_few (c_is_state_of.mono (by decide)) (c_number_in.mono (by decide))
  have b_is_few : Binds K fd_is_few ["well", "thing"] [] := F_is_few.binds fun _ _ _ _ _ _ us hl => match us, hl with | [_, _], _ => rfl
  have c_is_few : Cl P w K mg base 4 "is_few" (sp_is_few P w K) := ⟨f_is_few, fd_is_few, _, g_is_few, g1 a_is_few, F_is_few.kp, b_is_few⟩
  have g_wrong_part : FnG P w K mg base 2 f_wrong_part fd_wrong_part ["thing"] (sp_wrong_part P w K) := ok_wrong_part T F_wrong_part (c_is_whole.mono (by decide))
  have b_wrong_part : Binds K fd_wrong_part ["thing"] [] := F_wrong_part.binds fun _ _ _ _ _ _ us hl => match us, hl with | [_], _ => rfl
  have c_wrong_part : Cl P w K mg base 2 "wrong_part" (sp_wrong_part P w K) := ⟨f_wrong_part, fd_wrong_part, _, g_wrong_part, g1 a_wrong_part, F_wrong_part.kp, b_wrong_part⟩
  have g_need_well : FnG P w K mg base 3 f_need_well fd_need_well ["thing"] (sp_need_well C1 P w K) := ok_need_well T F_need_well (c_wrong_part.mono (by decide))
  have b_need_well : Binds K fd_need_well ["thing"] [] := F_need_well.binds fun _ _ _ _ _ _ us hl => match us, hl with | [_], _ => rfl
  have c_need_well : Cl P w K mg base 3 "need_well" (sp_need_well C1 P w K) := ⟨f_need_well, fd_need_well, _, g_need_well, g1 a_need_well, F_need_well.kp, b_need_well⟩
  have g_need_bounds : FnG P w K mg base 2 f_need_bounds fd_need_bounds ["low", "high", "fails"] (sp_need_bounds C3 P w K) := ok_need_bounds T F_need_bounds (c_is_whole.mono (by decide))
  have b_need_bounds : Binds K fd_need_bounds ["low", "high", "fails"] [] := F_need_bounds.binds fun _ _ _ _ _ _ us hl => match us, hl with | [_, _, _], _ => rfl
  have c_need_bounds : Cl P w K mg base 2 "need_bounds" (sp_need_bounds C3 P w K) := ⟨f_need_bounds, fd_need_bounds, _, g_need_bounds, g1 a_need_bounds, F_need_bounds.kp, b_need_bounds⟩
  have g_need_asked : FnG P w K mg base 6 f_need_asked fd_need_asked ["well", "state", "low", "high", "fails"] (sp_need_asked C1 C3 P w K) := ok_need_asked T F_need_asked (c_is_few.mono (by decide)) (c_need_well.mono (by decide)) (c_need_bounds.mono (by decide))
  have b_need_asked : Binds K fd_need_asked ["well", "state", "low", "high", "fails"] [] := F_need_asked.binds fun _ _ _ _ _ _ us hl => match us, hl with | [_, _, _, _, _], _ => rfl
  have c_need_asked : Cl P w K mg base 6 "need_asked" (sp_need_asked C1 C3 P w K) := ⟨f_need_asked, fd_need_asked, _, g_need_asked, g1 a_need_asked, F_need_asked.kp, b_need_asked⟩
  have g_aged : FnG P w K mg base 1 f_aged fd_aged ["well", "running", "resting", "ready", "started", "stopped"] (sp_aged P w K) := ok_aged T F_aged 
  have b_aged : Binds K fd_aged ["well", "running", "resting", "ready", "started", "stopped"] [] := F_aged.binds fun _ _ _ _ _ _ us hl => match us, hl with | [_, _, _, _, _, _], _ => rfl
  have c_aged : Cl P w K mg base 1 "aged" (sp_aged P w K) := ⟨f_aged, fd_aged, _, g_aged, g1 a_aged, F_aged.kp, b_aged⟩
  have g_led_to : FnG P w K mg base 2 f_led_to fd_led_to ["well", "state", "started", "stopped", "inflow"] (sp_led_to P w K) := ok_led_to T F_led_to (c_aged.mono (by decide))
  have b_led_to : Binds K fd_led_to ["well", "state", "started", "stopped", "inflow"] [] := F_led_to.binds fun _ _ _ _ _ _ us hl => match us, hl with | [_, _, _, _, _], _ => rfl
  have c_led_to : Cl P w K mg base 2 "led_to" (sp_led_to P w K) := ⟨f_led_to, fd_led_to, _, g_led_to, g1 a_led_to, F_led_to.kp, b_led_to⟩
  have g_seen_of : FnG P w K mg base 1 f_seen_of fd_seen_of ["well", "level", "past"] (sp_seen_of P w K) := ok_seen_of T F_seen_of 
  have b_seen_of : Binds K fd_seen_of ["well", "level", "past"] [] := F_seen_of.binds fun _ _ _ _ _ _ us hl => match us, hl with | [_, _, _], _ => rfl
  have c_seen_of : Cl P w K mg base 1 "seen_of" (sp_seen_of P w K) := ⟨f_seen_of, fd_seen_of, _, g_seen_of, g1 a_seen_of, F_seen_of.kp, b_seen_of⟩
  have g_moves_of : FnG P w K mg base 2 f_moves_of fd_moves_of ["well", "state"] (sp_moves_of P w K) := ok_moves_of T F_moves_of (c_seen_of.mono (by decide))
  have b_moves_of : Binds K fd_moves_of ["well", "state"] [] := F_moves_of.binds fun _ _ _ _ _ _ us hl => match us, hl with | [_, _], _ => rfl
  have c_moves_of : Cl P w K mg base 2 "moves_of" (sp_moves_of P w K) := ⟨f_moves_of, fd_moves_of, _, g_moves_of, g1 a_moves_of, F_moves_of.kp, b_moves_of⟩
  have g_after_in : FnG P w K mg base 3 f_after_in fd_after_in ["well", "state", "inflow"] (sp_after_in P w K) := ok_after_in T F_after_in (c_led_to.mono (by decide)) (c_moves_of.mono (by decide))
  have b_after_in : Binds K fd_after_in ["well", "state", "inflow"] [] := F_after_in.binds fun _ _ _ _ _ _ us hl => match us, hl with | [_, _, _], _ => rfl
  have c_after_in : Cl P w K mg base 3 "after_in" (sp_after_in P w K) := ⟨f_after_in, fd_after_in, _, g_after_in, g1 a_after_in, F_after_in.kp, b_after_in⟩
  have g_less_one : FnG P w K mg base 1 f_less_one fd_less_one ["counts", "place"] (sp_less_one P w K) := ok_less_one T F_less_one 
  have b_less_one : Binds K fd_less_one ["counts", "place"] [] := F_less_one.binds fun _ _ _ _ _ _ us hl => match us, hl with | [_, _], _ => rfl
  have c_less_one : Cl P w K mg base 1 "less_one" (sp_less_one P w K) := ⟨f_less_one, fd_less_one, _, g_less_one, g1 a_less_one, F_less_one.kp, b_less_one⟩
  have g_losses_of : FnG P w K mg base 2 f_losses_of fd_losses_of ["state"] (sp_losses P w K) := ok_losses_of T F_losses_of (c_less_one.mono (by decide))
  have b_losses_of : Binds K fd_losses_of ["state"] [] := F_losses_of.binds fun _ _ _ _ _ _ us hl => match us, hl with | [_], _ => rfl
  have c_losses_of : Cl P w K mg base 2 "losses_of" (sp_losses P w K) := ⟨f_losses_of, fd_losses_of, _, g_losses_of, g1 a_losses_of, F_losses_of.kp, b_losses_of⟩
  have g_is_like : FnG P w K mg base 2 f_is_like fd_is_like ["one", "thing"] (sp_is_like P w K) := ok_is_like T F_is_like (c_is_whole.mono (by decide))
  have b_is_like : Binds K fd_is_like ["one", "thing"] [] := F_is_like.binds fun _ _ _ _ _ _ us hl => match us, hl with | [_, _], _ => rfl
  have c_is_like : Cl P w K mg base 2 "is_like" (sp_is_like P w K) := ⟨f_is_like, fd_is_like, _, g_is_like, g1 a_is_like, F_is_like.kp, b_is_like⟩
  have g_behind_thing : FnG P w K mg base 4 f_behind_thing fd_behind_thing ["well", "pair", "thing", "low", "high"] (sp_behind P w K) := ok_behind_thing T F_behind_thing (c_is_whole.mono (by decide)) (c_after_in.mono (by decide)) (c_losses_of.mono (by decide)) (c_is_like.mono (by decide))
  have b_behind_thing : Binds K fd_behind_thing ["well", "pair", "thing", "low", "high"] [] := F_behind_thing.binds fun _ _ _ _ _ _ us hl => match us, hl with | [_, _, _, _, _], _ => rfl
  have c_behind_thing : Cl P w K mg base 4 "behind_thing" (sp_behind P w K) := ⟨f_behind_thing, fd_behind_thing, _, g_behind_thing, g1 a_behind_thing, F_behind_thing.kp, b_behind_thing⟩
  have g_does_run_over : FnG P w K mg base 5 f_does_run_over fd_does_run_over ["well", "state", "low", "high", "fails", "trouble"] (sp_does_run_over P w K) := ok_does_run_over T F_does_run_over (c_behind_thing.mono (by decide))
  have b_does_run_over : Binds K fd_does_run_over ["well", "state", "low", "high", "fails", "trouble"] [] := F_does_run_over.binds fun _ _ _ _ _ _ us hl => match us, hl with | [_, _, _, _, _, _], _ => rfl
  have c_does_run_over : Cl P w K mg base 5 "does_run_over" (sp_does_run_over P w K) := ⟨f_does_run_over, fd_does_run_over, _, g_does_run_over, g1 a_does_run_over, F_does_run_over.kp, b_does_run_over⟩
  have g_is_pair : FnG P w K mg base 5 f_is_pair fd_is_pair ["well", "thing", "fails"] (sp_is_pair P w K) := ok_is_pair T F_is_pair (c_is_whole.mono (by decide)) (c_is_few.mono (by decide))
  have b_is_pair : Binds K fd_is_pair ["well", "thing", "fails"] [] := F_is_pair.binds fun _ _ _ _ _ _ us hl => match us, hl with | [_, _, _], _ => rfl
  have c_is_pair : Cl P w K mg base 5 "is_pair" (sp_is_pair P w K) := ⟨f_is_pair, fd_is_pair, _, g_is_pair, g1 a_is_pair, F_is_pair.kp, b_is_pair⟩
  have g_things_of : FnG P w K mg base 4 f_things_of fd_things_of ["well", "pair", "low", "high"] (sp_things_of P w K) := ok_things_of T F_things_of (c_after_in.mono (by decide)) (c_losses_of.mono (by decide))
  have b_things_of : Binds K fd_things_of ["well", "pair", "low", "high"] [] := F_things_of.binds fun _ _ _ _ _ _ us hl => match us, hl with | [_, _, _, _], _ => rfl
  have c_things_of : Cl P w K mg base 4 "things_of" (sp_things_of P w K) := ⟨f_things_of, fd_things_of, _, g_things_of, g1 a_things_of, F_things_of.kp, b_things_of⟩
  have g_is_closed : FnG P w K mg base 6 f_is_closed fd_is_closed ["well", "state", "low", "high", "fails", "table"] (sp_is_closed P w K) := ok_is_closed T F_is_closed (c_is_pair.mono (by decide)) (c_things_of.mono (by decide))
  have b_is_closed : Binds K fd_is_closed ["well", "state", "low", "high", "fails", "table"] [] := F_is_closed.binds fun _ _ _ _ _ _ us hl => match us, hl with | [_, _, _, _, _, _], _ => rfl
  have c_is_closed : Cl P w K mg base 6 "is_closed" (sp_is_closed P w K) := ⟨f_is_closed, fd_is_closed, _, g_is_closed, g1 a_is_closed, F_is_closed.kp, b_is_closed⟩
  have g_check_safe : FnG P w K mg base 7 f_check_safe fd_check_safe ["well", "state", "low", "high", "fails", "paper"] (sp_check_safe C1 C2 C3 P w K) := ok_check_safe T F_check_safe (c_need_asked.mono (by decide)) ⟨fd_does_run_over, _, (g_does_run_over).mono (by decide), g1 a_does_run_over, F_does_run_over.kp, b_does_run_over⟩ ⟨fd_is_closed, _, (g_is_closed).mono (by decide), g1 a_is_closed, F_is_closed.kp, b_is_closed⟩ (g1 a_does_run_over) (g1 a_is_closed)
  have b_check_safe : Binds K fd_check_safe ["well", "state", "low", "high", "fails", "paper"] [] := F_check_safe.binds fun _ _ _ _ _ _ us hl => match us, hl with | [_, _, _, _, _, _], _ => rfl
  have c_check_safe : Cl P w K mg base 7 "check_safe" (sp_check_safe C1 C2 C3 P w K) := ⟨f_check_safe, fd_check_safe, _, g_check_safe, g1 a_check_safe, F_check_safe.kp, b_check_safe⟩
  have g_is_safe : FnG P w K mg base 7 f_is_safe fd_is_safe ["well", "state", "low", "high", "fails"] (sp_is_safe C1 C3 P w K) := ok_is_safe T F_is_safe (c_need_asked.mono (by decide))
  have b_is_safe : Binds K fd_is_safe ["well", "state", "low", "high", "fails"] [] := F_is_safe.binds fun _ _ _ _ _ _ us hl => match us, hl with | [_, _, _, _, _], _ => rfl
  have c_is_safe : Cl P w K mg base 7 "is_safe" (sp_is_safe C1 C3 P w K) := ⟨f_is_safe, fd_is_safe, _, g_is_safe, g1 a_is_safe, F_is_safe.kp, b_is_safe⟩
  have g_searched : FnG P w K mg base 5 f_searched fd_searched ["well", "state", "low", "high", "fails"] (sp_searched P w K) := ok_searched T F_searched (c_things_of.mono (by decide))
  have b_searched : Binds K fd_searched ["well", "state", "low", "high", "fails"] [] := F_searched.binds fun _ _ _ _ _ _ us hl => match us, hl with | [_, _, _, _, _], _ => rfl
  have c_searched : Cl P w K mg base 5 "searched" (sp_searched P w K) := ⟨f_searched, fd_searched, _, g_searched, g1 a_searched, F_searched.kp, b_searched⟩
  have g_safe_paper : FnG P w K mg base 7 f_safe_paper fd_safe_paper ["well", "state", "low", "high", "fails"] (sp_safe_paper C1 C3 P w K) := ok_safe_paper T F_safe_paper (c_need_asked.mono (by decide)) (c_searched.mono (by decide))
  have b_safe_paper : Binds K fd_safe_paper ["well", "state", "low", "high", "fails"] [] := F_safe_paper.binds fun _ _ _ _ _ _ us hl => match us, hl with | [_, _, _, _, _], _ => rfl
  have c_safe_paper : Cl P w K mg base 7 "safe_paper" (sp_safe_paper C1 C3 P w K) := ⟨f_safe_paper, fd_safe_paper, _, g_safe_paper, g1 a_safe_paper, F_safe_paper.kp, b_safe_paper⟩
  have g_least_number : FnG P w K mg base 7 f_least_number fd_least_number ["well", "level", "low", "high", "fails"] (sp_least C1 C3 P w K) := ok_least T F_least_number (c_need_well.mono (by decide)) (c_need_bounds.mono (by decide)) (c_is_whole.mono (by decide))
  have b_least_number : Binds K fd_least_number ["well", "level", "low", "high", "fails"] [] := F_least_number.binds fun _ _ _ _ _ _ us hl => match us, hl with | [_, _, _, _, _], _ => rfl
  have c_least_number : Cl P w K mg base 7 "least_number" (sp_least C1 C3 P w K) := ⟨f_least_number, fd_least_number, _, g_least_number, g1 a_least_number, F_least_number.kp, b_least_number⟩
  have g__law_outcome : FnG P w K mg base 8 f__law_outcome fd__law_outcome ["_law_way", "_law_well_here", "_law_state", "_law_low", "_law_high", "_law_more"] (sp_law_outcome C1 C3 P w K) := ok_law_outcome T F__law_outcome (c_check_safe.mono (by decide)) (c_is_safe.mono (by decide)) (c_safe_paper.mono (by decide)) (c_least_number.mono (by decide))
  have b__law_outcome : Binds K fd__law_outcome ["_law_way", "_law_well_here", "_law_state", "_law_low", "_law_high", "_law_more"] [] := F__law_outcome.binds fun _ _ _ _ _ _ us hl => match us, hl with | [_, _, _, _, _, _], _ => rfl
  have c__law_outcome : Cl P w K mg base 8 "_law_outcome" (sp_law_outcome C1 C3 P w K) := ⟨f__law_outcome, fd__law_outcome, _, g__law_outcome, g1 a__law_outcome, F__law_outcome.kp, b__law_outcome⟩
  have g__law_refused_right : FnG P w K mg base 9 f__law_refused_right fd__law_refused_right ["_law_well_here", "_law_state"] (sp_refused P w K) := ok_law_refused_right T F__law_refused_right (c__law_outcome.mono (by decide))
  have b__law_refused_right : Binds K fd__law_refused_right ["_law_well_here", "_law_state"] [] := F__law_refused_right.binds fun _ _ _ _ _ _ us hl => match us, hl with | [_, _], _ => rfl
  have c__law_refused_right : Cl P w K mg base 9 "_law_refused_right" (sp_refused P w K) := ⟨f__law_refused_right, fd__law_refused_right, _, g__law_refused_right, g1 a__law_refused_right, F__law_refused_right.kp, b__law_refused_right⟩
  have g__law_step : FnG P w K mg base 1 f__law_step fd__law_step ["_law_well_here", "_law_state", "_law_inflow"] (sp_law_step P w K) := ok_law_step T F__law_step 
  have b__law_step : Binds K fd__law_step ["_law_well_here", "_law_state", "_law_inflow"] [] := F__law_step.binds fun _ _ _ _ _ _ us hl => match us, hl with | [_, _, _], _ => rfl
  have c__law_step : Cl P w K mg base 1 "_law_step" (sp_law_step P w K) := ⟨f__law_step, fd__law_step, _, g__law_step, g1 a__law_step, F__law_step.kp, b__law_step⟩
  have g__law_some_beats_on : FnG P w K mg base 2 f__law_some_beats_on fd__law_some_beats_on ["_law_m", "_law_well_here", "_law_state", "_law_low", "_law_high"] (sp_beats P w K) := ok_law_some_beats_on T F__law_some_beats_on (c__law_next.mono (by decide)) (c__law_step.mono (by decide))
  have b__law_some_beats_on : Binds K fd__law_some_beats_on ["_law_m", "_law_well_here", "_law_state", "_law_low", "_law_high"] [] := F__law_some_beats_on.binds fun _ _ _ _ _ _ us hl => match us, hl with | [_, _, _, _, _], _ => rfl
  have c__law_some_beats_on : Cl P w K mg base 2 "_law_some_beats_on" (sp_beats P w K) := ⟨f__law_some_beats_on, fd__law_some_beats_on, _, g__law_some_beats_on, g1 a__law_some_beats_on, F__law_some_beats_on.kp, b__law_some_beats_on⟩
  have g__law_losses : FnG P w K mg base 1 f__law_losses fd__law_losses ["_law_state"] (sp_losses P w K) := ok_law_losses T F__law_losses 
  have b__law_losses : Binds K fd__law_losses ["_law_state"] [] := F__law_losses.binds fun _ _ _ _ _ _ us hl => match us, hl with | [_], _ => rfl
  have c__law_losses : Cl P w K mg base 1 "_law_losses" (sp_losses P w K) := ⟨f__law_losses, fd__law_losses, _, g__law_losses, g1 a__law_losses, F__law_losses.kp, b__law_losses⟩
  have g__law_things : FnG P w K mg base 4 f__law_things fd__law_things ["_law_well_here", "_law_pair", "_law_low", "_law_high"] (sp_law_things P w K) := ok_law_things T F__law_things (c__law_step.mono (by decide)) (c__law_losses.mono (by decide))
  have b__law_things : Binds K fd__law_things ["_law_well_here", "_law_pair", "_law_low", "_law_high"] [] := F__law_things.binds fun _ _ _ _ _ _ us hl => match us, hl with | [_, _, _, _], _ => rfl
  have c__law_things : Cl P w K mg base 4 "_law_things" (sp_law_things P w K) := ⟨f__law_things, fd__law_things, _, g__law_things, g1 a__law_things, F__law_things.kp, b__law_things⟩
  have g__law_reach : FnG P w K mg base 5 f__law_reach fd__law_reach ["_law_well_here", "_law_state", "_law_low", "_law_high", "_law_fails", "_law_limit"] (sp_law_reach P w K) := ok_law_reach T F__law_reach (c__law_things.mono (by decide))
  have b__law_reach : Binds K fd__law_reach ["_law_well_here", "_law_state", "_law_low", "_law_high", "_law_fails", "_law_limit"] [] := F__law_reach.binds fun _ _ _ _ _ _ us hl => match us, hl with | [_, _, _, _, _, _], _ => rfl
  have c__law_reach : Cl P w K mg base 5 "_law_reach" (sp_law_reach P w K) := ⟨f__law_reach, fd__law_reach, _, g__law_reach, g1 a__law_reach, F__law_reach.kp, b__law_reach⟩
  have g__law_bent : FnG P w K mg base 2 f__law_bent fd__law_bent ["_law_m", "_law_sheet"] (sp_bent P w K) := ok_law_bent T F__law_bent (c__law_next.mono (by decide))
  have b__law_bent : Binds K fd__law_bent ["_law_m", "_law_sheet"] [] := F__law_bent.binds fun _ _ _ _ _ _ us hl => match us, hl with | [_, _], _ => rfl
  have c__law_bent : Cl P w K mg base 2 "_law_bent" (sp_bent P w K) := ⟨f__law_bent, fd__law_bent, _, g__law_bent, g1 a__law_bent, F__law_bent.kp, b__law_bent⟩
  have g__law_runs_over : FnG P w K mg base 5 f__law_runs_over fd__law_runs_over ["_law_well_here", "_law_state", "_law_low", "_law_high", "_law_fails", "_law_trouble"] (sp_law_runs_over P w K) := ok_law_runs_over T F__law_runs_over (c__law_things.mono (by decide))
  have b__law_runs_over : Binds K fd__law_runs_over ["_law_well_here", "_law_state", "_law_low", "_law_high", "_law_fails", "_law_trouble"] [] := F__law_runs_over.binds fun _ _ _ _ _ _ us hl => match us, hl with | [_, _, _, _, _, _], _ => rfl
  have c__law_runs_over : Cl P w K mg base 5 "_law_runs_over" (sp_law_runs_over P w K) := ⟨f__law_runs_over, fd__law_runs_over, _, g__law_runs_over, g1 a__law_runs_over, F__law_runs_over.kp, b__law_runs_over⟩
  have g_is_state : FnG P w K mg base 4 f_is_state fd_is_state ["well", "value"] (sp_is_state P w K) := ok_is_state T F_is_state (c_is_state_of.mono (by decide)) (c_need_well.mono (by decide))
  have b_is_state : Binds K fd_is_state ["well", "value"] [] := F_is_state.binds fun _ _ _ _ _ _ us hl => match us, hl with | [_, _], _ => rfl
  have c_is_state : Cl P w K mg base 4 "is_state" (sp_is_state P w K) := ⟨f_is_state, fd_is_state, _, g_is_state, g1 a_is_state, F_is_state.kp, b_is_state⟩
  have g__law_is_closed : FnG P w K mg base 5 f__law_is_closed fd__law_is_closed ["_law_well_here", "_law_state", "_law_low", "_law_high", "_law_rows"] (sp_law_is_closed P w K) := ok_law_is_closed T F__law_is_closed (c_is_state.mono (by decide)) (c__law_things.mono (by decide))
  have b__law_is_closed : Binds K fd__law_is_closed ["_law_well_here", "_law_state", "_law_low", "_law_high", "_law_rows"] [] := F__law_is_closed.binds fun _ _ _ _ _ _ us hl => match us, hl with | [_, _, _, _, _], _ => rfl
  have c__law_is_closed : Cl P w K mg base 5 "_law_is_closed" (sp_law_is_closed P w K) := ⟨f__law_is_closed, fd__law_is_closed, _, g__law_is_closed, g1 a__law_is_closed, F__law_is_closed.kp, b__law_is_closed⟩
  have g__law_due : FnG P w K mg base 7 f__law_due fd__law_due ["_law_well_here", "_law_state", "_law_low", "_law_high", "_law_sheet"] (sp_law_due P w K) := ok_law_due T F__law_due (c__law_runs_over.mono (by decide)) (c__law_is_closed.mono (by decide))
  have b__law_due : Binds K fd__law_due ["_law_well_here", "_law_state", "_law_low", "_law_high", "_law_sheet"] [] := F__law_due.binds fun _ _ _ _ _ _ us hl => match us, hl with | [_, _, _, _, _], _ => rfl
  have c__law_due : Cl P w K mg base 7 "_law_due" (sp_law_due P w K) := ⟨f__law_due, fd__law_due, _, g__law_due, g1 a__law_due, F__law_due.kp, b__law_due⟩
  exact ok_law T F_law (c__law_begun.mono (by decide)) (c__law_well.mono (by decide)) (c__law_next.mono (by decide)) (c__law_begun_state.mono (by decide)) (c__law_refused_right.mono (by decide)) (c__law_some_beats_on.mono (by decide)) (c__law_reach.mono (by decide)) (c_safe_paper.mono (by decide)) (c__law_bent.mono (by decide)) (c__law_due.mono (by decide)) (c__law_outcome.mono (by decide))
end Kw

open PySem PySem.W PyProof.Rows in
set_option maxRecDepth 100000 in
set_option maxHeartbeats 0 in
theorem PySem.Challenge.cw_pumphouse_k12_whole_failing_judged_holds : PySem.Challenge.rw_pumphouse_k12_whole_failing_judged.Holds := by
  w_on; o_law; k_head; (case hw => w_witness2)
  k_fill
  refine Kw.walk_g (l := PySem.Challenge.rw_pumphouse_k12_whole_failing_judged) (k := 10) (sp := Kw.LSp) (x := "_law_script") rfl rfl ⟨rfl, by decide, by decide⟩ (fun w h Y => PySem.W.kIn_of Y) ?F ?S
  case S => exact fun K H a ns hl hS => ⟨a, ns, rfl, hS, hl, fun _ => rfl⟩
  case F =>
    intro w mg fa h KX G hmg
    refine' Kw.all_mk KX G hmg ?pt ?k1 ?k2 ?k3 ?e12 ?e13 ?e21 ?e23 ?e31 ?e32 ?opq ?b_super ?b_len ?b_isinstance ?b_sum ?b_min ?b_int ?b_bool ?b_str ?b_tuple ?b_list ?b_sorted ?b_all ?b_repr ?b_range ?b_zip ?b_enumerate ?n_MOST_TOP ?n_MOST_DRAIN ?n_MOST_AGE ?n_MOST_STARTS ?n_MOST_STEP ?n_MOST_LAG ?n_MOST_NUMBER ?n_MOST_COUNT ?n_OVER_wells ?n_DRY ?n_MOST_INFLOW ?n_OVER_crews ?n_MOST_FAILS ?n_MOST_LIKE ?n_MOST_PAIRS ?n_SAFE ?d__law_begun ?d__law_next ?d__law_well ?d__law_begun_state ?d_is_whole ?d_are_counts ?d_are_levels ?d_number_of ?d_is_state_of ?d_number_in ?d_is_few ?d_wrong_part ?d_need_well ?d_need_bounds ?d_need_asked ?d_aged ?d_led_to ?d_seen_of ?d_moves_of ?d_after_in ?d_less_one ?d_losses_of ?d_is_like ?d_behind_thing ?d_does_run_over ?d_is_pair ?d_things_of ?d_is_closed ?d_check_safe ?d_is_safe ?d_searched ?d_safe_paper ?d_least_number ?d__law_outcome ?d__law_refused_right ?d__law_step ?d__law_some_beats_on ?d__law_losses ?d__law_things ?d__law_reach ?d__law_bent ?d__law_runs_over ?d_is_state ?d__law_is_closed ?d__law_due ?d_law
    (case pt => rfl)
    (case k1 => refine' Kw.clsA_mk ?a ?xL ?sa ?ga ?gg ?np ?ai ?ti ?li ?ci ?ld ?vf ?fl ?lc ?kC ?eC ?tC ?hC ?iC ?sC ?mC ?sE ?up; (case a => k_is); (case xL => k_is); (case sa => k_is); (case ga => k_is); (case gg => k_is); (case np => k_is); (case ai => k_is); (case ti => k_is); (case li => k_is); (case ci => k_is); (case ld => k_is); (case vf => exact rfl); (case fl => exact rfl); (case lc => k_is); (case kC => k_is); (case eC => k_is); (case tC => k_is); (case hC => k_is); (case iC => k_is); (case sC => first | rfl | k_is); (case mC => k_is); (case sE => k_is); (case up => ks_is))
    (case k2 => refine' Kw.clsA_mk ?a ?xL ?sa ?ga ?gg ?np ?ai ?ti ?li ?ci ?ld ?vf ?fl ?lc ?kC ?eC ?tC ?hC ?iC ?sC ?mC ?sE ?up; (case a => k_is); (case xL => k_is); (case sa => k_is); (case ga => k_is); (case gg => k_is); (case np => k_is); (case ai => k_is); (case ti => k_is); (case li => k_is); (case ci => k_is); (case ld => k_is); (case vf => exact rfl); (case fl => exact rfl); (case lc => k_is); (case kC => k_is); (case eC => k_is); (case tC => k_is); (case hC => k_is); (case iC => k_is); (case sC => first | rfl | k_is); (case mC => k_is); (case sE => k_is); (case up => ks_is))
    (case k3 => refine' Kw.clsA_mk ?a ?xL ?sa ?ga ?gg ?np ?ai ?ti ?li ?ci ?ld ?vf ?fl ?lc ?kC ?eC ?tC ?hC ?iC ?sC ?mC ?sE ?up; (case a => k_is); (case xL => k_is); (case sa => k_is); (case ga => k_is); (case gg => k_is); (case np => k_is); (case ai => k_is); (case ti => k_is); (case li => k_is); (case ci => k_is); (case ld => k_is); (case vf => exact rfl); (case fl => exact rfl); (case lc => k_is); (case kC => k_is); (case eC => k_is); (case tC => k_is); (case hC => k_is); (case iC => k_is); (case sC => first | rfl | k_is); (case mC => k_is); (case sE => k_is); (case up => ks_is))
    (case e12 => k_is)
    (case e13 => k_is)
    (case e21 => k_is)
    (case e23 => k_is)
    (case e31 => k_is)
    (case e32 => k_is)
    (case opq => k_is)
    (case b_super => k_is)
    (case b_len => k_is)
    (case b_isinstance => k_is)
    (case b_sum => k_is)
    (case b_min => k_is)
    (case b_int => k_is)
    (case b_bool => k_is)
    (case b_str => k_is)
    (case b_tuple => k_is)
    (case b_list => k_is)
    (case b_sorted => k_is)
    (case b_all => k_is)
    (case b_repr => k_is)
    (case b_range => k_is)
    (case b_zip => k_is)
    (case b_enumerate => k_is)
    (case n_MOST_TOP => refine' Kw.constI ?a; (case a => k_is))
    (case n_MOST_DRAIN => refine' Kw.constI ?a; (case a => k_is))
    (case n_MOST_AGE => refine' Kw.constI ?a; (case a => k_is))
    (case n_MOST_STARTS => refine' Kw.constI ?a; (case a => k_is))
    (case n_MOST_STEP => refine' Kw.constI ?a; (case a => k_is))
    (case n_MOST_LAG => refine' Kw.constI ?a; (case a => k_is))
    (case n_MOST_NUMBER => refine' Kw.constI ?a; (case a => k_is))
    (case n_MOST_COUNT => refine' Kw.constI ?a; (case a => k_is))
    (case n_OVER_wells => refine' Kw.constS ?a; (case a => k_is))
    (case n_DRY => refine' Kw.constS ?a; (case a => k_is))
    (case n_MOST_INFLOW => refine' Kw.constI ?a; (case a => k_is))
    (case n_OVER_crews => refine' Kw.constS ?a; (case a => k_is))
    (case n_MOST_FAILS => refine' Kw.constI ?a; (case a => k_is))
    (case n_MOST_LIKE => refine' Kw.constI ?a; (case a => k_is))
    (case n_MOST_PAIRS => refine' Kw.constI ?a; (case a => k_is))
    (case n_SAFE => refine' Kw.constS ?a; (case a => k_is))
    (case d__law_begun => refine' Kw.defIn_mk ?a ?l ?c ?k; (case a => k_is); (case l => k_is); (case c => k_is); (case k => k_is))
    (case d__law_next => refine' Kw.defIn_mk ?a ?l ?c ?k; (case a => k_is); (case l => k_is); (case c => k_is); (case k => k_is))
    (case d__law_well => refine' Kw.defIn_mk ?a ?l ?c ?k; (case a => k_is); (case l => k_is); (case c => k_is); (case k => k_is))
    (case d__law_begun_state => refine' Kw.defIn_mk ?a ?l ?c ?k; (case a => k_is); (case l => k_is); (case c => k_is); (case k => k_is))
    (case d_is_whole => refine' Kw.defIn_mk ?a ?l ?c ?k; (case a => k_is); (case l => k_is); (case c => k_is); (case k => k_is))
    (case d_are_counts => refine' Kw.defIn_mk ?a ?l ?c ?k; (case a => k_is); (case l => k_is); (case c => k_is); (case k => k_is))
    (case d_are_levels => refine' Kw.defIn_mk ?a ?l ?c ?k; (case a => k_is); (case l => k_is); (case c => k_is); (case k => k_is))
    (case d_number_of => refine' Kw.defIn_mk ?a ?l ?c ?k; (case a => k_is); (case l => k_is); (case c => k_is); (case k => k_is))
    (case d_is_state_of => refine' Kw.defIn_mk ?a ?l ?c ?k; (case a => k_is); (case l => k_is); (case c => k_is); (case k => k_is))
    (case d_number_in => refine' Kw.defIn_mk ?a ?l ?c ?k; (case a => k_is); (case l => k_is); (case c => k_is); (case k => k_is))
    (case d_is_few => refine' Kw.defIn_mk ?a ?l ?c ?k; (case a => k_is); (case l => k_is); (case c => k_is); (case k => k_is))
    (case d_wrong_part => refine' Kw.defIn_mk ?a ?l ?c ?k; (case a => k_is); (case l => k_is); (case c => k_is); (case k => k_is))
    (case d_need_well => refine' Kw.defIn_mk ?a ?l ?c ?k; (case a => k_is); (case l => k_is); (case c => k_is); (case k => k_is))
    (case d_need_bounds => refine' Kw.defIn_mk ?a ?l ?c ?k; (case a => k_is); (case l => k_is); (case c => k_is); (case k => k_is))
    (case d_need_asked => refine' Kw.defIn_mk ?a ?l ?c ?k; (case a => k_is); (case l => k_is); (case c => k_is); (case k => k_is))
    (case d_aged => refine' Kw.defIn_mk ?a ?l ?c ?k; (case a => k_is); (case l => k_is); (case c => k_is); (case k => k_is))
    (case d_led_to => refine' Kw.defIn_mk ?a ?l ?c ?k; (case a => k_is); (case l => k_is); (case c => k_is); (case k => k_is))
    (case d_seen_of => refine' Kw.defIn_mk ?a ?l ?c ?k; (case a => k_is); (case l => k_is); (case c => k_is); (case k => k_is))
    (case d_moves_of => refine' Kw.defIn_mk ?a ?l ?c ?k; (case a => k_is); (case l => k_is); (case c => k_is); (case k => k_is))
    (case d_after_in => refine' Kw.defIn_mk ?a ?l ?c ?k; (case a => k_is); (case l => k_is); (case c => k_is); (case k => k_is))
    (case d_less_one => refine' Kw.defIn_mk ?a ?l ?c ?k; (case a => k_is); (case l => k_is); (case c => k_is); (case k => k_is))
    (case d_losses_of => refine' Kw.defIn_mk ?a ?l ?c ?k; (case a => k_is); (case l => k_is); (case c => k_is); (case k => k_is))
    (case d_is_like => refine' Kw.defIn_mk ?a ?l ?c ?k; (case a => k_is); (case l => k_is); (case c => k_is); (case k => k_is))
    (case d_behind_thing => refine' Kw.defIn_mk ?a ?l ?c ?k; (case a => k_is); (case l => k_is); (case c => k_is); (case k => k_is))
    (case d_does_run_over => refine' Kw.defIn_mk ?a ?l ?c ?k; (case a => k_is); (case l => k_is); (case c => k_is); (case k => k_is))
    (case d_is_pair => refine' Kw.defIn_mk ?a ?l ?c ?k; (case a => k_is); (case l => k_is); (case c => k_is); (case k => k_is))
    (case d_things_of => refine' Kw.defIn_mk ?a ?l ?c ?k; (case a => k_is); (case l => k_is); (case c => k_is); (case k => k_is))
    (case d_is_closed => refine' Kw.defIn_mk ?a ?l ?c ?k; (case a => k_is); (case l => k_is); (case c => k_is); (case k => k_is))
    (case d_check_safe => refine' Kw.defIn_mk ?a ?l ?c ?k; (case a => k_is); (case l => k_is); (case c => k_is); (case k => k_is))
    (case d_is_safe => refine' Kw.defIn_mk ?a ?l ?c ?k; (case a => k_is); (case l => k_is); (case c => k_is); (case k => k_is))
    (case d_searched => refine' Kw.defIn_mk ?a ?l ?c ?k; (case a => k_is); (case l => k_is); (case c => k_is); (case k => k_is))
    (case d_safe_paper => refine' Kw.defIn_mk ?a ?l ?c ?k; (case a => k_is); (case l => k_is); (case c => k_is); (case k => k_is))
    (case d_least_number => refine' Kw.defIn_mk ?a ?l ?c ?k; (case a => k_is); (case l => k_is); (case c => k_is); (case k => k_is))
    (case d__law_outcome => refine' Kw.defIn_mk ?a ?l ?c ?k; (case a => k_is); (case l => k_is); (case c => k_is); (case k => k_is))
    (case d__law_refused_right => refine' Kw.defIn_mk ?a ?l ?c ?k; (case a => k_is); (case l => k_is); (case c => k_is); (case k => k_is))
    (case d__law_step => refine' Kw.defIn_mk ?a ?l ?c ?k; (case a => k_is); (case l => k_is); (case c => k_is); (case k => k_is))
    (case d__law_some_beats_on => refine' Kw.defIn_mk ?a ?l ?c ?k; (case a => k_is); (case l => k_is); (case c => k_is); (case k => k_is))
    (case d__law_losses => refine' Kw.defIn_mk ?a ?l ?c ?k; (case a => k_is); (case l => k_is); (case c => k_is); (case k => k_is))
    (case d__law_things => refine' Kw.defIn_mk ?a ?l ?c ?k; (case a => k_is); (case l => k_is); (case c => k_is); (case k => k_is))
    (case d__law_reach => refine' Kw.defIn_mk ?a ?l ?c ?k; (case a => k_is); (case l => k_is); (case c => k_is); (case k => k_is))
    (case d__law_bent => refine' Kw.defIn_mk ?a ?l ?c ?k; (case a => k_is); (case l => k_is); (case c => k_is); (case k => k_is))
    (case d__law_runs_over => refine' Kw.defIn_mk ?a ?l ?c ?k; (case a => k_is); (case l => k_is); (case c => k_is); (case k => k_is))
    (case d_is_state => refine' Kw.defIn_mk ?a ?l ?c ?k; (case a => k_is); (case l => k_is); (case c => k_is); (case k => k_is))
    (case d__law_is_closed => refine' Kw.defIn_mk ?a ?l ?c ?k; (case a => k_is); (case l => k_is); (case c => k_is); (case k => k_is))
    (case d__law_due => refine' Kw.defIn_mk ?a ?l ?c ?k; (case a => k_is); (case l => k_is); (case c => k_is); (case k => k_is))
    (case d_law => refine' Kw.defIn_mk ?a ?l ?c ?k; (case a => k_is); (case l => k_is); (case c => k_is); (case k => k_is))
