import PyProof.Rows.All
import Wide.All
import OpenK.AllK
import Wide.FinOn
import PyProof.EqAt
import PyProof.EqKinds
import PyProof.TupleCall
import HandS.ForMost
import HandS.ForExc
import HandS.TryMany
import HandS.IsInst
import HandS.Zip
import HandS.TupAny
import HandS.TupMul
import HandS.Walk
import HandS.More
import HandS.Lambda
import HandS.EndOwn
import HandS.Evl
import HandS.Steps
import KE.GoesEnum
import HandS.EndTab
import PySem.Challenge.RW_chainpapers_k27_whole_depths_of_chains
set_option Elab.async false
set_option linter.all false
set_option maxRecDepth 100000
set_option maxHeartbeats 8000000
/-! The data layer: readings by the data that they evaluate to. -/
namespace DL
open PySem PySem.Spec PyProof.Rows L2

abbrev Ex := Evl.Ex
theorem ex_same {H H' : Hp} (e : Ex H H') : Same H H' := fun b o h => e b o h

/-! ### data in the heap: lists are tracked -/
mutual
inductive Da (K : PySem.W.Frag) (H : Hp) : V → PyData → Prop
  | non : Da K H .non .none
  | bl (b : Bool) : Da K H (.bl b) (.bool b)
  | int (i : Int) : Da K H (.int i) (.int i)
  | str (x : Str) : Da K H (.str x) (.str x)
  | lst {a : Addr} {xs : List V} {ds : List PyData} : H a = some (.lst xs) → DaAll K H xs ds → Da K H (.ref a) (.list ds)
  | tup {a : Addr} {xs : List V} {ds : List PyData} : SqT K H a xs → DaAll K H xs ds → Da K H (.ref a) (.tuple ds)
inductive DaAll (K : PySem.W.Frag) (H : Hp) : List V → List PyData → Prop
  | nil : DaAll K H [] []
  | cons {v : V} {vs : List V} {d : PyData} {ds : List PyData} : Da K H v d → DaAll K H vs ds → DaAll K H (v :: vs) (d :: ds)
end
/-! no list within -/
mutual
def flatL : PyData → Bool
  | .list _ => false
  | .tuple ds => flatLs ds
  | .dict _ => false
  | _ => true
def flatLs : List PyData → Bool
  | [] => true
  | d :: ds => flatL d && flatLs ds
end
section
variable {K : PySem.W.Frag} {H H' : Hp}
mutual
theorem Da.ex (e : Ex H H') : ∀ (d : PyData) (v : V), Da K H v d → Da K H' v d
  | .none, _, h => by cases h; exact .non
  | .bool b, _, h => by cases h; exact .bl b
  | .int i, _, h => by cases h; exact .int i
  | .str x, _, h => by cases h; exact .str x
  | .list ds, _, h => by
    cases h with
    | lst hs ha => exact .lst (e _ _ hs) (DaAll.ex e ds _ ha)
  | .tuple ds, _, h => by
    cases h with
    | tup hs ha => exact .tup (Evl.ex_t e hs) (DaAll.ex e ds _ ha)
  | .dict _, _, h => by cases h
theorem DaAll.ex (e : Ex H H') : ∀ (ds : List PyData) (vs : List V), DaAll K H vs ds → DaAll K H' vs ds
  | [], _, h => by cases h; exact .nil
  | d :: ds, _, h => by
    cases h with
    | cons h1 h2 => exact .cons (Da.ex e d _ h1) (DaAll.ex e ds _ h2)
end
theorem Da.mono {v : V} {d : PyData} (h : Da K H v d) (e : Ex H H') : Da K H' v d := Da.ex e d v h
theorem DaAll.mono {vs : List V} {ds : List PyData} (h : DaAll K H vs ds) (e : Ex H H') : DaAll K H' vs ds := DaAll.ex e ds vs h
mutual
/-- an object that is a list, or nothing tracked, may change: data without lists stays -/
theorem Da.stay (e : ∀ b xs, H b = some (.tup xs) → H' b = some (.tup xs)) (e2 : ∀ b o u, H b = some (.frz o u) → H' b = some (.frz o u)) : ∀ (d : PyData) (v : V), flatL d = true → Da K H v d → Da K H' v d
  | .none, _, _, h => by cases h; exact .non
  | .bool b, _, _, h => by cases h; exact .bl b
  | .int i, _, _, h => by cases h; exact .int i
  | .str x, _, _, h => by cases h; exact .str x
  | .list ds, _, f, h => by simp [flatL] at f
  | .tuple ds, _, f, h => by
    cases h with
    | tup hs ha =>
      refine .tup ?_ (DaAll.stay e e2 ds _ (by simpa [flatL] using f) ha)
      rcases hs with (hs | ⟨o, hs⟩) | hs
      · exact .inl (.inl (e _ _ hs))
      · exact .inl (.inr ⟨o, e2 _ _ _ hs⟩)
      · exact .inr hs
  | .dict _, _, _, h => by cases h
theorem DaAll.stay (e : ∀ b xs, H b = some (.tup xs) → H' b = some (.tup xs)) (e2 : ∀ b o u, H b = some (.frz o u) → H' b = some (.frz o u)) : ∀ (ds : List PyData) (vs : List V), flatLs ds = true → DaAll K H vs ds → DaAll K H' vs ds
  | [], _, _, h => by cases h; exact .nil
  | d :: ds, _, f, h => by
    cases h with
    | cons h1 h2 =>
      simp only [flatLs, Bool.and_eq_true] at f
      exact .cons (Da.stay e e2 d _ f.1 h1) (DaAll.stay e e2 ds _ f.2 h2)
end
theorem Da.updL {v : V} {d : PyData} {D : Addr} {xs ys : List V} (h : Da K H v d) (f : flatL d = true) (hD : H D = some (.lst xs)) : Da K (upd H D (.lst ys)) v d :=
  Da.stay (fun b zs q => by rw [upd_ne (fun z => by rw [z, hD] at q; cases q)]; exact q) (fun b o u q => by rw [upd_ne (fun z => by rw [z, hD] at q; cases q)]; exact q) d v f h
theorem DaAll.updL {vs : List V} {ds : List PyData} {D : Addr} {xs ys : List V} (h : DaAll K H vs ds) (f : flatLs ds = true) (hD : H D = some (.lst xs)) : DaAll K (upd H D (.lst ys)) vs ds :=
  DaAll.stay (fun b zs q => by rw [upd_ne (fun z => by rw [z, hD] at q; cases q)]; exact q) (fun b o u q => by rw [upd_ne (fun z => by rw [z, hD] at q; cases q)]; exact q) ds vs f h
mutual
theorem Da.dp : ∀ (d : PyData) (v : V), Da K H v d → Dp K H v d
  | .none, _, h => by cases h; exact .non
  | .bool b, _, h => by cases h; exact .bl b
  | .int i, _, h => by cases h; exact .int i
  | .str x, _, h => by cases h; exact .str x
  | .list ds, _, h => by
    cases h with
    | lst hs ha => exact .lst (SqL.of hs) (DaAll.dp ds _ ha)
  | .tuple ds, _, h => by
    cases h with
    | tup hs ha => exact .tup hs (DaAll.dp ds _ ha)
  | .dict _, _, h => by cases h
theorem DaAll.dp : ∀ (ds : List PyData) (vs : List V), DaAll K H vs ds → DpAll K H vs ds
  | [], _, h => by cases h; exact .nil
  | d :: ds, _, h => by
    cases h with
    | cons h1 h2 => exact .cons (Da.dp d _ h1) (DaAll.dp ds _ h2)
end
theorem DaAll.length : ∀ {vs : List V} {ds : List PyData}, DaAll K H vs ds → vs.length = ds.length
  | _, [], h => by cases h; rfl
  | _, d :: ds, h => by
    cases h with
    | cons h1 h2 =>
      rw [List.length_cons, List.length_cons, DaAll.length h2]
theorem DaAll.get : ∀ {vs : List V} {ds : List PyData} {i : Nat} {v : V}, DaAll K H vs ds → vs[i]? = some v → ∃ d, ds[i]? = some d ∧ Da K H v d
  | _, [], _, _, h, e => by cases h; simp at e
  | _, d :: ds, 0, v, h, e => by
    cases h with
    | cons h1 h2 =>
      have e' := Option.some.inj (by simpa using e)
      subst e'
      exact ⟨d, rfl, h1⟩
  | _, d :: ds, i + 1, v, h, e => by
    cases h with
    | cons h1 h2 =>
      obtain ⟨d', q1, q2⟩ := DaAll.get (i := i) h2 (by simpa using e)
      exact ⟨d', by simpa using q1, q2⟩
theorem DaAll.at : ∀ {vs : List V} {ds : List PyData} {i : Nat} {d : PyData}, DaAll K H vs ds → ds[i]? = some d → ∃ v, vs[i]? = some v ∧ Da K H v d
  | _, [], _, _, h, e => by simp at e
  | _, d :: ds, 0, v, h, e => by
    cases h with
    | cons h1 h2 =>
      have e' := Option.some.inj (by simpa using e)
      subst e'
      exact ⟨_, rfl, h1⟩
  | _, d :: ds, i + 1, v, h, e => by
    cases h with
    | cons h1 h2 =>
      obtain ⟨d', q1, q2⟩ := DaAll.at (i := i) h2 (by simpa using e)
      exact ⟨d', by simpa using q1, q2⟩
theorem DaAll.append : ∀ {vs ws : List V} {ds es : List PyData}, DaAll K H vs ds → DaAll K H ws es → DaAll K H (vs ++ ws) (ds ++ es)
  | _, _, [], _, h, g => by cases h; exact g
  | _, _, d :: ds, _, h, g => by
    cases h with
    | cons h1 h2 => exact .cons h1 (DaAll.append h2 g)
theorem DaAll.drop : ∀ {vs : List V} {ds : List PyData} (n : Nat), DaAll K H vs ds → DaAll K H (vs.drop n) (ds.drop n)
  | _, _, 0, h => h
  | _, [], n + 1, h => by cases h; exact .nil
  | _, d :: ds, n + 1, h => by
    cases h with
    | cons h1 h2 => exact DaAll.drop n h2
theorem DaAll.take : ∀ {vs : List V} {ds : List PyData} (n : Nat), DaAll K H vs ds → DaAll K H (vs.take n) (ds.take n)
  | _, _, 0, h => .nil
  | _, [], n + 1, h => by cases h; exact .nil
  | _, d :: ds, n + 1, h => by
    cases h with
    | cons h1 h2 => exact .cons h1 (DaAll.take n h2)
theorem DaAll.one {v : V} {d : PyData} (h : Da K H v d) : DaAll K H [v] [d] := .cons h .nil
theorem Da.bls : ∀ {bs : List Bool} {vs : List V}, DaAll K H vs (bs.map PyData.bool) → vs = bs.map V.bl
  | [], _, h => by cases h; rfl
  | b :: bs, _, h => by
    cases h with
    | cons h1 h2 =>
      cases h1
      rw [Da.bls h2]
      rfl
theorem Da.ints : ∀ {bs : List Int} {vs : List V}, DaAll K H vs (bs.map PyData.int) → vs = bs.map V.int
  | [], _, h => by cases h; rfl
  | b :: bs, _, h => by
    cases h with
    | cons h1 h2 =>
      cases h1
      rw [Da.ints h2]
      rfl
theorem Da.strs : ∀ {bs : List Str} {vs : List V}, DaAll K H vs (bs.map PyData.str) → vs = bs.map V.str
  | [], _, h => by cases h; rfl
  | b :: bs, _, h => by
    cases h with
    | cons h1 h2 =>
      cases h1
      rw [Da.strs h2]
      rfl
theorem da_strs : ∀ (bs : List Str), DaAll K H (bs.map V.str) (bs.map PyData.str)
  | [] => .nil
  | b :: bs => .cons (.str b) (da_strs bs)
theorem da_ints : ∀ (bs : List Int), DaAll K H (bs.map V.int) (bs.map PyData.int)
  | [] => .nil
  | b :: bs => .cons (.int b) (da_ints bs)
end

/-! ### what evaluates to what -/
def EvD (K : PySem.W.Frag) (te : TE) (σ : L2.St) (H : Hp) (d : PyData) : Prop := ∀ H1, Ex H H1 → ∀ Q : VK, (∀ v H2, Ex H1 H2 → Da K H2 v d → Q v H2) → te σ H1 Q
def EvAD (K : PySem.W.Frag) (ta : TA) (σ : L2.St) (H : Hp) (ds : List PyData) : Prop := ∀ H1, Ex H H1 → ∀ Q : List V → Hp → Prop, (∀ vs H2, Ex H1 H2 → DaAll K H2 vs ds → Q vs H2) → ta σ H1 Q
abbrev EvT := @Evl.EvT
/-- an iterator: n turns, at turn i an x with item i -/
def EvI (wi : TI) (σ : L2.St) (H : Hp) (n : Nat) (item : Nat → V → Hp → Prop) : Prop :=
  ∀ H1, Ex H H1 → ∀ R : It → Hp → Prop, (∀ J H2, Ex H1 H2 → Walk J n (fun H' => Ex H2 H') (fun i H' x H'' => Ex H' H'' ∧ item i x H'') → R J H2) → wi σ H1 R

section
variable {K : PySem.W.Frag} {σ : L2.St} {H H' : Hp} {ta tb tc te tx : TE} {t u : TT} {d d' : PyData} {ds es : List PyData}
theorem EvD.mono (h : EvD K te σ H d) (e : Ex H H') : EvD K te σ H' d := fun H1 a Q q => h H1 (e.trans a) Q q
theorem EvAD.mono {ta : TA} (h : EvAD K ta σ H ds) (e : Ex H H') : EvAD K ta σ H' ds := fun H1 a Q q => h H1 (e.trans a) Q q
theorem d_is (h : EvD K te σ H d) (e : d = d') : EvD K te σ H d' := e ▸ h
theorem t_is {a b : Bool} (h : EvT t σ H a) (e : a = b) : EvT t σ H b := e ▸ h
theorem d_var {i : Nat} {v : V} (h : σ[i]? = some (some v)) (hd : Da K H v d) : EvD K (tVar i) σ H d := fun H1 e _ q => ⟨v, h, q v H1 (Evl.Ex.refl H1) (hd.mono e)⟩
theorem d_cst {v : V} (hd : Da K H v d) : EvD K (tC v) σ H d := fun H1 e _ q => q v H1 (Evl.Ex.refl H1) (hd.mono e)
theorem d_int {i : Int} : EvD K (tC (.int i)) σ H (.int i) := d_cst (.int i)
theorem d_bl {b : Bool} : EvD K (tC (.bl b)) σ H (.bool b) := d_cst (.bl b)
theorem d_non : EvD K (tC .non) σ H .none := d_cst .non
theorem d_str {x : Str} : EvD K (tC (.str x)) σ H (.str x) := d_cst (.str x)
theorem da_nil : EvAD K tNil σ H [] := fun H1 _ _ q => q [] H1 (Evl.Ex.refl H1) .nil
theorem da_cons {tr : TA} (h : EvD K ta σ H d) (hr : EvAD K tr σ H ds) : EvAD K (tCons ta tr) σ H (d :: ds) := fun H1 e Q q =>
  h H1 e _ fun v H2 e2 hv => hr H2 (e.trans e2) _ fun vs H3 e3 hvs => q _ H3 (e2.trans e3) (.cons (hv.mono e3) hvs)
theorem small_ds {xs : List V} {n : Nat} (h : xs.length = n) (hn : n ≤ 1000) : xs.length ≤ sizeLine := Evl.sz_of (by omega)
theorem d_tup {tr : TA} (h : EvAD K tr σ H ds) (hl : ds.length ≤ 1000) : EvD K (tTup tr) σ H (.tuple ds) := fun H1 e Q q =>
  h H1 e _ fun vs H2 e2 hv => ⟨small_ds hv.length hl, fun p hp => q _ _ (e2.trans (Evl.Ex.new hp)) (.tup (SqT.of upd_same) (hv.mono (Evl.Ex.new hp)))⟩
theorem d_lst {tr : TA} (h : EvAD K tr σ H ds) (hl : ds.length ≤ 1000) : EvD K (tLst tr) σ H (.list ds) := fun H1 e Q q =>
  h H1 e _ fun vs H2 e2 hv => ⟨small_ds hv.length hl, fun p hp => q _ _ (e2.trans (Evl.Ex.new hp)) (.lst upd_same (hv.mono (Evl.Ex.new hp)))⟩
/-- a two-place operation by data -/
def RD (K : PySem.W.Frag) (r : R2) (d e : PyData) (f : PyData) : Prop := ∀ H x y, Da K H x d → Da K H y e → ∀ Q : VK, (∀ v H2, Ex H H2 → Da K H2 v f → Q v H2) → r x y H Q
theorem d_op {r : R2} {e : PyData} {f : PyData} (ha : EvD K ta σ H d) (hb : EvD K tb σ H e) (hr : RD K r d e f) : EvD K (tOp r ta tb) σ H f := fun H1 e1 Q q =>
  ha H1 e1 _ fun x H2 e2 hx => hb H2 (e1.trans e2) _ fun y H3 e3 hy => hr H3 x y (hx.mono e3) hy Q fun v H4 e4 hv => q v H4 ((e2.trans e3).trans e4) hv
theorem rd_I0 {g : Int → Int → V} {i j : Int} {f : PyData} (hf : ∀ H, Da K H (g i j) f) : RD K (rI0 g) (.int i) (.int j) f := fun H x y hx hy Q q => by
  cases hx; cases hy
  exact ⟨i, j, rfl, rfl, q _ H (Evl.Ex.refl H) (hf H)⟩
theorem rd_I {C : Int → Int → Prop} {g : Int → Int → V} {i j : Int} {f : PyData} (hc : C i j) (hf : ∀ H, Da K H (g i j) f) : RD K (rI C g) (.int i) (.int j) f := fun H x y hx hy Q q => by
  cases hx; cases hy
  exact ⟨i, j, rfl, rfl, hc, q _ H (Evl.Ex.refl H) (hf H)⟩
/-! + of ints, lists, tuples -/
def rAddX (K : PySem.W.Frag) : R2 := fun x y H Q => rI0 (fun i j => .int (i + j)) x y H Q ∨ (rCat x y H Q ∨ rCatA K x y H Q)
theorem op_addX {X : Cx} : OpR X (binaryOp .Add) (rAddX X.K) := op_add.or (op_cat.or op_catA)
theorem rd_add {i j : Int} : RD K (rAddX K) (.int i) (.int j) (.int (i + j)) := fun H x y hx hy Q q => .inl (rd_I0 (fun H => .int _) H x y hx hy Q q)
theorem rd_cat (hl : ds.length + es.length ≤ 1000) : RD K (rAddX K) (.list ds) (.list es) (.list (ds ++ es)) := fun H x y hx hy Q q => by
  cases hx with
  | lst h1 h2 =>
    cases hy with
    | lst h3 h4 =>
      have l1 := h2.length
      have l2 := h4.length
      exact .inr (.inl ⟨_, _, _, _, rfl, rfl, h1, h3, Evl.sz_of (by omega), fun p hp => q _ _ (Evl.Ex.new hp) (.lst upd_same ((h2.append h4).mono (Evl.Ex.new hp)))⟩)
theorem rd_catT (hl : ds.length + es.length ≤ 1000) : RD K (rAddX K) (.tuple ds) (.tuple es) (.tuple (ds ++ es)) := fun H x y hx hy Q q => by
  cases hx with
  | tup h1 h2 =>
    cases hy with
    | @tup b ys _ h3 h4 =>
      have l1 := h2.length
      have l2 := h4.length
      refine .inr (.inr ⟨_, _, _, _, rfl, rfl, h1, h3, Evl.sz_of (by omega), fun e => ?_, fun _ e => ?_, fun _ _ p hp => q _ _ (Evl.Ex.new hp) (.tup (SqT.of upd_same) ((h2.append h4).mono (Evl.Ex.new hp)))⟩)
      · subst e
        cases h2
        exact q _ _ (Evl.Ex.refl _) (.tup h3 h4)
      · subst e
        cases h4
        have q' := q
        rw [List.append_nil] at q'
        exact q' _ _ (Evl.Ex.refl _) (.tup h1 h2)
theorem rd_sub {i j : Int} : RD K (rI0 fun i j => .int (i - j)) (.int i) (.int j) (.int (i - j)) := rd_I0 fun _ => .int _
def rMulX (K : PySem.W.Frag) : R2 := fun x y H Q => rI CMul (fun i j => .int (i * j)) x y H Q ∨ (rRep x y H Q ∨ rRepT K x y H Q)
theorem op_mulX {X : Cx} : OpR X (binaryOp .Mult) (rMulX X.K) := op_mul.or (op_rep.or op_repT)
theorem rd_mul {i j : Int} (h : CMul i j) : RD K (rMulX K) (.int i) (.int j) (.int (i * j)) := fun H x y hx hy Q q => .inl (rd_I h (fun H => .int _) H x y hx hy Q q)
theorem DaAll.rep : ∀ (k : Nat) {vs : List V} {ds : List PyData}, DaAll K H vs ds → DaAll K H (List.replicate k vs).flatten (List.replicate k ds).flatten
  | 0, _, _, _ => .nil
  | k + 1, vs, ds, h => by
    rw [List.replicate_succ, List.replicate_succ, List.flatten_cons, List.flatten_cons]
    exact h.append (DaAll.rep k h)
theorem rd_rep {k : Nat} (hk : k ≤ 1000) (hl : ds.length ≤ 1000) : RD K (rMulX K) (.list ds) (.int (k : Int)) (.list (List.replicate k ds).flatten) := fun H x y hx hy Q q => by
  cases hx with
  | lst h1 h2 =>
    cases hy
    have l1 := h2.length
    refine .inr (.inl ⟨_, _, _, rfl, rfl, h1, by omega, by omega, ?_, fun p hp => q _ _ (Evl.Ex.new hp) (.lst upd_same ?_)⟩)
    · rw [Int.toNat_natCast, sizeLine_eq]
      exact Nat.le_trans (Nat.mul_le_mul (by omega : _ ≤ 1000) hk) (by decide)
    · rw [Int.toNat_natCast]
      exact (DaAll.rep k h2).mono (Evl.Ex.new hp)
theorem rd_repT {k : Nat} (h2k : 2 ≤ k) (hk : k ≤ 1000) (hne : ds ≠ []) (hl : ds.length ≤ 1000) : RD K (rMulX K) (.tuple ds) (.int (k : Int)) (.tuple (List.replicate k ds).flatten) := fun H x y hx hy Q q => by
  cases hx with
  | tup h1 h2 =>
    cases hy
    have l1 := h2.length
    refine .inr (.inr ⟨_, _, _, rfl, rfl, h1, ?_, by omega, by omega, by omega, fun p hp => q _ _ (Evl.Ex.new hp) (.tup (SqT.of upd_same) ?_)⟩)
    · intro z
      subst z
      cases h2
      exact hne rfl
    · rw [Int.toNat_natCast]
      exact (DaAll.rep k h2).mono (Evl.Ex.new hp)
/-! comparisons -/
theorem rd_eq {e : PyData} (sd : SeqAt.shaped d = true) (se : SeqAt.shaped e = true) : RD K (rEqD K) d e (.bool (PyData.eqv d e)) := fun H x y hx hy Q q =>
  ⟨d, e, hx.dp, hy.dp, sd, se, q _ H (Evl.Ex.refl H) (.bl _)⟩
theorem rd_ne {e : PyData} (sd : SeqAt.shaped d = true) (se : SeqAt.shaped e = true) : RD K (rNeD K) d e (.bool (!PyData.eqv d e)) := fun H x y hx hy Q q =>
  ⟨d, e, hx.dp, hy.dp, sd, se, q _ H (Evl.Ex.refl H) (.bl _)⟩
theorem rd_lt {i j : Int} : RD K (rI0 fun i j => .bl (decide (i < j))) (.int i) (.int j) (.bool (decide (i < j))) := rd_I0 fun _ => .bl _
theorem rd_le {i j : Int} : RD K (rI0 fun i j => .bl (decide (i ≤ j))) (.int i) (.int j) (.bool (decide (i ≤ j))) := rd_I0 fun _ => .bl _
theorem rd_gt {i j : Int} : RD K (rI0 fun i j => .bl (decide (j < i))) (.int i) (.int j) (.bool (decide (j < i))) := rd_I0 fun _ => .bl _
theorem rd_ge {i j : Int} : RD K (rI0 fun i j => .bl (decide (j ≤ i))) (.int i) (.int j) (.bool (decide (j ≤ i))) := rd_I0 fun _ => .bl _
def rLtS : R2 := fun x y H Q => ∃ i j, x = .str i ∧ y = .str j ∧ Q (.bl (decide (i.cps.toList < j.cps.toList))) H
theorem op_ltS {X : Cx} : OpR X (compareOp .Lt) rLtS := op_lt_str
theorem rd_ltS {i j : Str} : RD K rLtS (.str i) (.str j) (.bool (decide (i.cps.toList < j.cps.toList))) := fun H x y hx hy Q q => by
  cases hx; cases hy
  exact ⟨i, j, rfl, rfl, q _ H (Evl.Ex.refl H) (.bl _)⟩
def rIsN : R2 := fun x y H Q => y = .non ∧ Q (.bl (decide (x = .non))) H
def rNotN : R2 := fun x y H Q => y = .non ∧ Q (.bl (!decide (x = .non))) H
theorem op_notNX {X : Cx} : OpR X (compareOp .IsNot) rNotN := op_notN
def isNone : PyData → Bool
  | .none => true
  | _ => false
theorem rd_notN : RD K rNotN d .none (.bool (!isNone d)) := fun H x y hx hy Q q => by
  cases hy
  refine ⟨rfl, q _ H (Evl.Ex.refl H) ?_⟩
  have e : decide (x = V.non) = isNone d := by
    cases hx <;> simp [isNone]
  rw [e]
  exact .bl _
theorem flat_strs : ∀ ss : List Str, (ss.map V.str).all flatV = true
  | [] => rfl
  | _ :: ss => by
    rw [List.map_cons, List.all_cons, flat_strs ss]
    rfl
theorem inV_strs (s : Str) : ∀ ss : List Str, inV (.str s) (ss.map V.str) = decide (s ∈ ss)
  | [] => rfl
  | x :: ss => by
    have ih := inV_strs s ss
    unfold inV at ih ⊢
    rw [List.map_cons, List.any_cons, ih]
    have e : eqV (V.str x) (V.str s) = decide (x = s) := by
      show (x == s) = _
      by_cases h : x = s
      · subst h; simp
      · simp [h]
    rw [e]
    by_cases h : s = x
    · subst h; simp
    · have h' : ¬ x = s := fun z => h z.symm
      simp [h, h']
theorem rd_inT {s : Str} {ss : List Str} : RD K (rIn K false) (.str s) (.tuple (ss.map PyData.str)) (.bool (decide (s ∈ ss))) := fun H x y hx hy Q q => by
  cases hx
  cases hy with
  | tup h1 h2 =>
    have e := Da.strs h2
    subst e
    refine ⟨_, _, rfl, .inr h1, rfl, flat_strs ss, ?_⟩
    rw [if_neg Bool.false_ne_true, inV_strs]
    exact q _ H (Evl.Ex.refl H) (.bl _)
theorem flat_ints : ∀ ss : List Int, (ss.map V.int).all flatV = true
  | [] => rfl
  | _ :: ss => by
    rw [List.map_cons, List.all_cons, flat_ints ss]
    rfl
theorem inV_ints (s : Int) : ∀ ss : List Int, inV (.int s) (ss.map V.int) = decide (s ∈ ss)
  | [] => rfl
  | x :: ss => by
    have ih := inV_ints s ss
    unfold inV at ih ⊢
    rw [List.map_cons, List.any_cons, ih]
    have e : eqV (V.int x) (V.int s) = decide (x = s) := by
      show (x == s) = _
      by_cases h : x = s
      · subst h; simp
      · simp [h]
    rw [e]
    by_cases h : s = x
    · subst h; simp
    · have h' : ¬ x = s := fun z => h z.symm
      simp [h, h']
theorem rd_inL {s : Int} {ss : List Int} : RD K (rIn K false) (.int s) (.list (ss.map PyData.int)) (.bool (decide (s ∈ ss))) := fun H x y hx hy Q q => by
  cases hx
  cases hy with
  | lst h1 h2 =>
    have e := Da.ints h2
    subst e
    refine ⟨_, _, rfl, .inl (SqL.of h1), rfl, flat_ints ss, ?_⟩
    rw [if_neg Bool.false_ne_true, inV_ints]
    exact q _ H (Evl.Ex.refl H) (.bl _)
/-- one sign in a text -/
theorem rd_inS {c : Nat} {z : Str} : RD K L2.rInS (.str ⟨#[c]⟩) (.str z) (.bool (decide (c ∈ z.cps.toList))) := fun H x y hx hy Q q => by
  cases hx; cases hy
  exact ⟨c, z, rfl, rfl, q _ H (Evl.Ex.refl H) (.bl _)⟩
/-! subscripts -/
def rIxX (K : PySem.W.Frag) : R2 := fun x y H Q => rIxL K x y H Q ∨ rIxT K x y H Q
theorem ix_X {X : Cx} : IxR X (rIxX X.K) := ix_list.or ix_tup
theorem atI_da {vs : List V} {i : Int} (h : DaAll K H vs ds) (e : atI ds i = some d) : ∃ v, atI vs i = some v ∧ Da K H v d := by
  unfold atI at e ⊢
  rw [h.length]
  cases q : ixN ds.length i with
  | none => rw [q] at e; cases e
  | some j =>
    rw [q] at e
    have e' : ds[j]? = some d := e
    obtain ⟨v, h1, h2⟩ := h.at e'
    exact ⟨v, h1, h2⟩
theorem rd_ixL {i : Int} (e : atI ds i = some d) : RD K (rIxX K) (.list ds) (.int i) d := fun H x y hx hy Q q => by
  cases hy
  cases hx with
  | lst h1 h2 =>
    obtain ⟨v, e1, hv⟩ := atI_da h2 e
    exact .inl ⟨_, _, i, v, rfl, rfl, SqL.of h1, e1, q v H (Evl.Ex.refl H) hv⟩
theorem rd_ixT {i : Int} (e : atI ds i = some d) : RD K (rIxX K) (.tuple ds) (.int i) d := fun H x y hx hy Q q => by
  cases hy
  cases hx with
  | tup h1 h2 =>
    obtain ⟨v, e1, hv⟩ := atI_da h2 e
    exact .inr ⟨_, _, i, v, rfl, rfl, h1, e1, q v H (Evl.Ex.refl H) hv⟩
/-! slices of tuples -/
def cutP (ds : List PyData) (lo hi : Option Int) : List PyData := (ds.drop (HT.sIx ds.length 0 lo)).take (HT.sIx ds.length ds.length hi - HT.sIx ds.length 0 lo)
def EvO := @Evl.EvO
theorem o_none : EvO tNoPart σ H none := Evl.eo_none
theorem o_some {i : Int} (h : EvD K te σ H (.int i)) : EvO (tPart te) σ H (some i) := fun H1 e _ q => h H1 e _ fun v H2 e2 hv => by
  cases hv
  exact ⟨i, rfl, q H2 e2⟩
theorem d_cut {tl th : TO} {lo hi : Option Int} (h : EvD K te σ H (.tuple ds)) (h1 : EvO tl σ H lo) (h2 : EvO th σ H hi) : EvD K (tSl (rSlA K) te tl th) σ H (.tuple (cutP ds lo hi)) := fun H1 e _ q =>
  h H1 e _ fun v H2 e2 hv => h1 H2 (e.trans e2) _ fun H3 e3 => h2 H3 ((e.trans e2).trans e3) _ fun H4 e4 => by
    cases hv with
    | @tup a xs _ hs ha =>
      have hs4 := Evl.ex_t (e3.trans e4) hs
      have ha4 := ha.mono (e3.trans e4)
      have el := ha.length
      refine ⟨a, xs, rfl, hs4, fun hw => ?_, fun hw p hp => ?_⟩
      · refine q _ _ ((e2.trans e3).trans e4) ?_
        have ec : cutP ds lo hi = ds := by
          unfold cutP
          rw [← el, hw.1, hw.2, List.drop_zero, Nat.sub_zero, el]
          exact List.take_length
        rw [ec]
        exact .tup hs4 ha4
      · refine q _ _ (((e2.trans e3).trans e4).trans (Evl.Ex.new hp)) (.tup (SqT.of upd_same) ?_)
        unfold cutP cutV
        rw [← el]
        exact ((ha4.drop _).take _).mono (Evl.Ex.new hp)
/-! calls -/
def SpD (K : PySem.W.Frag) (R : List PyData → PyData → Prop) : Sp := fun vs H Q _ => ∃ ds d, DaAll K H vs ds ∧ R ds d ∧ ∀ v H', Ex H H' → Da K H' v d → Q v H'
theorem d_call {R : List PyData → PyData → Prop} {E : XK} {tr : TA} (h : EvAD K tr σ H ds) (hR : R ds d) : EvD K (tCall (SpD K R) [] E tr) σ H d := fun H1 e Q q =>
  h H1 e _ fun vs H2 e2 hv => ⟨ds, d, by rw [List.append_nil]; exact hv, hR, fun v H' e3 hv' => q v H' (e2.trans e3) hv'⟩
/-- the type's name -/
def tyD : PyData → String
  | .none => "NoneType"
  | .bool _ => "bool"
  | .int _ => "int"
  | .str _ => "str"
  | .list _ => "list"
  | .tuple _ => "tuple"
  | .dict _ => "dict"
theorem Da.ty {v : V} (h : Da K H v d) : TyX K H v (.type (tyD d)) := by
  cases h with
  | non => exact .base .non
  | bl b => exact .base (.bl b)
  | int i => exact .base (.int i)
  | str x => exact .base (.str x)
  | lst h1 h2 => exact .base (.lst h1)
  | tup h1 h2 =>
    rcases h1 with (h1 | ⟨o, h1⟩) | ⟨o, its, n, h1, h3, _⟩
    · exact .base (.tup h1)
    · exact .fTuple h1
    · exact .kTuple h1 h3
theorem d_isi {n : String} {b : Bool} (h : EvD K te σ H d) (hb : kitB (tyD d) n = some b) : EvD K (tCB (rIsi K) (tCons te (tCons (tC (.ty n)) tNil))) σ H (.bool b) := fun H1 e Q q =>
  h H1 e _ fun v H2 e2 hv => ⟨v, .ty n, _, _, b, rfl, .ty n, hv.ty, kit_ty hb, q _ H2 e2 (.bl b)⟩
/-- len of a list, a tuple, a text -/
def rLenX (K : PySem.W.Frag) : List V → Hp → VK → Prop := fun xs H Q => (∃ p ys, xs = [.ref p] ∧ (SqL K H p ys ∨ SqT K H p ys) ∧ Q (.int ys.length) H) ∨ (∃ z, xs = [.str z] ∧ z.length ≤ sizeLine ∧ Q (.int z.length) H)
theorem call_lenX {X : Cx} : CallR X (.builtin "len") (rLenX X.K) := call_len_seq.or call_len_str
theorem d_lenL (h : EvD K te σ H (.list ds)) : EvD K (tCB (rLenX K) (tCons te tNil)) σ H (.int ds.length) := fun H1 e Q q =>
  h H1 e _ fun v H2 e2 hv => by
    cases hv with
    | lst h1 h2 =>
      refine .inl ⟨_, _, rfl, .inl (SqL.of h1), ?_⟩
      rw [h2.length]
      exact q _ H2 e2 (.int _)
theorem d_lenT (h : EvD K te σ H (.tuple ds)) : EvD K (tCB (rLenX K) (tCons te tNil)) σ H (.int ds.length) := fun H1 e Q q =>
  h H1 e _ fun v H2 e2 hv => by
    cases hv with
    | tup h1 h2 =>
      refine .inl ⟨_, _, rfl, .inr h1, ?_⟩
      rw [h2.length]
      exact q _ H2 e2 (.int _)
theorem d_lenS {z : Str} (h : EvD K te σ H (.str z)) (hz : z.length ≤ 1000) : EvD K (tCB (rLenX K) (tCons te tNil)) σ H (.int z.length) := fun H1 e Q q =>
  h H1 e _ fun v H2 e2 hv => by
    cases hv
    exact .inr ⟨z, rfl, Evl.sz_of (by omega), q _ H2 e2 (.int _)⟩
theorem d_all {bs : List Bool} (h : EvD K te σ H (.list (bs.map PyData.bool))) : EvD K (tCB (rAll K) (tCons te tNil)) σ H (.bool (bs.all id)) := fun H1 e Q q =>
  h H1 e _ fun v H2 e2 hv => by
    cases hv with
    | lst h1 h2 =>
      have e3 := Da.bls h2
      subst e3
      exact ⟨_, bs, rfl, SqL.of h1, q _ H2 e2 (.bl _)⟩
theorem d_tupleL (h : EvD K te σ H (.list ds)) : EvD K (tCB (fun xs H Q => ∃ p ys, xs = [.ref p] ∧ ((SqL K H p ys ∧ ∀ l, H l = none → Q (.ref l) (upd H l (.tup ys))) ∨ (SqT K H p ys ∧ Q (.ref p) H))) (tCons te tNil)) σ H (.tuple ds) := fun H1 e Q q =>
  h H1 e _ fun v H2 e2 hv => by
    cases hv with
    | lst h1 h2 =>
      exact ⟨_, _, rfl, .inl ⟨SqL.of h1, fun l hl => q _ _ (e2.trans (Evl.Ex.new hl)) (.tup (SqT.of upd_same) (h2.mono (Evl.Ex.new hl)))⟩⟩
theorem d_listT (h : EvD K te σ H (.tuple ds)) : EvD K (tCB (fun xs H Q => ∃ p ys, xs = [.ref p] ∧ (SqL K H p ys ∨ SqT K H p ys) ∧ ∀ l, H l = none → Q (.ref l) (upd H l (.lst ys))) (tCons te tNil)) σ H (.list ds) := fun H1 e Q q =>
  h H1 e _ fun v H2 e2 hv => by
    cases hv with
    | tup h1 h2 =>
      exact ⟨_, _, rfl, .inr h1, fun l hl => q _ _ (e2.trans (Evl.Ex.new hl)) (.lst upd_same (h2.mono (Evl.Ex.new hl)))⟩
theorem d_max2 {i j : Int} (ha : EvD K ta σ H (.int i)) (hb : EvD K tb σ H (.int j)) : EvD K (tCB (fun xs H Q => ∃ i j, xs = [.int i, .int j] ∧ Q (.int (if j > i then j else i)) H) (tCons ta (tCons tb tNil))) σ H (.int (max i j)) := fun H1 e Q q =>
  ha H1 e _ fun v H2 e2 hv => hb H2 (e.trans e2) _ fun w H3 e3 hw => by
    cases hv; cases hw
    refine ⟨i, j, rfl, ?_⟩
    have em : (if j > i then j else i) = max i j := by
      rw [Int.max_def]
      split <;> split <;> omega
    rw [em]
    exact q _ H3 (e2.trans e3) (.int _)
theorem d_min2 {i j : Int} (ha : EvD K ta σ H (.int i)) (hb : EvD K tb σ H (.int j)) : EvD K (tCB (fun xs H Q => ∃ i j, xs = [.int i, .int j] ∧ Q (.int (if j < i then j else i)) H) (tCons ta (tCons tb tNil))) σ H (.int (min i j)) := fun H1 e Q q =>
  ha H1 e _ fun v H2 e2 hv => hb H2 (e.trans e2) _ fun w H3 e3 hw => by
    cases hv; cases hw
    refine ⟨i, j, rfl, ?_⟩
    have em : (if j < i then j else i) = min i j := by
      rw [Int.min_def]
      split <;> split <;> omega
    rw [em]
    exact q _ H3 (e2.trans e3) (.int _)
theorem d_minL {ns : List Int} {m : Int} (h : EvD K te σ H (.list (ns.map PyData.int))) (hm : m ∈ ns) (hl : ∀ y ∈ ns, m ≤ y) : EvD K (tCB (rMin K) (tCons te tNil)) σ H (.int m) := fun H1 e Q q =>
  h H1 e _ fun v H2 e2 hv => by
    cases hv with
    | lst h1 h2 =>
      have e3 := Da.ints h2
      subst e3
      refine ⟨_, ns, rfl, SqL.of h1, List.length_pos_of_mem hm, fun m' h1 h2 => ?_⟩
      have em : m' = m := Int.le_antisymm (h2 m hm) (hl m' h1)
      subst em
      exact q _ H2 e2 (.int _)
theorem d_int1 {i : Int} (h : EvD K te σ H (.int i)) : EvD K (tCB (fun xs H Q => (∃ i, xs = [.int i] ∧ Q (.int i) H) ∨ ∃ k, xs = [.bl k] ∧ Q (.int (if k then 1 else 0)) H) (tCons te tNil)) σ H (.int i) := fun H1 e Q q =>
  h H1 e _ fun v H2 e2 hv => by
    cases hv
    exact .inl ⟨i, rfl, q _ H2 e2 (.int _)⟩
theorem d_abs {i : Int} (h : EvD K te σ H (.int i)) : EvD K (tCB (fun xs H Q => ∃ i, xs = [.int i] ∧ Q (.int (if i < 0 then -i else i)) H) (tCons te tNil)) σ H (.int i.natAbs) := fun H1 e Q q =>
  h H1 e _ fun v H2 e2 hv => by
    cases hv
    refine ⟨i, rfl, ?_⟩
    have em : (if i < 0 then -i else i) = (i.natAbs : Int) := by split <;> omega
    rw [em]
    exact q _ H2 e2 (.int _)
theorem d_neg {i : Int} (h : EvD K te σ H (.int i)) : EvD K (tUn (rU fun i => .int (-i)) te) σ H (.int (-i)) := fun H1 e Q q =>
  h H1 e _ fun v H2 e2 hv => by
    cases hv
    exact ⟨i, rfl, q _ H2 e2 (.int _)⟩
/-! and, or, not, if -/
theorem d_and {a b : Bool} (h1 : EvD K ta σ H (.bool a)) (h2 : a = true → EvD K tb σ H (.bool b)) : EvD K (tAndV ta tb) σ H (.bool (a && b)) := fun H1 e Q q => h1 H1 e _ fun v H2 e2 hv => by
  cases hv
  refine ⟨a, rfl, ?_⟩
  cases a with
  | true =>
    show tb σ H2 Q
    exact h2 rfl H2 (e.trans e2) Q fun v H3 e3 hv => q v H3 (e2.trans e3) hv
  | false =>
    show Q (.bl false) H2
    exact q _ H2 e2 (.bl _)
theorem d_not {a : Bool} (h1 : EvD K ta σ H (.bool a)) : EvD K (tNotV ta) σ H (.bool (!a)) := fun H1 e Q q => h1 H1 e _ fun v H2 e2 hv => by
  cases hv
  exact ⟨a, rfl, q _ H2 e2 (.bl _)⟩
theorem d_if {b : Bool} (h : EvT t σ H b) (h1 : b = true → EvD K ta σ H d) (h2 : b = false → EvD K tb σ H d) : EvD K (tIf t ta tb) σ H d := fun H1 e Q q => h H1 e _ fun H2 e2 => by
  cases b with
  | true =>
    show ta σ H2 Q
    exact h1 rfl H2 (e.trans e2) Q fun v H3 e3 hv => q v H3 (e2.trans e3) hv
  | false =>
    show tb σ H2 Q
    exact h2 rfl H2 (e.trans e2) Q fun v H3 e3 hv => q v H3 (e2.trans e3) hv
theorem t_B {b : Bool} (h : EvD K te σ H (.bool b)) : EvT (tB te) σ H b := fun H1 e _ q => h H1 e _ fun v H2 e2 hv => by
  cases hv
  exact ⟨b, rfl, q H2 e2⟩
theorem t_test {b : Bool} (h : EvD K te σ H (.bool b)) : EvT (tTest te) σ H b := fun H1 e _ q => h H1 e _ fun v H2 e2 hv => by
  cases hv
  exact ⟨b, rfl, q H2 e2⟩
/-- a <= b <= c -/
theorem d_chain {r r' : R2} {d1 d2 d3 : PyData} {a b : Bool} (ha : EvD K ta σ H d1) (hb : EvD K tb σ H d2) (hc : a = true → EvD K tc σ H d3) (hr : RD K r d1 d2 (.bool a)) (hr' : a = true → RD K r' d2 d3 (.bool b)) :
    EvD K (tChain r r' ta tb tc) σ H (.bool (a && b)) := fun H1 e Q q =>
  ha H1 e _ fun x H2 e2 hx => hb H2 (e.trans e2) _ fun y H3 e3 hy => hr H3 x y (hx.mono e3) hy _ fun z H4 e4 hz => by
    cases hz
    refine ⟨a, rfl, ?_⟩
    cases a with
    | true =>
      rw [if_pos rfl]
      exact hc rfl H4 (((e.trans e2).trans e3).trans e4) _ fun w H5 e5 hw => hr' rfl H5 y w (hy.mono (e4.trans e5)) hw Q fun v H6 e6 hv => q v H6 ((((e2.trans e3).trans e4).trans e5).trans e6) hv
    | false =>
      rw [if_neg Bool.false_ne_true]
      exact q _ H4 ((e2.trans e3).trans e4) (.bl _)

/-! ### statements -/
variable {D : Ends} {tu tw tz : TS}
theorem s_ret (h : EvD K te σ H d) (k : ∀ v H1, Ex H H1 → Da K H1 v d → D.rt v H1) : tRet te D σ H := h H (Evl.Ex.refl H) _ k
theorem s_asg {i : Nat} (h : EvD K te σ H d) (k : ∀ v H1, Ex H H1 → Da K H1 v d → D.nx (σ.set i (some v)) H1) : tAsg te (gName i) D σ H := h H (Evl.Ex.refl H) _ k
theorem q_asg {i : Nat} (h : EvD K te σ H d) (k : ∀ v H1, Ex H H1 → Da K H1 v d → tz D (σ.set i (some v)) H1) : tSeq (tAsg te (gName i)) tz D σ H := h H (Evl.Ex.refl H) _ k
theorem q_if {b : Bool} (h : EvT t σ H b) (h1 : b = true → ∀ H1, Ex H H1 → tu { D with nx := tz D } σ H1) (h2 : b = false → ∀ H1, Ex H H1 → tw { D with nx := tz D } σ H1) : tSeq (tIfS t tu tw) tz D σ H := Evl.s_if (D := { D with nx := tz D }) h h1 h2
theorem q_when {b : Bool} (h : EvT t σ H b) (h1 : b = true → ∀ H1, Ex H H1 → tu { D with nx := tz D } σ H1) (h2 : b = false → ∀ H1, Ex H H1 → tz D σ H1) : tSeq (tIfS t tu tNext) tz D σ H := Evl.s_if (D := { D with nx := tz D }) h h1 h2
theorem s_if {b : Bool} (h : EvT t σ H b) (h1 : b = true → ∀ H1, Ex H H1 → tu D σ H1) (h2 : b = false → ∀ H1, Ex H H1 → tw D σ H1) : tIfS t tu tw D σ H := Evl.s_if h h1 h2

/-! ### what is walked -/
theorem i_tup (h : EvD K te σ H (.tuple ds)) : EvI (iTup K te) σ H ds.length (fun i x H' => ∃ d, ds[i]? = some d ∧ Da K H' x d) := fun H1 e R q =>
  h H1 e _ fun v H2 e2 hv => by
    cases hv with
    | tup hs ha =>
      refine ⟨_, rfl, ⟨_, hs⟩, q _ H2 e2 ?_⟩
      rw [← ha.length]
      refine walk_tup.mono (fun H' e3 => Evl.ex_t e3 hs) fun i H' x H'' _ e3 y => ?_
      obtain ⟨rfl, hx⟩ := y
      exact ⟨Evl.Ex.refl _, (ha.mono e3).get hx⟩
theorem i_list (h : EvD K te σ H (.list ds)) : EvI (iList K te) σ H ds.length (fun i x H' => ∃ d, ds[i]? = some d ∧ Da K H' x d) := fun H1 e R q =>
  h H1 e _ fun v H2 e2 hv => by
    cases hv with
    | lst hs ha =>
      refine ⟨_, rfl, ⟨_, SqL.of hs⟩, q _ H2 e2 ?_⟩
      rw [← ha.length]
      refine walk_list.mono (fun H' e3 => Evl.ex_l e3 (SqL.of hs)) fun i H' x H'' _ e3 y => ?_
      obtain ⟨rfl, hx⟩ := y
      exact ⟨Evl.Ex.refl _, (ha.mono e3).get hx⟩
theorem i_rng1 {tr : TA} {n : Int} (h : EvAD K tr σ H [.int n]) (h1 : -(2 ^ 62) ≤ n) (h2 : n < 2 ^ 62) : EvI (iRng1 tr) σ H n.toNat (fun i x _ => x = .int (i : Int)) := fun H1 e R q =>
  h H1 e _ fun vs H2 e2 hv => by
    cases hv with
    | cons g1 g2 =>
      cases g1; cases g2
      refine ⟨n, rfl, h1, h2, q _ H2 e2 ?_⟩
      refine walk_range.mono (fun _ _ => trivial) fun i H' x H'' _ e3 y => ?_
      obtain ⟨rfl, rfl⟩ := y
      exact ⟨Evl.Ex.refl _, by show V.int (0 + (i : Int)) = V.int (i : Int); rw [Int.zero_add]⟩
theorem i_rng2 {tr : TA} {lo n : Int} (h : EvAD K tr σ H [.int lo, .int n]) (h1 : -(2 ^ 62) ≤ lo ∧ lo < 2 ^ 62 ∧ -(2 ^ 62) ≤ n ∧ n < 2 ^ 62) : EvI (iRng2 tr) σ H (n - lo).toNat (fun i x _ => x = .int (lo + (i : Int))) := fun H1 e R q =>
  h H1 e _ fun vs H2 e2 hv => by
    cases hv with
    | cons g1 g2 =>
      cases g2 with
      | cons g2 g3 =>
        cases g1; cases g2; cases g3
        refine ⟨lo, n, rfl, h1, q _ H2 e2 ?_⟩
        refine walk_range.mono (fun _ _ => trivial) fun i H' x H'' _ e3 y => ?_
        obtain ⟨rfl, rfl⟩ := y
        exact ⟨Evl.Ex.refl _, rfl⟩
theorem i_str {z : Str} (h : EvD K te σ H (.str z)) : EvI (iStr te) σ H z.cps.size (fun i x _ => ∃ c, z.cps[i]? = some c ∧ x = .str ⟨#[c]⟩) := fun H1 e R q =>
  h H1 e _ fun v H2 e2 hv => by
    cases hv
    refine ⟨z, rfl, q _ H2 e2 ?_⟩
    refine walk_str.mono (fun _ _ => trivial) fun i H' x H'' _ e3 y => ?_
    obtain ⟨rfl, hy⟩ := y
    exact ⟨Evl.Ex.refl _, hy⟩
/-- zip of two tuples -/
theorem walk_zipT {K : PySem.W.Frag} {a b : Addr} {xs ys : List V} {n : Nat} (hn : n = min xs.length ys.length) : Walk (RZ.ItzT K a b) n (fun H => SqT K H a xs ∧ SqT K H b ys) (YPair (fun i => xs[i]?) (fun i => ys[i]?)) := by
  subst hn
  refine ⟨fun i _ hi q => ?_, fun _ q => ⟨xs, ys, q.1, q.2, by omega⟩, fun i H v H' _ q y => ?_⟩
  · have h1 : i < xs.length := by omega
    have h2 : i < ys.length := by omega
    exact ⟨xs, ys, xs[i], ys[i], q.1, q.2, by simp [h1], by simp [h2]⟩
  · obtain ⟨T, x, z, h1, h2, h3, h4, h5⟩ := y
    exact ⟨T, x, z, h1, h2, h3, h4 xs q.1, h5 ys q.2⟩
/-- a pair of data is walked -/
def ItemP (K : PySem.W.Frag) (f g : Nat → Option PyData) : Nat → V → Hp → Prop := fun i x H' => ∃ d e, f i = some d ∧ g i = some e ∧ Da K H' x (.tuple [d, e])
theorem i_zipT {tr : TA} (h : EvAD K tr σ H [.tuple ds, .tuple es]) : EvI (RZ.iZipA K tr) σ H (min ds.length es.length) (ItemP K (fun i => ds[i]?) (fun i => es[i]?)) := fun H1 e R q =>
  h H1 e _ fun vs H2 e2 hv => by
    cases hv with
    | cons g1 g2 =>
      cases g2 with
      | cons g2 g3 =>
        cases g3
        cases g1 with
        | tup s1 a1 =>
          cases g2 with
          | tup s2 a2 =>
            refine ⟨_, _, _, _, rfl, .inr ⟨s1, s2, q _ H2 e2 ?_⟩⟩
            refine (walk_zipT (by rw [a1.length, a2.length])).mono (fun H' e3 => ⟨Evl.ex_t e3 s1, Evl.ex_t e3 s2⟩) fun i H' x H'' _ e3 y => ?_
            obtain ⟨T, x1, y1, rfl, hT, rfl, f1, f2⟩ := y
            have eT : Ex H' (upd H' T (.tup [x1, y1])) := Evl.Ex.new hT
            obtain ⟨d1, p1, p2⟩ := (a1.mono (e3.trans eT)).get f1
            obtain ⟨d2, p3, p4⟩ := (a2.mono (e3.trans eT)).get f2
            exact ⟨eT, d1, d2, p1, p3, .tup (SqT.of upd_same) (.cons p2 (.cons p4 .nil))⟩

/-! ### comprehensions -/
def givenD (n : Nat) (f : Nat → Bool) (r : Nat → PyData) : List PyData := ((List.range n).filter f).map r
theorem givenD_yes {n : Nat} {f : Nat → Bool} {v : Nat → PyData} (h : f n = true) : givenD (n + 1) f v = givenD n f v ++ [v n] := by
  unfold givenD
  rw [List.range_succ, List.filter_append, List.map_append, List.filter_cons, if_pos h] <;> rfl
theorem givenD_no {n : Nat} {f : Nat → Bool} {v : Nat → PyData} (h : f n = false) : givenD (n + 1) f v = givenD n f v := by
  unfold givenD
  rw [List.range_succ, List.filter_append, List.map_append, List.filter_cons, if_neg (by rw [h]; decide)]
  show _ ++ [] = _
  rw [List.append_nil]
theorem givenD_len (n : Nat) (f : Nat → Bool) (v : Nat → PyData) : (givenD n f v).length ≤ n := by
  unfold givenD
  rw [List.length_map]
  have h := List.length_filter_le f (List.range n)
  rw [List.length_range] at h
  exact h
theorem flatLs_app : ∀ (ds : List PyData) (d : PyData), flatLs ds = true → flatL d = true → flatLs (ds ++ [d]) = true
  | [], d, _, h => by simp [flatLs, h]
  | x :: ds, d, h, h2 => by
    simp only [flatLs, Bool.and_eq_true] at h
    simp only [List.cons_append, flatLs, Bool.and_eq_true]
    exact ⟨h.1, flatLs_app ds d h.2 h2⟩
def CwD (K : PySem.W.Frag) (H : Hp) (f : Nat → Bool) (r : Nat → PyData) (D : Addr) (i : Nat) (H' : Hp) : Prop :=
  H D = none ∧ Ex H H' ∧ ∃ xs, H' D = some (.lst xs) ∧ DaAll K H' xs (givenD i f r) ∧ flatLs (givenD i f r) = true
theorem d_lc {wi : TI} {g : TG} {tt : TT} {te : TE} {vs : List Nat} {n : Nat} {item : Nat → V → Hp → Prop} (Tg : Nat → L2.St → Hp → Prop) (f : Nat → Bool) (r : Nat → PyData) (hi : EvI wi σ H n item) (hn : n ≤ 40000)
    (hg : ∀ i x H', i < n → Ex H H' → item i x H' → ∀ k : L2.St → Hp → Prop, (∀ σ2, wipe σ2 vs = wipe σ vs → Tg i σ2 H' → k σ2 H') → g x (wipe σ vs) H' k)
    (ht : ∀ i σ2 H', i < n → Ex H H' → Tg i σ2 H' → EvT tt σ2 H' (f i))
    (he : ∀ i σ2 H', i < n → Ex H H' → Tg i σ2 H' → f i = true → EvD K te σ2 H' (r i))
    (hf : ∀ i, i < n → f i = true → flatL (r i) = true) :
    EvD K (tLc wi g tt te vs) σ H (.list (givenD n f r)) := fun H1 e Q q =>
  hi H1 e _ fun J H2 e2 W D hD => lc_it W (CwD K H2 f r D) ⟨hD, Evl.Ex.new hD, [], upd_same, .nil, rfl⟩ (fun _ _ _ p => p.2.1)
    (fun i x H3 H4 hin p y => by
      obtain ⟨e3, hit⟩ := y
      obtain ⟨p1, p2, xs, p3, p4, p5⟩ := p
      have e4 : Ex H H4 := ((e.trans e2).trans p2).trans e3
      refine hg i x H4 hin e4 hit _ fun σ2 hw tg => ⟨hw, ?_⟩
      refine ht i σ2 H4 hin e4 tg H4 (Evl.Ex.refl _) _ fun H5 e5 => ?_
      cases hb : f i with
      | true =>
        rw [if_pos rfl]
        refine he i σ2 H4 hin e4 tg hb H5 e5 _ fun y H6 e6 hy => ?_
        have hD6 := e6 D _ (e5 D _ (e3 D _ p3))
        have a6 := p4.mono ((e3.trans e5).trans e6)
        have hl := p4.length
        have hl2 := givenD_len i f r
        refine ⟨xs, hD6, Evl.sz_lt (by omega), p1, Evl.Ex.mut (((p2.trans e3).trans e5).trans e6) p1, xs ++ [y], upd_same, ?_, ?_⟩
        · rw [givenD_yes hb]
          exact (a6.updL p5 hD6).append (.one (hy.updL (hf i hin hb) hD6))
        · rw [givenD_yes hb]
          exact flatLs_app _ _ p5 (hf i hin hb)
      | false =>
        rw [if_neg Bool.false_ne_true]
        refine ⟨p1, (p2.trans e3).trans e5, xs, e5 D _ (e3 D _ p3), ?_, ?_⟩
        · rw [givenD_no hb]
          exact p4.mono (e3.trans e5)
        · rw [givenD_no hb]
          exact p5)
    (fun H3 p => by
      obtain ⟨p1, p2, xs, p3, p4, p5⟩ := p
      exact q _ H3 (e2.trans p2) (.lst p3 p4))
/-- no test, a name as the target -/
theorem wipe_set1 {σ : L2.St} {j : Nat} {x : Option V} : wipe ((wipe σ [j]).set j x) [j] = wipe σ [j] := by
  show ((σ.set j none).set j x).set j none = σ.set j none
  rw [List.set_set, List.set_set]
theorem d_lcN {wi : TI} {te : TE} {j n : Nat} {item : Nat → V → Hp → Prop} {tt : TT} (f : Nat → Bool) (r : Nat → PyData) (hi : EvI wi σ H n item) (hn : n ≤ 40000)
    (ht : ∀ i x H', i < n → Ex H H' → item i x H' → EvT tt ((wipe σ [j]).set j (some x)) H' (f i))
    (he : ∀ i x H', i < n → Ex H H' → item i x H' → f i = true → EvD K te ((wipe σ [j]).set j (some x)) H' (r i))
    (hf : ∀ i, i < n → f i = true → flatL (r i) = true) : EvD K (tLc wi (gName j) tt te [j]) σ H (.list (givenD n f r)) :=
  d_lc (fun i σ2 H' => ∃ x, item i x H' ∧ σ2 = (wipe σ [j]).set j (some x)) f r hi hn (fun i x H' hin e it k kk => kk _ wipe_set1 ⟨x, it, rfl⟩)
    (fun i σ2 H' hin e ⟨x, it, es⟩ => es ▸ ht i x H' hin e it) (fun i σ2 H' hin e ⟨x, it, es⟩ hb => es ▸ he i x H' hin e it hb) hf
/-- the test tYes -/
theorem t_yes : EvT tYes σ H true := fun H1 _ _ q => q H1 (Evl.Ex.refl H1)
end
end DL
/-! The text by places, its slots, and what the top leaves. -/
namespace DL
open PySem PySem.Spec PyProof.Rows L2
def topS (i : Nat) : Stmt := PySem.Challenge.pw_chainpapers_k27_whole_depths_of_chains.main.body.getD i (.Pass ⟨0, 0, 0, 0⟩)
abbrev s_is_whole : Stmt := topS 12
theorem sc_is_whole : FnScope ["value", "low", "high"] ["value", "low", "high"] (defScope s_is_whole) := ⟨rfl, rfl, rfl, by decide +kernel, rfl, by decide +kernel, by decide +kernel⟩
abbrev s_is_truth : Stmt := topS 13
theorem sc_is_truth : FnScope ["value"] ["value"] (defScope s_is_truth) := ⟨rfl, rfl, rfl, by decide +kernel, rfl, by decide +kernel, by decide +kernel⟩
abbrev s_is_tuple_of : Stmt := topS 14
theorem sc_is_tuple_of : FnScope ["value", "low", "high"] ["value", "low", "high"] (defScope s_is_tuple_of) := ⟨rfl, rfl, rfl, by decide +kernel, rfl, by decide +kernel, by decide +kernel⟩
abbrev s_fits_word : Stmt := topS 15
theorem sc_fits_word : FnScope ["value", "sign"] ["value"] (defScope s_fits_word) := ⟨rfl, rfl, rfl, by decide +kernel, rfl, by decide +kernel, by decide +kernel⟩
abbrev s_fits_words : Stmt := topS 16
theorem sc_fits_words : FnScope ["value", "low", "high", "word"] ["value", "low", "high"] (defScope s_fits_words) := ⟨rfl, rfl, rfl, by decide +kernel, rfl, by decide +kernel, by decide +kernel⟩
abbrev s_is_ascending : Stmt := topS 17
theorem sc_is_ascending : FnScope ["values", "one", "other"] ["values"] (defScope s_is_ascending) := ⟨rfl, rfl, rfl, by decide +kernel, rfl, by decide +kernel, by decide +kernel⟩
abbrev s_fits_lot : Stmt := topS 18
theorem sc_fits_lot : FnScope ["value", "low", "high", "words", "one"] ["value", "low", "high", "words"] (defScope s_fits_lot) := ⟨rfl, rfl, rfl, by decide +kernel, rfl, by decide +kernel, by decide +kernel⟩
abbrev s_fits_name : Stmt := topS 23
theorem sc_fits_name : FnScope ["value"] ["value"] (defScope s_fits_name) := ⟨rfl, rfl, rfl, by decide +kernel, rfl, by decide +kernel, by decide +kernel⟩
abbrev s_fits_value : Stmt := topS 43
theorem sc_fits_value : FnScope ["word", "value", "own", "pair"] ["word", "value"] (defScope s_fits_value) := ⟨rfl, rfl, rfl, by decide +kernel, rfl, by decide +kernel, by decide +kernel⟩
abbrev s_fits_parts : Stmt := topS 44
theorem sc_fits_parts : FnScope ["value", "part"] ["value"] (defScope s_fits_parts) := ⟨rfl, rfl, rfl, by decide +kernel, rfl, by decide +kernel, by decide +kernel⟩
abbrev s_fits_certificate : Stmt := topS 45
theorem sc_fits_certificate : FnScope ["value", "at"] ["value"] (defScope s_fits_certificate) := ⟨rfl, rfl, rfl, by decide +kernel, rfl, by decide +kernel, by decide +kernel⟩
abbrev s_part_in : Stmt := topS 46
theorem sc_part_in : FnScope ["certificate", "word"] ["certificate", "word"] (defScope s_part_in) := ⟨rfl, rfl, rfl, by decide +kernel, rfl, by decide +kernel, by decide +kernel⟩
abbrev s_fits_chain : Stmt := topS 49
theorem sc_fits_chain : FnScope ["value", "own"] ["value"] (defScope s_fits_chain) := ⟨rfl, rfl, rfl, by decide +kernel, rfl, by decide +kernel, by decide +kernel⟩
abbrev s_is_own_issuer : Stmt := topS 50
theorem sc_is_own_issuer : FnScope ["certificate"] ["certificate"] (defScope s_is_own_issuer) := ⟨rfl, rfl, rfl, by decide +kernel, rfl, by decide +kernel, by decide +kernel⟩
abbrev s_depth_in : Stmt := topS 51
theorem sc_depth_in : FnScope ["certificate", "basic"] ["certificate"] (defScope s_depth_in) := ⟨rfl, rfl, rfl, by decide +kernel, rfl, by decide +kernel, by decide +kernel⟩
abbrev s_need_chain : Stmt := topS 52
theorem sc_need_chain : FnScope ["value"] ["value"] (defScope s_need_chain) := ⟨rfl, rfl, rfl, by decide +kernel, rfl, by decide +kernel, by decide +kernel⟩
abbrev s_need_depth : Stmt := topS 53
theorem sc_need_depth : FnScope ["value"] ["value"] (defScope s_need_depth) := ⟨rfl, rfl, rfl, by decide +kernel, rfl, by decide +kernel, by decide +kernel⟩
abbrev s_counted_in : Stmt := topS 57
theorem sc_counted_in : FnScope ["chain", "place", "at"] ["chain", "place"] (defScope s_counted_in) := ⟨rfl, rfl, rfl, by decide +kernel, rfl, by decide +kernel, by decide +kernel⟩
abbrev s_lesser : Stmt := topS 58
theorem sc_lesser : FnScope ["one", "other"] ["one", "other"] (defScope s_lesser) := ⟨rfl, rfl, rfl, by decide +kernel, rfl, by decide +kernel, by decide +kernel⟩
abbrev s_left_behind : Stmt := topS 59
theorem sc_left_behind : FnScope ["left", "certificate", "rest"] ["left", "certificate"] (defScope s_left_behind) := ⟨rfl, rfl, rfl, by decide +kernel, rfl, by decide +kernel, by decide +kernel⟩
abbrev s_left_in : Stmt := topS 60
theorem sc_left_in : FnScope ["depth", "chain", "found", "left", "certificate"] ["depth", "chain"] (defScope s_left_in) := ⟨rfl, rfl, rfl, by decide +kernel, rfl, by decide +kernel, by decide +kernel⟩
abbrev s_counted_behind : Stmt := topS 61
theorem sc_counted_behind : FnScope ["chain", "place"] ["chain", "place"] (defScope s_counted_behind) := ⟨rfl, rfl, rfl, by decide +kernel, rfl, by decide +kernel, by decide +kernel⟩
abbrev s_left_row : Stmt := topS 62
theorem sc_left_row : FnScope ["depth", "chain"] ["depth", "chain"] (defScope s_left_row) := ⟨rfl, rfl, rfl, by decide +kernel, rfl, by decide +kernel, by decide +kernel⟩
abbrev s_law_cup : Stmt := topS 64
theorem sc_law_cup : FnScope ["_law_script", "_law_cell"] ["_law_script"] (defScope s_law_cup) := ⟨rfl, rfl, rfl, by decide +kernel, rfl, by decide +kernel, by decide +kernel⟩
abbrev s_law_roll : Stmt := topS 65
theorem sc_law_roll : FnScope ["_law_cup_here", "_law_many", "_law_found", "_law_deep"] ["_law_cup_here", "_law_many"] (defScope s_law_roll) := ⟨rfl, rfl, rfl, by decide +kernel, rfl, by decide +kernel, by decide +kernel⟩
abbrev s_law_some : Stmt := topS 66
theorem sc_law_some : FnScope ["_law_cup_here", "_law_things"] ["_law_cup_here", "_law_things"] (defScope s_law_some) := ⟨rfl, rfl, rfl, by decide +kernel, rfl, by decide +kernel, by decide +kernel⟩
abbrev s_law_parts : Stmt := topS 68
theorem sc_law_parts : FnScope ["_law_parts_here", "_law_word"] ["_law_parts_here"] (defScope s_law_parts) := ⟨rfl, rfl, rfl, by decide +kernel, rfl, by decide +kernel, by decide +kernel⟩
abbrev s_law_certificate : Stmt := topS 69
theorem sc_law_certificate : FnScope ["_law_cup_here", "_law_issuer", "_law_parts_here", "_law_subject", "_law_some_here", "_law_since", "_law_until", "_law_head"] ["_law_cup_here"] (defScope s_law_certificate) := ⟨rfl, rfl, rfl, by decide +kernel, rfl, by decide +kernel, by decide +kernel⟩
abbrev s_law_drawn_chain : Stmt := topS 70
theorem sc_law_drawn_chain : FnScope ["_law_cup_here", "_law_most", "_law_at"] ["_law_cup_here", "_law_most"] (defScope s_law_drawn_chain) := ⟨rfl, rfl, rfl, by decide +kernel, rfl, by decide +kernel, by decide +kernel⟩
abbrev s_law_depth : Stmt := topS 71
theorem sc_law_depth : FnScope ["_law_certificate_here", "_law_word", "_law_value"] ["_law_certificate_here"] (defScope s_law_depth) := ⟨rfl, rfl, rfl, by decide +kernel, rfl, by decide +kernel, by decide +kernel⟩
abbrev s_law_counts : Stmt := topS 72
theorem sc_law_counts : FnScope ["_law_chain", "_law_place", "_law_end", "_law_at"] ["_law_chain", "_law_place", "_law_end"] (defScope s_law_counts) := ⟨rfl, rfl, rfl, by decide +kernel, rfl, by decide +kernel, by decide +kernel⟩
abbrev s_law_all_depths : Stmt := topS 73
theorem sc_law_all_depths : FnScope ["_law_depth_here", "_law_chain", "_law_pairs", "_law_at", "_law_own"] ["_law_depth_here", "_law_chain"] (defScope s_law_all_depths) := ⟨rfl, rfl, rfl, by decide +kernel, rfl, by decide +kernel, by decide +kernel⟩
abbrev s_law_error : Stmt := topS 74
theorem sc_law_error : FnScope ["_law_call"] ["_law_call"] (defScope s_law_error) := ⟨rfl, rfl, rfl, by decide +kernel, rfl, by decide +kernel, by decide +kernel⟩
abbrev s_law_whole : Stmt := topS 76
theorem sc_law_whole : FnScope ["_law_value"] ["_law_value"] (defScope s_law_whole) := ⟨rfl, rfl, rfl, by decide +kernel, rfl, by decide +kernel, by decide +kernel⟩
abbrev s_law_left : Stmt := topS 78
theorem sc_law_left : FnScope ["_law_depth_here", "_law_chain", "_law_found", "_law_at", "_law_pairs", "_law_ahead", "_law_here", "_law_place", "_law_own", "_law_one"] ["_law_depth_here", "_law_chain"] (defScope s_law_left) := ⟨rfl, rfl, rfl, by decide +kernel, rfl, by decide +kernel, by decide +kernel⟩
abbrev s_law : Stmt := topS 79
theorem sc_law : FnScope ["_law_script", "_law_cup_here", "_law_turn", "_law_chain", "_law_depth_here", "_law_told", "_law_pairs", "_law_end", "_law_passed", "_law_place", "_law_head", "_law_own", "_law_last", "_law_row", "_law_two", "_law_some_here", "_law_words_here", "_law_one", "_law_odd"] ["_law_script"] (defScope s_law) := ⟨rfl, rfl, rfl, by decide +kernel, rfl, by decide +kernel, by decide +kernel⟩
/-- a def of the text, where it stands, how it is bound -/
structure Dfn (K : PySem.W.Frag) (mg : Str → Option Value) (x : Str) (st : Stmt) (ps : List Str) (f : Addr) (fd : FuncData) : Prop where
  fn : Fun K x x st f fd
  m : mg x = some (.ref f)
  bd : Binds K fd ps []
/-- a tuple of texts of the written part -/
def KTup (K : PySem.W.Frag) (a : Addr) (ss : List Str) : Prop := ∃ (o : Obj) (its : Array Value) (n : Nat), K.lookup a = some o ∧ o.cls = .type "tuple" ∧ o.data = .seq its n ∧ its.size ≤ sizeLine ∧ Vals (ss.map V.str) its.toList
theorem KTup.sq {K : PySem.W.Frag} {a : Addr} {ss : List Str} (h : KTup K a ss) (H : Hp) : SqT K H a (ss.map V.str) := .inr h
/-- an own class of errors -/
structure Exn (K : PySem.W.Frag) (mg : Str → Option Value) (x : Str) (C : Addr) : Prop where
  g : mg x = some (.ref C)
  ex : PySem.W.excIn K C [.type "ValueError", .type "Exception", .type "BaseException", .type "object"] "ValueError.__new__" = true
  kp : PySem.W.keepIn K (.ref C) = true
  sb : PySem.W.subIn K (.ref C) (.type "BaseException") = some true
  ty : PySem.W.typeIn K (.ref C) = some (.type "type")
structure Ad where
  a_is_whole : Addr
  f_is_whole : FuncData
  a_is_truth : Addr
  f_is_truth : FuncData
  a_is_tuple_of : Addr
  f_is_tuple_of : FuncData
  a_fits_word : Addr
  f_fits_word : FuncData
  a_fits_words : Addr
  f_fits_words : FuncData
  a_is_ascending : Addr
  f_is_ascending : FuncData
  a_fits_lot : Addr
  f_fits_lot : FuncData
  a_fits_name : Addr
  f_fits_name : FuncData
  a_fits_value : Addr
  f_fits_value : FuncData
  a_fits_parts : Addr
  f_fits_parts : FuncData
  a_fits_certificate : Addr
  f_fits_certificate : FuncData
  a_part_in : Addr
  f_part_in : FuncData
  a_fits_chain : Addr
  f_fits_chain : FuncData
  a_is_own_issuer : Addr
  f_is_own_issuer : FuncData
  a_depth_in : Addr
  f_depth_in : FuncData
  a_need_chain : Addr
  f_need_chain : FuncData
  a_need_depth : Addr
  f_need_depth : FuncData
  a_counted_in : Addr
  f_counted_in : FuncData
  a_lesser : Addr
  f_lesser : FuncData
  a_left_behind : Addr
  f_left_behind : FuncData
  a_left_in : Addr
  f_left_in : FuncData
  a_counted_behind : Addr
  f_counted_behind : FuncData
  a_left_row : Addr
  f_left_row : FuncData
  a_law_cup : Addr
  f_law_cup : FuncData
  a_law_roll : Addr
  f_law_roll : FuncData
  a_law_some : Addr
  f_law_some : FuncData
  a_law_parts : Addr
  f_law_parts : FuncData
  a_law_certificate : Addr
  f_law_certificate : FuncData
  a_law_drawn_chain : Addr
  f_law_drawn_chain : FuncData
  a_law_depth : Addr
  f_law_depth : FuncData
  a_law_counts : Addr
  f_law_counts : FuncData
  a_law_all_depths : Addr
  f_law_all_depths : FuncData
  a_law_error : Addr
  f_law_error : FuncData
  a_law_whole : Addr
  f_law_whole : FuncData
  a_law_left : Addr
  f_law_left : FuncData
  a_law : Addr
  f_law : FuncData
  a_USES : Addr
  a_PURPOSES : Addr
  a_PARTS : Addr
  a_ChainError : Addr
  a_InvalidNumber : Addr
  a_InvalidCertificate : Addr
  a_InvalidChain : Addr
  a_InvalidUses : Addr
  a_InvalidPurposes : Addr
  a_InvalidTimes : Addr
  a_InvalidLimits : Addr
structure Txt (K : PySem.W.Frag) (mg : Str → Option Value) (A : Ad) : Prop where
  d_is_whole : Dfn K mg "is_whole" s_is_whole ["value", "low", "high"] A.a_is_whole A.f_is_whole
  d_is_truth : Dfn K mg "is_truth" s_is_truth ["value"] A.a_is_truth A.f_is_truth
  d_is_tuple_of : Dfn K mg "is_tuple_of" s_is_tuple_of ["value", "low", "high"] A.a_is_tuple_of A.f_is_tuple_of
  d_fits_word : Dfn K mg "fits_word" s_fits_word ["value"] A.a_fits_word A.f_fits_word
  d_fits_words : Dfn K mg "fits_words" s_fits_words ["value", "low", "high"] A.a_fits_words A.f_fits_words
  d_is_ascending : Dfn K mg "is_ascending" s_is_ascending ["values"] A.a_is_ascending A.f_is_ascending
  d_fits_lot : Dfn K mg "fits_lot" s_fits_lot ["value", "low", "high", "words"] A.a_fits_lot A.f_fits_lot
  d_fits_name : Dfn K mg "fits_name" s_fits_name ["value"] A.a_fits_name A.f_fits_name
  d_fits_value : Dfn K mg "fits_value" s_fits_value ["word", "value"] A.a_fits_value A.f_fits_value
  d_fits_parts : Dfn K mg "fits_parts" s_fits_parts ["value"] A.a_fits_parts A.f_fits_parts
  d_fits_certificate : Dfn K mg "fits_certificate" s_fits_certificate ["value"] A.a_fits_certificate A.f_fits_certificate
  d_part_in : Dfn K mg "part_in" s_part_in ["certificate", "word"] A.a_part_in A.f_part_in
  d_fits_chain : Dfn K mg "fits_chain" s_fits_chain ["value"] A.a_fits_chain A.f_fits_chain
  d_is_own_issuer : Dfn K mg "is_own_issuer" s_is_own_issuer ["certificate"] A.a_is_own_issuer A.f_is_own_issuer
  d_depth_in : Dfn K mg "depth_in" s_depth_in ["certificate"] A.a_depth_in A.f_depth_in
  d_need_chain : Dfn K mg "need_chain" s_need_chain ["value"] A.a_need_chain A.f_need_chain
  d_need_depth : Dfn K mg "need_depth" s_need_depth ["value"] A.a_need_depth A.f_need_depth
  d_counted_in : Dfn K mg "counted_in" s_counted_in ["chain", "place"] A.a_counted_in A.f_counted_in
  d_lesser : Dfn K mg "lesser" s_lesser ["one", "other"] A.a_lesser A.f_lesser
  d_left_behind : Dfn K mg "left_behind" s_left_behind ["left", "certificate"] A.a_left_behind A.f_left_behind
  d_left_in : Dfn K mg "left_in" s_left_in ["depth", "chain"] A.a_left_in A.f_left_in
  d_counted_behind : Dfn K mg "counted_behind" s_counted_behind ["chain", "place"] A.a_counted_behind A.f_counted_behind
  d_left_row : Dfn K mg "left_row" s_left_row ["depth", "chain"] A.a_left_row A.f_left_row
  d_law_cup : Dfn K mg "_law_cup" s_law_cup ["_law_script"] A.a_law_cup A.f_law_cup
  d_law_roll : Dfn K mg "_law_roll" s_law_roll ["_law_cup_here", "_law_many"] A.a_law_roll A.f_law_roll
  d_law_some : Dfn K mg "_law_some" s_law_some ["_law_cup_here", "_law_things"] A.a_law_some A.f_law_some
  d_law_parts : Dfn K mg "_law_parts" s_law_parts ["_law_parts_here"] A.a_law_parts A.f_law_parts
  d_law_certificate : Dfn K mg "_law_certificate" s_law_certificate ["_law_cup_here"] A.a_law_certificate A.f_law_certificate
  d_law_drawn_chain : Dfn K mg "_law_drawn_chain" s_law_drawn_chain ["_law_cup_here", "_law_most"] A.a_law_drawn_chain A.f_law_drawn_chain
  d_law_depth : Dfn K mg "_law_depth" s_law_depth ["_law_certificate_here"] A.a_law_depth A.f_law_depth
  d_law_counts : Dfn K mg "_law_counts" s_law_counts ["_law_chain", "_law_place", "_law_end"] A.a_law_counts A.f_law_counts
  d_law_all_depths : Dfn K mg "_law_all_depths" s_law_all_depths ["_law_depth_here", "_law_chain"] A.a_law_all_depths A.f_law_all_depths
  d_law_error : Dfn K mg "_law_error" s_law_error ["_law_call"] A.a_law_error A.f_law_error
  d_law_whole : Dfn K mg "_law_whole" s_law_whole ["_law_value"] A.a_law_whole A.f_law_whole
  d_law_left : Dfn K mg "_law_left" s_law_left ["_law_depth_here", "_law_chain"] A.a_law_left A.f_law_left
  d_law : Dfn K mg "law" s_law ["_law_script"] A.a_law A.f_law
  g_LONGEST_values : ∃ t, mg "LONGEST_values" = some (.int (12) t)
  g_DEEP : ∃ t, mg "DEEP" = some (.int (4) t)
  g_KEYS : ∃ t, mg "KEYS" = some (.int (4294967295) t)
  g_SERIALS : ∃ t, mg "SERIALS" = some (.int (1000000) t)
  g_TIMES : ∃ t, mg "TIMES" = some (.int (1000000000) t)
  g_DEPTH : ∃ t, mg "DEPTH" = some (.int (8) t)
  g_MANY_certificates : ∃ t, mg "MANY_certificates" = some (.int (8) t)
  g_LONGEST_chains : ∃ t, mg "LONGEST_chains" = some (.int (8) t)
  g_NONE : ∃ t, mg "NONE" = some (.int (-1) t)
  g_PASSED : ∃ t, mg "PASSED" = some (.int (-2) t)
  g_SIGNS : ∃ t, mg "SIGNS" = some (.str "abcdefghijklmnopqrstuvwxyz0123456789" t)
  g_USES : mg "USES" = some (.ref A.a_USES)
  t_USES : KTup K A.a_USES ["agree", "certs", "lists", "sign"]
  g_PURPOSES : mg "PURPOSES" = some (.ref A.a_PURPOSES)
  t_PURPOSES : KTup K A.a_PURPOSES ["any", "call", "serve", "sign", "stamp"]
  g_PARTS : mg "PARTS" = some (.ref A.a_PARTS)
  t_PARTS : KTup K A.a_PARTS ["anylimit", "basic", "excluded", "lists", "mappings", "names", "odd", "permitted", "policies", "policylimits", "purposes", "uses"]
  b_isinstance : mg "isinstance" = none
  b_int : mg "int" = none
  b_bool : mg "bool" = none
  b_str : mg "str" = none
  b_tuple : mg "tuple" = none
  b_list : mg "list" = none
  b_len : mg "len" = none
  b_all : mg "all" = none
  b_zip : mg "zip" = none
  b_range : mg "range" = none
  b_dict : mg "dict" = none
  b_abs : mg "abs" = none
  b_max : mg "max" = none
  b_min : mg "min" = none
  b_sorted : mg "sorted" = none
  b_enumerate : mg "enumerate" = none
  e_ChainError : Exn K mg "ChainError" A.a_ChainError
  e_InvalidNumber : Exn K mg "InvalidNumber" A.a_InvalidNumber
  e_InvalidCertificate : Exn K mg "InvalidCertificate" A.a_InvalidCertificate
  e_InvalidChain : Exn K mg "InvalidChain" A.a_InvalidChain
  e_InvalidUses : Exn K mg "InvalidUses" A.a_InvalidUses
  e_InvalidPurposes : Exn K mg "InvalidPurposes" A.a_InvalidPurposes
  e_InvalidTimes : Exn K mg "InvalidTimes" A.a_InvalidTimes
  e_InvalidLimits : Exn K mg "InvalidLimits" A.a_InvalidLimits
  x_InvalidChain_ChainError : PySem.W.exmOne K (.ref A.a_InvalidChain) (.ref A.a_ChainError) = some true
  x_InvalidNumber_ChainError : PySem.W.exmOne K (.ref A.a_InvalidNumber) (.ref A.a_ChainError) = some true
  x_InvalidChain_InvalidNumber : PySem.W.exmOne K (.ref A.a_InvalidChain) (.ref A.a_InvalidNumber) = some false
  x_InvalidChain_InvalidCertificate : PySem.W.exmOne K (.ref A.a_InvalidChain) (.ref A.a_InvalidCertificate) = some false
  x_InvalidNumber_InvalidCertificate : PySem.W.exmOne K (.ref A.a_InvalidNumber) (.ref A.a_InvalidCertificate) = some false
  x_InvalidNumber_InvalidChain : PySem.W.exmOne K (.ref A.a_InvalidNumber) (.ref A.a_InvalidChain) = some false
  x_InvalidChain_InvalidUses : PySem.W.exmOne K (.ref A.a_InvalidChain) (.ref A.a_InvalidUses) = some false
  x_InvalidNumber_InvalidUses : PySem.W.exmOne K (.ref A.a_InvalidNumber) (.ref A.a_InvalidUses) = some false
  x_InvalidChain_InvalidPurposes : PySem.W.exmOne K (.ref A.a_InvalidChain) (.ref A.a_InvalidPurposes) = some false
  x_InvalidNumber_InvalidPurposes : PySem.W.exmOne K (.ref A.a_InvalidNumber) (.ref A.a_InvalidPurposes) = some false
  x_InvalidChain_InvalidTimes : PySem.W.exmOne K (.ref A.a_InvalidChain) (.ref A.a_InvalidTimes) = some false
  x_InvalidNumber_InvalidTimes : PySem.W.exmOne K (.ref A.a_InvalidNumber) (.ref A.a_InvalidTimes) = some false
  x_InvalidChain_InvalidLimits : PySem.W.exmOne K (.ref A.a_InvalidChain) (.ref A.a_InvalidLimits) = some false
  x_InvalidNumber_InvalidLimits : PySem.W.exmOne K (.ref A.a_InvalidNumber) (.ref A.a_InvalidLimits) = some false
  x_InvalidChain_self : PySem.W.exmOne K (.ref A.a_InvalidChain) (.ref A.a_InvalidChain) = some true
  x_InvalidNumber_self : PySem.W.exmOne K (.ref A.a_InvalidNumber) (.ref A.a_InvalidNumber) = some true
/-! ### rules in short -/
section
variable {X : Cx} {K : PySem.W.Frag}
theorem k_in (e : X.K = K) : OpR X (compareOp .In) (rIn K false) := e ▸ op_in_seq
theorem k_eq (e : X.K = K) (hu : X.A.units + 64 < cLine) : OpR X (compareOp .Eq) (rEqD K) := e ▸ op_eqD hu
theorem k_ne (e : X.K = K) (hu : X.A.units + 64 < cLine) : OpR X (compareOp .NotEq) (rNeD K) := e ▸ op_neD hu
theorem k_add (e : X.K = K) : OpR X (binaryOp .Add) (rAddX K) := e ▸ op_addX
theorem k_mul (e : X.K = K) : OpR X (binaryOp .Mult) (rMulX K) := e ▸ op_mulX
theorem k_ix (e : X.K = K) : IxR X (rIxX K) := e ▸ ix_X
theorem k_sl (e : X.K = K) : SlR X (rSlA K) := e ▸ sl_tupA
theorem k_isi (e : X.K = K) : CallR X (.builtin "isinstance") (rIsi K) := e ▸ call_isi
theorem k_len (e : X.K = K) : CallR X (.builtin "len") (rLenX K) := e ▸ call_lenX
theorem k_all (e : X.K = K) (hc : X.calm = true) : CallR X (.builtin "all") (rAll K) := e ▸ cr_all hc
theorem k_min (e : X.K = K) (hc : X.calm = true) : CallR X (.builtin "min") (rMin K) := e ▸ cr_min hc
def rListOf (K : PySem.W.Frag) : List V → Hp → VK → Prop := fun xs H Q => ∃ p ys, xs = [.ref p] ∧ (SqL K H p ys ∨ SqT K H p ys) ∧ ∀ l, H l = none → Q (.ref l) (upd H l (.lst ys))
def rTupOf (K : PySem.W.Frag) : List V → Hp → VK → Prop := fun xs H Q => ∃ p ys, xs = [.ref p] ∧ ((SqL K H p ys ∧ ∀ l, H l = none → Q (.ref l) (upd H l (.tup ys))) ∨ (SqT K H p ys ∧ Q (.ref p) H))
def rDictP (K : PySem.W.Frag) : List V → Hp → VK → Prop := fun xs H Q => ∃ (a : Addr) (ps : List Addr) (kvs : List (Key × V)), xs = [.ref a] ∧ SqL K H a (ps.map V.ref) ∧ Paired (fun p kv => SqT K H p [kV kv.1, kv.2]) ps kvs ∧ ∀ p, H p = none → Q (.ref p) (upd H p (.dK (mergeK [] kvs)))
theorem k_listof (e : X.K = K) : CallR X (.type "list") (rListOf K) := e ▸ call_list_of
theorem k_tupof (e : X.K = K) : CallR X (.type "tuple") (rTupOf K) := e ▸ call_tuple_of
theorem k_dictp (e : X.K = K) (hc : X.calm = true) : CallR X (.type "dict") (rDictP K) := e ▸ call_dictP hc
theorem k_ptup {tg l : Expr} {tl : TE} (e : X.K = K) (hl : PE X l tl) : PI X tg l (iTup K tl) := e ▸ pi_tup hl
theorem k_plist {tg l : Expr} {tl : TE} (e : X.K = K) (hl : PE X l tl) : PI X tg l (iList K tl) := e ▸ pi_list hl
theorem k_pgt {es : List Expr} {k : Nat} {t : TGs} {n : Nat} {pos : Pos} (e : X.K = K) (hc : X.calm = true) (h : PGs X es t)
    (hn : (assignEach es X.env).length = n := by rfl) (hst : (assignEach es X.env).findIdx? (·.1) = none := by rfl) : PG X (.Tuple es k pos) (gTup K n t) := e ▸ pg_tup hc h hn hst
theorem k_pzip {e1 e2 : Expr} {ta : TA} {p pos tpos : Pos} {elts : List Expr} {kk : Nat} (e : X.K = K) (hm : X.mg "zip" = none) (ha : PA X [e1, e2] ta) (hg : Gl X "zip" := by rfl)
    (hs : starEach [e1, e2] X.env = (false, eval e1 X.env) :: starEach [e2] X.env := by rfl) (hpl : (backTo pos (starEach [e2] X.env)).any (·.1) = false := by rfl) :
    PI X (.Tuple elts kk tpos) (.Call (.Name "zip" p) [e1, e2] [] pos) (RZ.iZipA K ta) := e ▸ RZ.pi_zipA hg hm ha hs hpl
theorem pe_gI {x : Str} {i : Int} {pos : Pos} (hm : ∃ t, X.mg x = some (.int i t)) (hg : Gl X x := by rfl) (hd : (x == ("__debug__" : Str)) = false := by decide) : PE X (.Name x pos) (tC (.int i)) := by
  obtain ⟨t, h⟩ := hm
  exact pe_glob hg h ⟨t, rfl⟩ hd
theorem pe_gS {x : Str} {z : Str} {pos : Pos} (hm : ∃ t, X.mg x = some (.str z t)) (hg : Gl X x := by rfl) (hd : (x == ("__debug__" : Str)) = false := by decide) : PE X (.Name x pos) (tC (.str z)) := by
  obtain ⟨t, h⟩ := hm
  exact pe_glob hg h ⟨t, rfl⟩ hd
theorem pe_gR {x : Str} {a : Addr} {pos : Pos} (hm : X.mg x = some (.ref a)) (hg : Gl X x := by rfl) (hd : (x == ("__debug__" : Str)) = false := by decide) : PE X (.Name x pos) (tC (.ref a)) := pe_glob hg hm rfl hd
theorem pe_ty {x : Str} {n : String} {pos : Pos} (hm : X.mg x = none) (hv : bootBuiltins x = some (.type n) := by decide +kernel) (hg : Gl X x := by rfl) (hn : x ≠ "__name__" := by decide) (hd : (x == ("__debug__" : Str)) = false := by decide) : PE X (.Name x pos) (tC (.ty n)) := pe_bltn hg hm hv rfl hn hd
theorem pe_cl {CX : CXT} {k : Nat} {f : Addr} {fd : FuncData} {ps : List Str} {sp : Sp} {E : XK} {x : Str} {st : Stmt} {p pos : Pos} {e : Expr} {es : List Expr} {t : TA} (d : Dfn X.K X.mg x st ps f fd) (F : FnOk X.prog X.w X.K X.mg X.base CX k f fd ps sp) (hr : Room k X.A) (hx : Passes CX X E) (ha : PA X (e :: es) t)
    (hg : Gl X x := by rfl) (hdb : (x == ("__debug__" : Str)) = false := by decide) (he : starEach (e :: es) X.env = (false, eval e X.env) :: starEach es X.env := by rfl) (hpl : (backTo pos (starEach es X.env)).any (·.1) = false := by rfl) : PE X (.Call (.Name x p) (e :: es) [] pos) (tCall sp [] E t) :=
  pe_call F hr hg d.m d.fn.kp d.bd .nil hx ha hdb he hpl
theorem pe_B {id : String} {r : List V → Hp → VK → Prop} {x : Str} {p pos : Pos} {e : Expr} {es : List Expr} {t : TA} (hc : CallR X (.builtin id) r) (hm : X.mg x = none) (ha : PA X (e :: es) t) (hv : bootBuiltins x = some (.builtin id) := by decide +kernel) (hg : Gl X x := by rfl) (hn : x ≠ "__name__" := by decide) (hdb : (x == ("__debug__" : Str)) = false := by decide)
    (he : starEach (e :: es) X.env = (false, eval e X.env) :: starEach es X.env := by rfl) (hpl : (backTo pos (starEach es X.env)).any (·.1) = false := by rfl) : PE X (.Call (.Name x p) (e :: es) [] pos) (tCB r t) := pe_callB hc hg hm hv ha hn hdb he hpl
theorem pe_T {T : String} {r : List V → Hp → VK → Prop} {x : Str} {p pos : Pos} {e : Expr} {es : List Expr} {t : TA} (hc : CallR X (.type T) r) (hm : X.mg x = none) (ha : PA X (e :: es) t) (hv : bootBuiltins x = some (.type T) := by decide +kernel) (hg : Gl X x := by rfl) (hn : x ≠ "__name__" := by decide) (hdb : (x == ("__debug__" : Str)) = false := by decide)
    (he : starEach (e :: es) X.env = (false, eval e X.env) :: starEach es X.env := by rfl) (hpl : (backTo pos (starEach es X.env)).any (·.1) = false := by rfl) : PE X (.Call (.Name x p) (e :: es) [] pos) (tCB r t) := pe_callTy hc hg hm hv ha hn hdb he hpl
end
section
variable {K : PySem.W.Frag} {H : Hp}
theorem da1 {vs : List V} {a : PyData} (h : DaAll K H vs [a]) : ∃ x, vs = [x] ∧ Da K H x a := by
  cases h with
  | cons h1 h => cases h; exact ⟨_, rfl, h1⟩
theorem da2 {vs : List V} {a b : PyData} (h : DaAll K H vs [a, b]) : ∃ x y, vs = [x, y] ∧ Da K H x a ∧ Da K H y b := by
  cases h with
  | cons h1 h => cases h with
    | cons h2 h => cases h; exact ⟨_, _, rfl, h1, h2⟩
theorem da3 {vs : List V} {a b c : PyData} (h : DaAll K H vs [a, b, c]) : ∃ x y z, vs = [x, y, z] ∧ Da K H x a ∧ Da K H y b ∧ Da K H z c := by
  cases h with
  | cons h1 h => cases h with
    | cons h2 h => cases h with
      | cons h3 h => cases h; exact ⟨_, _, _, rfl, h1, h2, h3⟩
theorem da4 {vs : List V} {a b c d : PyData} (h : DaAll K H vs [a, b, c, d]) : ∃ x y z w, vs = [x, y, z, w] ∧ Da K H x a ∧ Da K H y b ∧ Da K H z c ∧ Da K H w d := by
  cases h with
  | cons h1 h => cases h with
    | cons h2 h => cases h with
      | cons h3 h => cases h with
        | cons h4 h => cases h; exact ⟨_, _, _, _, rfl, h1, h2, h3, h4⟩
theorem kit_int : ∀ x : PyData, kitB (tyD x) "int" = some (match x with | .bool _ => true | .int _ => true | _ => false)
  | .none => (by decide +kernel : kitB "NoneType" "int" = some false)
  | .bool _ => (by decide +kernel : kitB "bool" "int" = some true)
  | .int _ => (by decide +kernel : kitB "int" "int" = some true)
  | .str _ => (by decide +kernel : kitB "str" "int" = some false)
  | .list _ => (by decide +kernel : kitB "list" "int" = some false)
  | .tuple _ => (by decide +kernel : kitB "tuple" "int" = some false)
  | .dict _ => (by decide +kernel : kitB "dict" "int" = some false)
theorem kit_bool : ∀ x : PyData, kitB (tyD x) "bool" = some (match x with | .bool _ => true | _ => false)
  | .none => (by decide +kernel : kitB "NoneType" "bool" = some false)
  | .bool _ => (by decide +kernel : kitB "bool" "bool" = some true)
  | .int _ => (by decide +kernel : kitB "int" "bool" = some false)
  | .str _ => (by decide +kernel : kitB "str" "bool" = some false)
  | .list _ => (by decide +kernel : kitB "list" "bool" = some false)
  | .tuple _ => (by decide +kernel : kitB "tuple" "bool" = some false)
  | .dict _ => (by decide +kernel : kitB "dict" "bool" = some false)
theorem kit_tuple : ∀ x : PyData, kitB (tyD x) "tuple" = some (match x with | .tuple _ => true | _ => false)
  | .none => (by decide +kernel : kitB "NoneType" "tuple" = some false)
  | .bool _ => (by decide +kernel : kitB "bool" "tuple" = some false)
  | .int _ => (by decide +kernel : kitB "int" "tuple" = some false)
  | .str _ => (by decide +kernel : kitB "str" "tuple" = some false)
  | .list _ => (by decide +kernel : kitB "list" "tuple" = some false)
  | .tuple _ => (by decide +kernel : kitB "tuple" "tuple" = some true)
  | .dict _ => (by decide +kernel : kitB "dict" "tuple" = some false)
theorem kit_ss : kitB "str" "str" = some true := by decide +kernel
theorem kit_ll : kitB "list" "list" = some true := by decide +kernel
end
end DL
/-! values, names -/
namespace DL
open PySem PySem.Spec PyProof.Rows L2
def isWhole : PyData → Int → Int → Bool
  | .int i, lo, hi => decide (lo ≤ i) && decide (i ≤ hi)
  | _, _, _ => false
def isBool : PyData → Bool
  | .bool _ => true
  | _ => false
def isTup : PyData → Int → Int → Bool
  | .tuple l, lo, hi => decide (lo ≤ (l.length : Int)) && decide ((l.length : Int) ≤ hi)
  | _, _, _ => false
def signs : Str := "abcdefghijklmnopqrstuvwxyz0123456789"
def goodWord (z : Str) : Bool := (decide ((1 : Int) ≤ (z.length : Int)) && decide ((z.length : Int) ≤ 12)) && z.cps.toList.all fun c => decide (c ∈ signs.cps.toList)
def R_is_whole : List PyData → PyData → Prop := fun ds d => ∃ x lo hi, ds = [x, .int lo, .int hi] ∧ d = .bool (isWhole x lo hi)
def R_is_truth : List PyData → PyData → Prop := fun ds d => ∃ x, ds = [x] ∧ d = .bool (isBool x)
def R_is_tuple_of : List PyData → PyData → Prop := fun ds d => ∃ x lo hi, ds = [x, .int lo, .int hi] ∧ d = .bool (isTup x lo hi)
def R_fits_word : List PyData → PyData → Prop := fun ds d => ∃ z : Str, z.length ≤ 1000 ∧ ds = [.str z] ∧ d = .bool (goodWord z)
section
variable {P : Program} {w : World} {K : PySem.W.Frag} {mg : Str → Option Value} {base : Heap} {A : Ad}
theorem ok_is_whole (T : Txt K mg A) : FnOk P w K mg base CX0 1 A.a_is_whole A.f_is_whole ["value", "low", "high"] (SpD K R_is_whole) := by
  refine T.d_is_whole.fn.ok sc_is_whole (fun vs H Q E h => ?_) (fun cdv AA outer s H vs Q E hr h => ?_)
  · obtain ⟨ds, d, hd, ⟨x, lo, hi, rfl, rfl⟩, k⟩ := h
    exact hd.length
  · obtain ⟨ds, d, hd, ⟨x, lo, hi, rfl, rfl⟩, k⟩ := h
    obtain ⟨v0, v1, v2, rfl, h0, h1, h2⟩ := da3 hd
    refine ⟨_, (pss_one (ps_ret (pe_and (pe_B (k_isi (K := K) rfl) T.b_isinstance (pa_cons (pv 0) (pa_cons (pe_ty (n := "int") T.b_int) pa_nil))) (pe_and (pe_not (pe_B (k_isi (K := K) rfl) T.b_isinstance (pa_cons (pv 0) (pa_cons (pe_ty (n := "bool") T.b_bool) pa_nil)))) (pe_one (pe_chain op_le op_le (pv 1) (pv 0) (pv 2))))))), ?_⟩
    refine s_ret (d_is (d_and (d_isi (d_var rfl h0) (kit_int x)) fun hb => d_and (b := isWhole x lo hi) (d_not (d_isi (d_var rfl h0) (kit_bool x))) fun hb2 => ?_) ?_) k
    · cases x with
      | int i => exact d_chain (d_var rfl h1) (d_var rfl h0) (fun _ => d_var rfl h2) rd_le (fun _ => rd_le)
      | bool b => simp at hb2
      | none => simp at hb
      | str z => simp at hb
      | list l => simp at hb
      | tuple l => simp at hb
      | dict l => simp at hb
    · cases x <;> simp [isWhole]
theorem ok_is_truth (T : Txt K mg A) : FnOk P w K mg base CX0 1 A.a_is_truth A.f_is_truth ["value"] (SpD K R_is_truth) := by
  refine T.d_is_truth.fn.ok sc_is_truth (fun vs H Q E h => ?_) (fun cdv AA outer s H vs Q E hr h => ?_)
  · obtain ⟨ds, d, hd, ⟨x, rfl, rfl⟩, k⟩ := h
    exact hd.length
  · obtain ⟨ds, d, hd, ⟨x, rfl, rfl⟩, k⟩ := h
    obtain ⟨v0, rfl, h0⟩ := da1 hd
    refine ⟨_, (pss_one (ps_ret (pe_B (k_isi (K := K) rfl) T.b_isinstance (pa_cons (pv 0) (pa_cons (pe_ty (n := "bool") T.b_bool) pa_nil))))), ?_⟩
    refine s_ret (d_is (d_isi (d_var rfl h0) (kit_bool x)) ?_) k
    cases x <;> rfl
theorem ok_is_tuple_of (T : Txt K mg A) : FnOk P w K mg base CX0 1 A.a_is_tuple_of A.f_is_tuple_of ["value", "low", "high"] (SpD K R_is_tuple_of) := by
  refine T.d_is_tuple_of.fn.ok sc_is_tuple_of (fun vs H Q E h => ?_) (fun cdv AA outer s H vs Q E hr h => ?_)
  · obtain ⟨ds, d, hd, ⟨x, lo, hi, rfl, rfl⟩, k⟩ := h
    exact hd.length
  · obtain ⟨ds, d, hd, ⟨x, lo, hi, rfl, rfl⟩, k⟩ := h
    obtain ⟨v0, v1, v2, rfl, h0, h1, h2⟩ := da3 hd
    refine ⟨_, (pss_one (ps_ret (pe_and (pe_B (k_isi (K := K) rfl) T.b_isinstance (pa_cons (pv 0) (pa_cons (pe_ty (n := "tuple") T.b_tuple) pa_nil))) (pe_one (pe_chain op_le op_le (pv 1) (pe_B (k_len (K := K) rfl) T.b_len (pa_cons (pv 0) pa_nil)) (pv 2)))))), ?_⟩
    refine s_ret (d_is (d_and (b := isTup x lo hi) (d_isi (d_var rfl h0) (kit_tuple x)) fun hb => ?_) ?_) k
    · cases x with
      | tuple l => exact d_chain (d_var rfl h1) (d_lenT (d_var rfl h0)) (fun _ => d_var rfl h2) rd_le (fun _ => rd_le)
      | int i => simp at hb
      | bool b => simp at hb
      | none => simp at hb
      | str z => simp at hb
      | list l => simp at hb
      | dict l => simp at hb
    · cases x <;> simp [isTup]
theorem givenD_all (n : Nat) (f : Nat → Bool) (r : Nat → PyData) (h : ∀ i, i < n → f i = true) : givenD n f r = (List.range n).map r := by
  unfold givenD
  rw [List.filter_eq_self.mpr fun i hi => h i (List.mem_range.mp hi)]
theorem range_at {α β : Type} (l : List α) (g : Option α → β) : (List.range l.length).map (fun i => g l[i]?) = l.map fun x => g (some x) := by
  apply List.ext_getElem?
  intro i
  rw [List.getElem?_map, List.getElem?_map]
  by_cases h : i < l.length
  · rw [List.getElem?_range h, List.getElem?_eq_getElem h]
    simp [h]
  · rw [List.getElem?_eq_none (by simpa using h), List.getElem?_eq_none (by omega)]
    rfl
theorem ok_fits_word (T : Txt K mg A) : FnOk P w K mg base CX0 1 A.a_fits_word A.f_fits_word ["value"] (SpD K R_fits_word) := by
  refine T.d_fits_word.fn.ok sc_fits_word (fun vs H Q E h => ?_) (fun cdv AA outer s H vs Q E hr h => ?_)
  · obtain ⟨ds, d, hd, ⟨z, hz, rfl, rfl⟩, k⟩ := h
    exact hd.length
  · obtain ⟨ds, d, hd, ⟨z, hz, rfl, rfl⟩, k⟩ := h
    obtain ⟨v0, rfl, h0⟩ := da1 hd
    refine ⟨_, (pss_one (ps_ret (pe_and (pe_B (k_isi (K := K) rfl) T.b_isinstance (pa_cons (pv 0) (pa_cons (pe_ty (n := "str") T.b_str) pa_nil))) (pe_and (pe_chain op_le op_le pe_int (pe_B (k_len (K := K) rfl) T.b_len (pa_cons (pv 0) pa_nil)) (pe_gI T.g_LONGEST_values)) (pe_one (pe_B (k_all (K := K) rfl rfl) T.b_all (pa_cons (pe_lc (own := [("sign", 1)]) (by rfl) sc_fits_word.nd (pi_str (pv 0)) (blkOk_by (own := [("sign", 1)]) (N := ["value", "sign"]) (sc := defScope s_fits_word) (by decide +kernel)) (fun _ _ _ _ _ => (pg_name (i := 1) sc_fits_word.nd rfl (Or.inl rfl))) (fun _ _ _ _ _ => pts_nil) (fun _ _ _ _ _ => (pe_cmpR op_inS (pv 1) (pe_gS T.g_SIGNS) (by with_unfolding_all rfl)))) pa_nil))))))), ?_⟩
    refine s_ret (d_is (d_and (d_isi (d_var rfl h0) kit_ss) fun _ => d_and (d_chain d_int (d_lenS (d_var rfl h0) hz) (fun _ => d_int) rd_le (fun _ => rd_le)) fun _ => d_all (bs := z.cps.toList.map fun c => decide (c ∈ signs.cps.toList)) (d_is (d_lcN (fun _ => true) (fun i => .bool (match z.cps.toList[i]? with | some c => decide (c ∈ signs.cps.toList) | none => false)) (i_str (d_var rfl h0)) (show z.length ≤ 40000 by omega) (fun _ _ _ _ _ _ => t_yes) (fun i x H' hi e it _ => ?_) (fun _ _ _ => rfl)) ?_)) ?_) k
    · obtain ⟨c, hc, rfl⟩ := it
      have hc' : z.cps.toList[i]? = some c := by simpa using hc
      rw [hc']
      exact d_op (d_var rfl (.str _)) d_str rd_inS
    · rw [givenD_all _ _ _ fun _ _ => rfl]
      have q := range_at z.cps.toList (fun o => PyData.bool (match o with | some c => decide (c ∈ signs.cps.toList) | none => false))
      rw [Array.length_toList] at q
      rw [q, List.map_map]
      rfl
    · show PyData.bool _ = PyData.bool _
      unfold goodWord
      congr 1
      rw [Bool.true_and]
      congr 1
      rw [List.all_map]
      rfl
end
end DL
/-! names, lots -/
namespace DL
open PySem PySem.Spec PyProof.Rows L2
/-- the cut of a list of texts behind its first -/
theorem cutP_1 (ds : List PyData) : cutP ds (some 1) none = ds.drop 1 := by
  unfold cutP
  rw [show HT.sIx ds.length 0 (some 1) = min 1 ds.length from HT.sIx_nat ds.length 0 1, HT.sIx_none]
  cases ds with
  | nil => rfl
  | cons x r =>
    rw [show min 1 (x :: r).length = 1 by
      rw [List.length_cons]
      omega]
    show (List.take ((x :: r).length - 1) r) = r
    rw [List.length_cons, Nat.add_sub_cancel]
    exact List.take_length
def ltS (a b : Str) : Bool := decide (a.cps.toList < b.cps.toList)
def asc : List Str → Bool
  | a :: b :: r => ltS a b && asc (b :: r)
  | _ => true
def inLot (ws : List Str) (lo hi : Int) (us : List Str) : Bool := (decide (lo ≤ (ws.length : Int)) && decide ((ws.length : Int) ≤ hi)) && (ws.all fun x => decide (x ∈ us)) && asc ws
def goodWords (ws : List Str) (lo hi : Int) : Bool := (decide (lo ≤ (ws.length : Int)) && decide ((ws.length : Int) ≤ hi)) && ws.all goodWord
abbrev strsD (ws : List Str) : PyData := .tuple (ws.map PyData.str)
theorem isTup_strs (ws : List Str) (lo hi : Int) : isTup (strsD ws) lo hi = (decide (lo ≤ (ws.length : Int)) && decide ((ws.length : Int) ≤ hi)) := by
  show (decide (lo ≤ ((ws.map PyData.str).length : Int)) && decide (((ws.map PyData.str).length : Int) ≤ hi)) = _
  rw [List.length_map]
def R_fits_words : List PyData → PyData → Prop := fun ds d => ∃ (ws : List Str) (lo hi : Int), (ws.length ≤ 1000 ∧ ∀ x ∈ ws, x.length ≤ 1000) ∧ ds = [strsD ws, .int lo, .int hi] ∧ d = .bool (goodWords ws lo hi)
def R_is_ascending : List PyData → PyData → Prop := fun ds d => ∃ (ws : List Str), ws.length ≤ 1000 ∧ ds = [strsD ws] ∧ d = .bool (asc ws)
def R_fits_lot : List PyData → PyData → Prop := fun ds d => ∃ (ws : List Str) (lo hi : Int) (us : List Str), ws.length ≤ 1000 ∧ ds = [strsD ws, .int lo, .int hi, strsD us] ∧ d = .bool (inLot ws lo hi us)
def R_fits_name : List PyData → PyData → Prop := fun ds d => ∃ (ws : List Str), (ws.length ≤ 1000 ∧ ∀ x ∈ ws, x.length ≤ 1000) ∧ ds = [strsD ws] ∧ d = .bool (goodWords ws 1 4)
def pairG {α β : Type} (g : α → α → β) (z : β) : Option α → Option α → β
  | some a, some b => g a b
  | _, _ => z
theorem pairs_map {α β : Type} (l : List α) (g : α → α → β) (z : β) : (List.range (l.length - 1)).map (fun i => pairG g z l[i]? (l.drop 1)[i]?) = (l.zip (l.drop 1)).map fun p => g p.1 p.2 := by
  apply List.ext_getElem?
  intro i
  rw [List.getElem?_map, List.getElem?_map]
  by_cases h : i < l.length - 1
  · rw [List.getElem?_range h]
    have h1 : i < l.length := by omega
    have h2 : i < (l.drop 1).length := by rw [List.length_drop]; omega
    have e : (l.zip (l.drop 1))[i]? = some (l[i], (l.drop 1)[i]) := by
      rw [List.getElem?_zip_eq_some]
      exact ⟨List.getElem?_eq_getElem h1, List.getElem?_eq_getElem h2⟩
    rw [e]
    simp only [Option.map_some, List.getElem?_eq_getElem h1, List.getElem?_eq_getElem h2, pairG]
  · rw [List.getElem?_eq_none (by simpa using h), List.getElem?_eq_none (by rw [List.length_zip, List.length_drop]; omega)]
    rfl
theorem asc_zip : ∀ ws : List Str, ((ws.zip (ws.drop 1)).map fun p => ltS p.1 p.2).all id = asc ws
  | [] => rfl
  | [_] => rfl
  | a :: b :: r => by
    have ih := asc_zip (b :: r)
    show (ltS a b :: (((b :: r).zip r).map fun p => ltS p.1 p.2)).all id = (ltS a b && asc (b :: r))
    rw [List.all_cons, ← ih]
    rfl
theorem map_at {α : Type} (ws : List α) (f : α → PyData) (i : Nat) : (ws.map f)[i]? = ws[i]?.map f := List.getElem?_map
section
variable {P : Program} {w : World} {K : PySem.W.Frag} {mg : Str → Option Value} {base : Heap} {A : Ad}
/-- the target of a pair -/
theorem g_pair {K : PySem.W.Frag} {σ : L2.St} {H' : Hp} {i j : Nat} {vs : List Nat} {x : V} {d e : PyData} (hx : Da K H' x (.tuple [d, e])) (k : L2.St → Hp → Prop)
    (h : ∀ a b, Da K H' a d → Da K H' b e → k (((wipe σ vs).set i (some a)).set j (some b)) H') : gTup K 2 (gCons (gName i) (gCons (gName j) gNil)) x (wipe σ vs) H' k := by
  cases hx with
  | tup h1 h2 =>
    obtain ⟨a, b, rfl, ha, hb⟩ := da2 h2
    exact ⟨_, _, rfl, h1, rfl, a, [b], rfl, b, [], rfl, rfl, h a b ha hb⟩
theorem wipe_set2 {σ : L2.St} {i j : Nat} {x y : Option V} (h : i ≠ j) : wipe (((wipe σ [i, j]).set i x).set j y) [i, j] = wipe σ [i, j] := by
  show (((((σ.set j none).set i none).set i x).set j y).set j none).set i none = (σ.set j none).set i none
  rw [List.set_set, List.set_set, List.set_comm _ _ h, List.set_set, List.set_set]
theorem ok_fits_words (T : Txt K mg A) : FnOk P w K mg base CX0 2 A.a_fits_words A.f_fits_words ["value", "low", "high"] (SpD K R_fits_words) := by
  refine T.d_fits_words.fn.ok sc_fits_words (fun vs H Q E h => ?_) (fun cdv AA outer s H vs Q E hr h => ?_)
  · obtain ⟨ds, d, hd, ⟨ws, lo, hi, hl, rfl, rfl⟩, k⟩ := h
    exact hd.length
  · obtain ⟨ds, d, hd, ⟨ws, lo, hi, ⟨hl, hw⟩, rfl, rfl⟩, k⟩ := h
    obtain ⟨v0, v1, v2, rfl, h0, h1, h2⟩ := da3 hd
    refine ⟨_, (pss_one (ps_ret (pe_and (pe_cl T.d_is_tuple_of (ok_is_tuple_of T) (hr.mono (by decide)) pass0 (pa_cons (pv 0) (pa_cons (pv 1) (pa_cons (pv 2) pa_nil)))) (pe_one (pe_B (k_all (K := K) rfl rfl) T.b_all (pa_cons (pe_lc (own := [("word", 3)]) (by rfl) sc_fits_words.nd (k_ptup (K := K) rfl (pv 0)) (blkOk_by (own := [("word", 3)]) (N := ["value", "low", "high", "word"]) (sc := defScope s_fits_words) (by decide +kernel)) (fun _ _ _ _ _ => (pg_name (i := 3) sc_fits_words.nd rfl (Or.inl rfl))) (fun _ _ _ _ _ => pts_nil) (fun _ _ _ _ _ => (pe_cl T.d_fits_word (ok_fits_word T) (hr.mono (by decide)) pass0 (pa_cons (pv 3) pa_nil)))) pa_nil)))))), ?_⟩
    refine s_ret (d_is (d_and (d_call (da_cons (d_var rfl h0) (da_cons (d_var rfl h1) (da_cons (d_var rfl h2) da_nil))) ⟨_, _, _, rfl, rfl⟩) fun _ => d_all (bs := ws.map goodWord) (d_is (d_lcN (fun _ => true) (fun i => .bool (match ws[i]? with | some z => goodWord z | none => false)) (i_tup (d_var rfl h0)) (by rw [List.length_map]; omega) (fun _ _ _ _ _ _ => t_yes) (fun i x H' hi e it _ => ?_) (fun _ _ _ => rfl)) ?_)) ?_) k
    · obtain ⟨d, hd, hx⟩ := it
      rw [map_at] at hd
      cases hz : ws[i]? with
      | none => rw [hz] at hd; cases hd
      | some z =>
        rw [hz] at hd
        cases hd
        exact d_call (da_cons (d_var rfl hx) da_nil) ⟨z, hw z (List.mem_of_getElem? hz), rfl, rfl⟩
    · rw [givenD_all _ _ _ fun _ _ => rfl, List.length_map]
      have q := range_at ws (fun o => PyData.bool (match o with | some z => goodWord z | none => false))
      rw [q, List.map_map]
      rfl
    · show PyData.bool (isTup (strsD ws) lo hi && (ws.map goodWord).all id) = PyData.bool _
      unfold goodWords
      rw [isTup_strs, List.all_map]
      rfl
theorem ok_is_ascending (T : Txt K mg A) : FnOk P w K mg base CX0 1 A.a_is_ascending A.f_is_ascending ["values"] (SpD K R_is_ascending) := by
  refine T.d_is_ascending.fn.ok sc_is_ascending (fun vs H Q E h => ?_) (fun cdv AA outer s H vs Q E hr h => ?_)
  · obtain ⟨ds, d, hd, ⟨ws, hl, rfl, rfl⟩, k⟩ := h
    exact hd.length
  · obtain ⟨ds, d, hd, ⟨ws, hl, rfl, rfl⟩, k⟩ := h
    obtain ⟨v0, rfl, h0⟩ := da1 hd
    refine ⟨_, (pss_one (ps_ret (pe_B (k_all (K := K) rfl rfl) T.b_all (pa_cons (pe_lc (own := [("one", 1), ("other", 2)]) (by rfl) sc_is_ascending.nd (k_pzip (K := K) rfl T.b_zip (pa_cons (pv 0) (pa_cons (pe_slice (k_sl (K := K) rfl) (pv 0) (po_some pe_int) po_none) pa_nil))) (blkOk_by (own := [("one", 1), ("other", 2)]) (N := ["values", "one", "other"]) (sc := defScope s_is_ascending) (by decide +kernel)) (fun _ _ _ _ _ => (k_pgt (K := K) (n := 2) rfl rfl (pgs_cons (pg_name (i := 1) sc_is_ascending.nd rfl (Or.inl rfl)) (pgs_cons (pg_name (i := 2) sc_is_ascending.nd rfl (Or.inl rfl)) pgs_nil)))) (fun _ _ _ _ _ => pts_nil) (fun _ _ _ _ _ => (pe_cmpR op_ltS (pv 1) (pv 2) (nomark _)))) pa_nil)))), ?_⟩
    have hi0 : EvI (RZ.iZipA K (tCons (tVar 0) (tCons (tSl (rSlA K) (tVar 0) (tPart (tC (.int 1))) tNoPart) tNil))) (L2.start ["values", "one", "other"] [v0]) H (ws.length - 1) (ItemP K (fun i => ws[i]?.map PyData.str) (fun i => (ws.drop 1)[i]?.map PyData.str)) := by
      have q := i_zipT (σ := L2.start ["values", "one", "other"] [v0]) (K := K) (H := H) (da_cons (d_var (i := 0) rfl h0) (da_cons (d_cut (d_var (i := 0) rfl h0) (o_some (d_int (K := K) (i := 1))) o_none) da_nil))
      rw [cutP_1, ← List.map_drop] at q
      have e : min (ws.map PyData.str).length ((ws.drop 1).map PyData.str).length = ws.length - 1 := by
        rw [List.length_map, List.length_map, List.length_drop]
        omega
      rw [e] at q
      simp only [map_at] at q
      exact q
    refine s_ret (d_is (d_all (bs := (ws.zip (ws.drop 1)).map fun p => ltS p.1 p.2) (d_is (d_lc (fun i σ2 H' => ∃ a b s t, ws[i]? = some s ∧ (ws.drop 1)[i]? = some t ∧ a = V.str s ∧ b = V.str t ∧ σ2 = ((wipe (L2.start ["values", "one", "other"] [v0]) [1, 2]).set 1 (some a)).set 2 (some b)) (fun _ => true) (fun i => pairG (fun a b => .bool (ltS a b)) .none ws[i]? (ws.drop 1)[i]?) hi0 (by omega) ?_ (fun _ _ _ _ _ _ => t_yes) ?_ ?_) ?_)) ?_) k
    · rintro i x H' hi e ⟨d1, d2, e1, e2, hx⟩ kk hk
      have e1 : ws[i]?.map PyData.str = some d1 := e1
      have e2 : (ws.drop 1)[i]?.map PyData.str = some d2 := e2
      cases hs : ws[i]? with
      | none => rw [hs] at e1; cases e1
      | some s =>
        cases ht : (ws.drop 1)[i]? with
        | none => rw [ht] at e2; cases e2
        | some t =>
          rw [hs] at e1; rw [ht] at e2
          cases e1; cases e2
          refine g_pair hx kk fun a b ha hb => ?_
          cases ha; cases hb
          exact hk _ (wipe_set2 (by decide)) ⟨_, _, s, t, hs, ht, rfl, rfl, rfl⟩
    · rintro i σ2 H' hi e ⟨a, b, s, t, hs, ht, rfl, rfl, rfl⟩ _
      rw [hs, ht]
      exact d_op (d_var rfl (.str _)) (d_var rfl (.str _)) rd_ltS
    · intro i hi _
      cases ws[i]? <;> cases (ws.drop 1)[i]? <;> rfl
    · rw [givenD_all _ _ _ fun _ _ => rfl]
      have q := pairs_map ws (fun a b => PyData.bool (ltS a b)) PyData.none
      rw [q, List.map_map]
      rfl
    · rw [asc_zip]
theorem ok_fits_lot (T : Txt K mg A) : FnOk P w K mg base CX0 2 A.a_fits_lot A.f_fits_lot ["value", "low", "high", "words"] (SpD K R_fits_lot) := by
  refine T.d_fits_lot.fn.ok sc_fits_lot (fun vs H Q E h => ?_) (fun cdv AA outer s H vs Q E hr h => ?_)
  · obtain ⟨ds, d, hd, ⟨ws, lo, hi, us, hl, rfl, rfl⟩, k⟩ := h
    exact hd.length
  · obtain ⟨ds, d, hd, ⟨ws, lo, hi, us, hl, rfl, rfl⟩, k⟩ := h
    obtain ⟨v0, v1, v2, v3, rfl, h0, h1, h2, h3⟩ := da4 hd
    refine ⟨_, (pss_cons (ps_if (PW.pt (pw_or (pt_not (pt_val (pe_cl T.d_is_tuple_of (ok_is_tuple_of T) (hr.mono (by decide)) pass0 (pa_cons (pv 0) (pa_cons (pv 1) (pa_cons (pv 2) pa_nil)))))) (pw_or1 (pt_not (pt_val (pe_B (k_all (K := K) rfl rfl) T.b_all (pa_cons (pe_lc (own := [("one", 4)]) (by rfl) sc_fits_lot.nd (k_ptup (K := K) rfl (pv 0)) (blkOk_by (own := [("one", 4)]) (N := ["value", "low", "high", "words", "one"]) (sc := defScope s_fits_lot) (by decide +kernel)) (fun _ _ _ _ _ => (pg_name (i := 4) sc_fits_lot.nd rfl (Or.inl rfl))) (fun _ _ _ _ _ => pts_nil) (fun _ _ _ _ _ => (pe_and (pe_B (k_isi (K := K) rfl) T.b_isinstance (pa_cons (pv 4) (pa_cons (pe_ty (n := "str") T.b_str) pa_nil))) (pe_one (pe_cmpR (k_in (K := K) rfl) (pv 4) (pv 3) (by with_unfolding_all rfl)))))) pa_nil))))))) (pss_one (ps_ret pe_bl)) pss_nil)
    (pss_one (ps_ret (pe_cl T.d_is_ascending (ok_is_ascending T) (hr.mono (by decide)) pass0 (pa_cons (pv 0) pa_nil))))), ?_⟩
    have eT : isTup (strsD ws) lo hi = (decide (lo ≤ (ws.length : Int)) && decide ((ws.length : Int) ≤ hi)) := isTup_strs ws lo hi
    refine q_when (b := !isTup (strsD ws) lo hi || !(ws.all fun x => decide (x ∈ us))) (Evl.et_or (Evl.et_not (t_B (d_call (da_cons (d_var rfl h0) (da_cons (d_var rfl h1) (da_cons (d_var rfl h2) da_nil))) ⟨_, _, _, rfl, rfl⟩))) fun _ => Evl.et_not (t_B (d_is (d_all (bs := ws.map fun x => decide (x ∈ us)) (d_is (d_lcN (fun _ => true) (fun i => .bool (match ws[i]? with | some z => decide (z ∈ us) | none => false)) (i_tup (d_var rfl h0)) (by rw [List.length_map]; omega) (fun _ _ _ _ _ _ => t_yes) (fun i x H' hi e it _ => ?_) (fun _ _ _ => rfl)) ?_)) ?_))) (fun hb H1 e1 => ?_) (fun hb H1 e1 => ?_)
    · obtain ⟨d, hd, hx⟩ := it
      rw [map_at] at hd
      cases hz : ws[i]? with
      | none => rw [hz] at hd; cases hd
      | some z =>
        rw [hz] at hd
        cases hd
        exact d_is (d_and (d_isi (d_var rfl hx) kit_ss) fun _ => d_op (d_var rfl hx) (d_var rfl (h3.mono e)) rd_inT) (by rw [Bool.true_and])
    · rw [givenD_all _ _ _ fun _ _ => rfl, List.length_map]
      have q := range_at ws (fun o => PyData.bool (match o with | some z => decide (z ∈ us) | none => false))
      rw [q, List.map_map]
      rfl
    · rw [List.all_map]
      rfl
    · refine s_ret (K := K) d_bl fun v H2 e2 hv => k v H2 (e1.trans e2) ?_
      have ez : inLot ws lo hi us = false := by
        unfold inLot
        rw [← eT]
        cases h5 : isTup (strsD ws) lo hi with
        | false => rfl
        | true =>
          rw [h5] at hb
          have hb' : (ws.all fun x => decide (x ∈ us)) = false := by simpa using hb
          rw [hb']
          rfl
      rw [ez]
      exact hv
    · refine s_ret (d_call (da_cons (d_var rfl (h0.mono e1)) da_nil) ⟨ws, hl, rfl, rfl⟩) fun v H2 e2 hv => k v H2 (e1.trans e2) ?_
      have ez : inLot ws lo hi us = asc ws := by
        unfold inLot
        rw [← eT]
        have hb2 : isTup (strsD ws) lo hi = true ∧ (ws.all fun x => decide (x ∈ us)) = true := by
          cases h5 : isTup (strsD ws) lo hi <;> cases h6 : (ws.all fun x => decide (x ∈ us)) <;> rw [h5, h6] at hb <;> first | exact ⟨rfl, rfl⟩ | cases hb
        rw [hb2.1, hb2.2]
        rfl
      rw [ez]
      exact hv
theorem ok_fits_name (T : Txt K mg A) : FnOk P w K mg base CX0 3 A.a_fits_name A.f_fits_name ["value"] (SpD K R_fits_name) := by
  refine T.d_fits_name.fn.ok sc_fits_name (fun vs H Q E h => ?_) (fun cdv AA outer s H vs Q E hr h => ?_)
  · obtain ⟨ds, d, hd, ⟨ws, hl, rfl, rfl⟩, k⟩ := h
    exact hd.length
  · obtain ⟨ds, d, hd, ⟨ws, hl, rfl, rfl⟩, k⟩ := h
    obtain ⟨v0, rfl, h0⟩ := da1 hd
    refine ⟨_, (pss_one (ps_ret (pe_cl T.d_fits_words (ok_fits_words T) (hr.mono (by decide)) pass0 (pa_cons (pv 0) (pa_cons pe_int (pa_cons (pe_gI T.g_DEEP) pa_nil)))))), ?_⟩
    exact s_ret (d_call (da_cons (d_var rfl h0) (da_cons d_int (da_cons d_int da_nil))) ⟨ws, 1, 4, hl, rfl, rfl⟩) k
end
end DL
/-! certificates -/
namespace DL
open PySem PySem.Spec PyProof.Rows L2
def usesL : List Str := ["agree", "certs", "lists", "sign"]
def purposesL : List Str := ["any", "call", "serve", "sign", "stamp"]
def partsL : List Str := ["anylimit", "basic", "excluded", "lists", "mappings", "names", "odd", "permitted", "policies", "policylimits", "purposes", "uses"]
inductive PV where
  | basic (h : Bool) (d : Int)
  | purposes (ss : List Str)
  | uses (ss : List Str)
def PV.word : PV → Str
  | .basic _ _ => "basic"
  | .purposes _ => "purposes"
  | .uses _ => "uses"
def PV.val : PV → PyData
  | .basic h d => .tuple [.bool h, .int d]
  | .purposes ss => strsD ss
  | .uses ss => strsD ss
def PV.ok : PV → Bool
  | .basic h d => decide (-1 ≤ d) && decide (d ≤ if h then 8 else -1)
  | .purposes ss => inLot ss 0 8 purposesL
  | .uses ss => inLot ss 0 8 usesL
structure Cert where
  serial : Int
  issuer : List Str
  subject : List Str
  key : Int
  sealer : Int
  since : Int
  til : Int
  basic : Option (Bool × Int)
  purposes : Option (List Str)
  uses : Option (List Str)
  stampN : Int
def Cert.parts (c : Cert) : List PV := (match c.basic with | some (h, d) => [.basic h d] | none => []) ++ ((match c.purposes with | some ss => [.purposes ss] | none => []) ++ (match c.uses with | some ss => [.uses ss] | none => []))
def pvD (p : PV) : PyData := .tuple [.str p.word, p.val]
def partsD (ps : List PV) : PyData := .tuple (ps.map pvD)
def certD (c : Cert) : PyData := .tuple [.int c.serial, strsD c.issuer, strsD c.subject, .int c.key, .int c.sealer, .int c.since, .int c.til, partsD c.parts, .int c.stampN]
structure Cert.ok (c : Cert) : Prop where
  serial : isWhole (.int c.serial) 0 1000000 = true
  issuer : goodWords c.issuer 1 4 = true
  subject : goodWords c.subject 1 4 = true
  key : isWhole (.int c.key) 0 4294967295 = true
  sealer : isWhole (.int c.sealer) 0 4294967295 = true
  since : isWhole (.int c.since) 0 1000000000 = true
  til : isWhole (.int c.til) c.since 1000000000 = true
  parts : ∀ p ∈ c.parts, p.ok = true
  stampN : isWhole (.int c.stampN) 0 4294967295 = true
def Cert.own (c : Cert) : Bool := decide (c.issuer = c.subject)
def Cert.depth (c : Cert) : Int := match c.basic with
  | some (_, d) => d
  | none => -1
def Cert.basicD (c : Cert) : PyData := match c.basic with
  | some (h, d) => .tuple [.bool h, .int d]
  | none => .none
abbrev chainD (cs : List Cert) : PyData := .tuple (cs.map certD)
/-! ### shapes -/
theorem shaped_str {z : Str} (h : PyData.strOk z = true) : SeqAt.shaped (.str z) = true := by
  unfold SeqAt.shaped
  rw [show PyData.canLay0 (.str z) = PyData.strOk z by rw [PyData.canLay0], h]
  simp [PyData.depth]
theorem shaped_int (i : Int) : SeqAt.shaped (.int i) = true := by
  unfold SeqAt.shaped
  simp [PyData.canLay0, PyData.depth]
theorem shaped_bool (i : Bool) : SeqAt.shaped (.bool i) = true := by
  unfold SeqAt.shaped
  simp [PyData.canLay0, PyData.depth]
theorem lay_strs : ∀ ws : List Str, (∀ x ∈ ws, PyData.strOk x = true) → PyData.canLayAll0 (ws.map PyData.str) = true
  | [], _ => by simp [PyData.canLayAll0]
  | x :: ws, h => by
    simp only [List.map_cons, PyData.canLayAll0, PyData.canLay0, Bool.and_eq_true]
    exact ⟨h x (List.mem_cons.mpr (.inl rfl)), lay_strs ws fun y hy => h y (List.mem_cons.mpr (.inr hy))⟩
theorem depth_strs : ∀ ws : List Str, PyData.depthAll (ws.map PyData.str) = 0
  | [] => by simp [PyData.depthAll]
  | x :: ws => by
    simp only [List.map_cons, PyData.depthAll, PyData.depth, depth_strs ws]
    rfl
theorem shaped_strs {ws : List Str} (h : ∀ x ∈ ws, PyData.strOk x = true) : SeqAt.shaped (strsD ws) = true := by
  unfold SeqAt.shaped
  rw [show PyData.canLay0 (strsD ws) = true by simp only [strsD, PyData.canLay0]; exact lay_strs ws h]
  simp [strsD, PyData.depth, depth_strs]
theorem signs_low : ∀ c ∈ signs.cps.toList, c < 0x110000 := by decide +kernel
theorem strOk_good {z : Str} (h : goodWord z = true) : PyData.strOk z = true := by
  unfold goodWord at h
  simp only [Bool.and_eq_true, List.all_eq_true, decide_eq_true_eq] at h
  unfold PyData.strOk
  rw [Array.all_eq_true_iff_forall_mem]
  intro c hc
  exact decide_eq_true (signs_low c (h.2 c (by simpa using hc)))
theorem good_all {ws : List Str} {lo hi : Int} (h : goodWords ws lo hi = true) : ∀ x ∈ ws, goodWord x = true := by
  unfold goodWords at h
  simp only [Bool.and_eq_true, List.all_eq_true] at h
  exact h.2
theorem good_len {ws : List Str} {lo hi : Int} (h : goodWords ws lo hi = true) : (ws.length : Int) ≤ hi := by
  unfold goodWords at h
  simp only [Bool.and_eq_true, decide_eq_true_eq] at h
  exact h.1.2
theorem good_one {z : Str} (h : goodWord z = true) : z.length ≤ 12 := by
  unfold goodWord at h
  simp only [Bool.and_eq_true, decide_eq_true_eq] at h
  have q := h.1.2
  omega
theorem good_bounds {ws : List Str} (h : goodWords ws 1 4 = true) : ws.length ≤ 1000 ∧ ∀ x ∈ ws, x.length ≤ 1000 := by
  have h1 := good_len h
  exact ⟨by omega, fun x hx => by have := good_one (good_all h x hx); omega⟩
theorem lot_len {ws us : List Str} {lo hi : Int} (h : inLot ws lo hi us = true) : (ws.length : Int) ≤ hi := by
  unfold inLot at h
  simp only [Bool.and_eq_true, decide_eq_true_eq] at h
  exact h.1.1.2
theorem eqv_strs : ∀ a b : List Str, PyData.eqv (strsD a) (strsD b) = decide (a = b) := by
  have key : ∀ a b : List Str, PyData.eqvAll (a.map PyData.str) (b.map PyData.str) = decide (a = b) := by
    intro a
    induction a with
    | nil => intro b; cases b <;> simp [PyData.eqvAll]
    | cons x a ih =>
      intro b
      cases b with
      | nil => simp [PyData.eqvAll]
      | cons y b =>
        simp only [List.map_cons, PyData.eqvAll, PyData.eqv, ih b]
        by_cases h1 : x = y <;> by_cases h2 : a = b <;> simp [h1, h2]
  intro a b
  simp only [strsD, PyData.eqv]
  exact key a b
theorem eqv_str (a b : Str) : PyData.eqv (.str a) (.str b) = (a == b) := by simp only [PyData.eqv]
/-! ### relations -/
def R_fits_value : List PyData → PyData → Prop := fun ds d => ∃ p : PV, p.ok = true ∧ ds = [.str p.word, p.val] ∧ d = .bool true
def R_fits_parts : List PyData → PyData → Prop := fun ds d => ∃ c : Cert, (∀ p ∈ c.parts, p.ok = true) ∧ ds = [partsD c.parts] ∧ d = .bool true
/-- a certificate, or a tuple of another length -/
def R_fits_certificate : List PyData → PyData → Prop := fun ds d => (∃ c : Cert, c.ok ∧ ds = [certD c] ∧ d = .bool true) ∨ ∃ l : List PyData, l.length ≠ 9 ∧ ds = [.tuple l] ∧ d = .bool false
def R_part_in : List PyData → PyData → Prop := fun ds d => ∃ c : Cert, ds = [certD c, .str "basic"] ∧ d = c.basicD
def R_is_own_issuer : List PyData → PyData → Prop := fun ds d => ∃ c : Cert, c.ok ∧ ds = [certD c] ∧ d = .bool c.own
def R_depth_in : List PyData → PyData → Prop := fun ds d => ∃ c : Cert, ds = [certD c] ∧ d = .int c.depth
section
variable {P : Program} {w : World} {K : PySem.W.Frag} {mg : Str → Option Value} {base : Heap} {A : Ad}
theorem Txt.da_PARTS (T : Txt K mg A) (H : Hp) : Da K H (.ref A.a_PARTS) (strsD partsL) := .tup (T.t_PARTS.sq H) (da_strs _)
theorem Txt.da_USES (T : Txt K mg A) (H : Hp) : Da K H (.ref A.a_USES) (strsD usesL) := .tup (T.t_USES.sq H) (da_strs _)
theorem Txt.da_PURPOSES (T : Txt K mg A) (H : Hp) : Da K H (.ref A.a_PURPOSES) (strsD purposesL) := .tup (T.t_PURPOSES.sq H) (da_strs _)
theorem t_word {σ : L2.St} {H : Hp} {i : Nat} {v : V} {a b : Str} {c : Bool} (h : σ[i]? = some (some v)) (hd : Da K H v (.str a)) (sa : PyData.strOk a = true) (sb : PyData.strOk b = true) (e : (a == b) = c) : EvT (tTest (tOp (rEqD K) (tVar i) (tC (.str b)))) σ H c :=
  t_test (d_is (d_op (d_var h hd) d_str (rd_eq (shaped_str sa) (shaped_str sb))) (by rw [eqv_str, e]))
theorem t_word2 {σ : L2.St} {H : Hp} {i : Nat} {v : V} {a b b' : Str} {c : Bool} (h : σ[i]? = some (some v)) (hd : Da K H v (.str a)) (e : decide (a ∈ [b, b']) = c) : EvT (tTest (tOp (rIn K false) (tVar i) (tTup (tCons (tC (.str b)) (tCons (tC (.str b')) tNil))))) σ H c :=
  t_test (d_is (d_op (d_var h hd) (d_tup (ds := [b, b'].map PyData.str) (da_cons d_str (da_cons d_str da_nil)) (show 2 ≤ 1000 by decide)) rd_inT) (by rw [e]))
theorem isWhole_int (i lo hi : Int) : isWhole (.int i) lo hi = (decide (lo ≤ i) && decide (i ≤ hi)) := rfl
theorem ok_fits_value (T : Txt K mg A) : FnOk P w K mg base CX0 3 A.a_fits_value A.f_fits_value ["word", "value"] (SpD K R_fits_value) := by
  refine T.d_fits_value.fn.ok sc_fits_value (fun vs H Q E h => ?_) (fun cdv AA outer s H vs Q E hr h => ?_)
  · obtain ⟨ds, d, hd, ⟨p, hp, rfl, rfl⟩, k⟩ := h
    exact hd.length
  · obtain ⟨ds, d, hd, ⟨p, hp, rfl, rfl⟩, k⟩ := h
    obtain ⟨v0, v1, rfl, h0, h1⟩ := da2 hd
    have hu64 := hr.units
    refine ⟨_, (pss_cons (ps_if (pt_cmpR (k_eq (K := K) rfl hu64) (pv 0) pe_str (nomark _)) pss_never pss_nil)
    (pss_cons (ps_if (pt_cmpR (k_eq (K := K) rfl hu64) (pv 0) pe_str (nomark _)) (pss_one (ps_ret (pe_and (pe_cl T.d_is_tuple_of (ok_is_tuple_of T) (hr.mono (by decide)) pass0 (pa_cons (pv 1) (pa_cons pe_int (pa_cons pe_int pa_nil)))) (pe_and (pe_cl T.d_is_truth (ok_is_truth T) (hr.mono (by decide)) pass0 (pa_cons (pe_ix (k_ix (K := K) rfl) (pv 1) pe_int (fun _ _ => rfl)) pa_nil)) (pe_one (pe_cl T.d_is_whole (ok_is_whole T) (hr.mono (by decide)) pass0 (pa_cons (pe_ix (k_ix (K := K) rfl) (pv 1) pe_int (fun _ _ => rfl)) (pa_cons (pe_un un_neg pe_int) (pa_cons (pe_ifExp (pt_val (pe_ix (k_ix (K := K) rfl) (pv 1) pe_int (fun _ _ => rfl))) (pe_gI T.g_DEPTH) (pe_un un_neg pe_int)) pa_nil))))))))) pss_nil)
    (pss_cons (ps_if (pt_cmpR (k_in (K := K) rfl) (pv 0) (pe_tup (pa_cons pe_str (pa_cons pe_str pa_nil))) (by with_unfolding_all rfl)) pss_never pss_nil)
    (pss_cons (ps_if (pt_cmpR (k_eq (K := K) rfl hu64) (pv 0) pe_str (nomark _)) pss_never pss_nil)
    (pss_cons (ps_if (pt_cmpR (k_eq (K := K) rfl hu64) (pv 0) pe_str (nomark _)) pss_never pss_nil)
    (pss_cons (ps_if (pt_cmpR (k_eq (K := K) rfl hu64) (pv 0) pe_str (nomark _)) pss_never pss_nil)
    (pss_cons (ps_if (pt_cmpR (k_eq (K := K) rfl hu64) (pv 0) pe_str (nomark _)) pss_never pss_nil)
    (pss_cons (ps_if (pt_cmpR (k_eq (K := K) rfl hu64) (pv 0) pe_str (nomark _)) pss_never pss_nil)
    (pss_cons (ps_if (pt_cmpR (k_eq (K := K) rfl hu64) (pv 0) pe_str (nomark _)) pss_never pss_nil)
    (pss_one (ps_ret (pe_cl T.d_fits_lot (ok_fits_lot T) (hr.mono (by decide)) pass0 (pa_cons (pv 1) (pa_cons pe_int (pa_cons (pe_gI T.g_MANY_certificates) (pa_cons (pe_ifExp (pt_cmpR (k_eq (K := K) rfl hu64) (pv 0) pe_str (nomark _)) (pe_gR T.g_PURPOSES) (pe_gR T.g_USES)) pa_nil)))))))))))))))), ?_⟩
    cases p with
    | basic b n =>
      have h0 : Da K H v0 (.str ("basic" : Str)) := h0
      refine q_when (b := false) (t_word rfl h0 (by decide +kernel) (by decide +kernel) (by decide +kernel)) (fun hb => nomatch hb) (fun _ H1 e1 => ?_)
      refine q_when (b := true) (t_word rfl (h0.mono e1) (by decide +kernel) (by decide +kernel) (by decide +kernel)) (fun _ H2 e2 => ?_) (fun hb => nomatch hb)
      have g1 := h1.mono (e1.trans e2)
      refine s_ret (d_is (d_and (d_call (da_cons (d_var rfl g1) (da_cons d_int (da_cons d_int da_nil))) ⟨_, _, _, rfl, rfl⟩) fun _ => d_and (d_call (da_cons (d_op (d_var rfl g1) d_int (rd_ixT rfl)) da_nil) ⟨_, rfl, rfl⟩) fun _ =>
        d_call (da_cons (d_op (d_var rfl g1) d_int (rd_ixT rfl)) (da_cons (d_neg d_int) (da_cons (d_if (d := .int (if b then 8 else -1)) (t_B (d_op (d_var rfl g1) d_int (rd_ixT rfl))) (fun hb => by subst hb; exact d_int) (fun hb => by subst hb; exact d_neg d_int)) da_nil))) ⟨_, _, _, rfl, rfl⟩) ?_)
        fun v H3 e3 hv => k v H3 ((e1.trans e2).trans e3) hv
      have q : isWhole (.int n) (-1) (if b then 8 else -1) = true := hp
      show PyData.bool (isTup (.tuple [.bool b, .int n]) 2 2 && (isBool (.bool b) && isWhole (.int n) (-1) (if b then 8 else -1))) = _
      rw [q]
      rfl
    | purposes ss =>
      have h0 : Da K H v0 (.str ("purposes" : Str)) := h0
      have hl := lot_len hp
      refine q_when (b := false) (t_word rfl h0 (by decide +kernel) (by decide +kernel) (by decide +kernel)) (fun hb => nomatch hb) (fun _ H1 e1 => ?_)
      refine q_when (b := false) (t_word rfl (h0.mono e1) (by decide +kernel) (by decide +kernel) (by decide +kernel)) (fun hb => nomatch hb) (fun _ H2 e2 => ?_)
      have e1 := e1.trans e2
      refine q_when (b := false) (t_word2 rfl (h0.mono e1) (by decide +kernel)) (fun hb => nomatch hb) (fun _ H3 e3 => ?_)
      have e1 := e1.trans e3
      refine q_when (b := false) (t_word rfl (h0.mono e1) (by decide +kernel) (by decide +kernel) (by decide +kernel)) (fun hb => nomatch hb) (fun _ H4 e4 => ?_)
      have e1 := e1.trans e4
      refine q_when (b := false) (t_word rfl (h0.mono e1) (by decide +kernel) (by decide +kernel) (by decide +kernel)) (fun hb => nomatch hb) (fun _ H5 e5 => ?_)
      have e1 := e1.trans e5
      refine q_when (b := false) (t_word rfl (h0.mono e1) (by decide +kernel) (by decide +kernel) (by decide +kernel)) (fun hb => nomatch hb) (fun _ H6 e6 => ?_)
      have e1 := e1.trans e6
      refine q_when (b := false) (t_word rfl (h0.mono e1) (by decide +kernel) (by decide +kernel) (by decide +kernel)) (fun hb => nomatch hb) (fun _ H7 e7 => ?_)
      have e1 := e1.trans e7
      refine q_when (b := false) (t_word rfl (h0.mono e1) (by decide +kernel) (by decide +kernel) (by decide +kernel)) (fun hb => nomatch hb) (fun _ H8 e8 => ?_)
      have e1 := e1.trans e8
      refine q_when (b := false) (t_word rfl (h0.mono e1) (by decide +kernel) (by decide +kernel) (by decide +kernel)) (fun hb => nomatch hb) (fun _ H9 e9 => ?_)
      have e1 := e1.trans e9
      refine s_ret (d_is (d_call (da_cons (d_var rfl (h1.mono e1)) (da_cons d_int (da_cons d_int (da_cons (d_if (d := strsD purposesL) (b := true) (t_word rfl (h0.mono e1) (by decide +kernel) (by decide +kernel) (by decide +kernel)) (fun _ => d_cst (T.da_PURPOSES _)) (fun hb => nomatch hb)) da_nil)))) ⟨ss, 0, 8, purposesL, by omega, rfl, rfl⟩) ?_)
        fun v Hx ex hv => k v Hx (e1.trans ex) hv
      have q : inLot ss 0 8 purposesL = true := hp
      rw [q]
    | uses ss =>
      have h0 : Da K H v0 (.str ("uses" : Str)) := h0
      have hl := lot_len hp
      refine q_when (b := false) (t_word rfl h0 (by decide +kernel) (by decide +kernel) (by decide +kernel)) (fun hb => nomatch hb) (fun _ H1 e1 => ?_)
      refine q_when (b := false) (t_word rfl (h0.mono e1) (by decide +kernel) (by decide +kernel) (by decide +kernel)) (fun hb => nomatch hb) (fun _ H2 e2 => ?_)
      have e1 := e1.trans e2
      refine q_when (b := false) (t_word2 rfl (h0.mono e1) (by decide +kernel)) (fun hb => nomatch hb) (fun _ H3 e3 => ?_)
      have e1 := e1.trans e3
      refine q_when (b := false) (t_word rfl (h0.mono e1) (by decide +kernel) (by decide +kernel) (by decide +kernel)) (fun hb => nomatch hb) (fun _ H4 e4 => ?_)
      have e1 := e1.trans e4
      refine q_when (b := false) (t_word rfl (h0.mono e1) (by decide +kernel) (by decide +kernel) (by decide +kernel)) (fun hb => nomatch hb) (fun _ H5 e5 => ?_)
      have e1 := e1.trans e5
      refine q_when (b := false) (t_word rfl (h0.mono e1) (by decide +kernel) (by decide +kernel) (by decide +kernel)) (fun hb => nomatch hb) (fun _ H6 e6 => ?_)
      have e1 := e1.trans e6
      refine q_when (b := false) (t_word rfl (h0.mono e1) (by decide +kernel) (by decide +kernel) (by decide +kernel)) (fun hb => nomatch hb) (fun _ H7 e7 => ?_)
      have e1 := e1.trans e7
      refine q_when (b := false) (t_word rfl (h0.mono e1) (by decide +kernel) (by decide +kernel) (by decide +kernel)) (fun hb => nomatch hb) (fun _ H8 e8 => ?_)
      have e1 := e1.trans e8
      refine q_when (b := false) (t_word rfl (h0.mono e1) (by decide +kernel) (by decide +kernel) (by decide +kernel)) (fun hb => nomatch hb) (fun _ H9 e9 => ?_)
      have e1 := e1.trans e9
      refine s_ret (d_is (d_call (da_cons (d_var rfl (h1.mono e1)) (da_cons d_int (da_cons d_int (da_cons (d_if (d := strsD usesL) (b := false) (t_word rfl (h0.mono e1) (by decide +kernel) (by decide +kernel) (by decide +kernel)) (fun hb => nomatch hb) (fun _ => d_cst (T.da_USES _))) da_nil)))) ⟨ss, 0, 8, usesL, by omega, rfl, rfl⟩) ?_)
        fun v Hx ex hv => k v Hx (e1.trans ex) hv
      have q : inLot ss 0 8 usesL = true := hp
      rw [q]
end
end DL
/-! whole certificates -/
namespace DL
open PySem PySem.Spec PyProof.Rows L2
section
variable {K : PySem.W.Frag} {σ : L2.St} {H : Hp} {tl te : TE} {ds : List PyData} {j : Nat}
theorem d_mapT (g : PyData → PyData) (h : EvD K tl σ H (.tuple ds)) (hn : ds.length ≤ 40000)
    (he : ∀ (i : Nat) x d H', Ex H H' → ds[i]? = some d → Da K H' x d → EvD K te ((wipe σ [j]).set j (some x)) H' (g d)) (hf : ∀ d ∈ ds, flatL (g d) = true) :
    EvD K (tLc (iTup K tl) (gName j) tYes te [j]) σ H (.list (ds.map g)) := by
  refine d_is (d_lcN (fun _ => true) (fun i => match ds[i]? with | some d => g d | none => .none) (i_tup h) hn (fun _ _ _ _ _ _ => t_yes) (fun i x H' hi e it _ => ?_) (fun i hi _ => ?_)) ?_
  · obtain ⟨d, hd, hx⟩ := it
    rw [hd]
    exact he i x d H' e hd hx
  · have hd : ds[i]? = some ds[i] := List.getElem?_eq_getElem hi
    rw [hd]
    exact hf _ (List.getElem_mem hi)
  · rw [givenD_all _ _ _ fun _ _ => rfl]
    exact congrArg PyData.list (range_at ds (fun o => match o with | some d => g d | none => .none))
theorem d_allT (b : PyData → Bool) (h : EvD K tl σ H (.tuple ds)) (hn : ds.length ≤ 40000)
    (he : ∀ (i : Nat) x d H', Ex H H' → ds[i]? = some d → Da K H' x d → EvD K te ((wipe σ [j]).set j (some x)) H' (.bool (b d))) :
    EvD K (tCB (rAll K) (tCons (tLc (iTup K tl) (gName j) tYes te [j]) tNil)) σ H (.bool (ds.all b)) :=
  d_is (d_all (bs := ds.map b) (d_is (d_mapT (fun d => .bool (b d)) h hn he fun _ _ => rfl) (by rw [List.map_map]; rfl))) (by rw [List.all_map]; rfl)
theorem d_ixv {i : Nat} {v : V} {k : Int} {d : PyData} (h : σ[i]? = some (some v)) (hx : Da K H v (.tuple ds)) (e : atI ds k = some d) : EvD K (tOp (rIxX K) (tVar i) (tC (.int k))) σ H d := d_op (d_var h hx) d_int (rd_ixT e)
end
theorem words_asc (c : Cert) : asc (c.parts.map PV.word) = true := by
  have h1 : ltS "basic" "purposes" = true := by decide +kernel
  have h2 : ltS "purposes" "uses" = true := by decide +kernel
  have h3 : ltS "basic" "uses" = true := by decide +kernel
  unfold Cert.parts
  cases c.basic <;> cases c.purposes <;> cases c.uses <;> simp [asc, PV.word, h1, h2, h3]
theorem parts_len (c : Cert) : c.parts.length ≤ 3 := by
  unfold Cert.parts
  cases c.basic <;> cases c.purposes <;> cases c.uses <;> simp
theorem word_in (p : PV) : decide (p.word ∈ partsL) = true := by
  cases p
  · show decide (("basic" : Str) ∈ partsL) = true
    decide +kernel
  · show decide (("purposes" : Str) ∈ partsL) = true
    decide +kernel
  · show decide (("uses" : Str) ∈ partsL) = true
    decide +kernel
theorem word_len (p : PV) : p.word.length ≤ 1000 := by
  cases p
  · show (("basic" : Str)).length ≤ 1000
    decide +kernel
  · show (("purposes" : Str)).length ≤ 1000
    decide +kernel
  · show (("uses" : Str)).length ≤ 1000
    decide +kernel
section
variable {P : Program} {w : World} {K : PySem.W.Frag} {mg : Str → Option Value} {base : Heap} {A : Ad}
theorem ok_fits_parts (T : Txt K mg A) : FnOk P w K mg base CX0 4 A.a_fits_parts A.f_fits_parts ["value"] (SpD K R_fits_parts) := by
  refine T.d_fits_parts.fn.ok sc_fits_parts (fun vs H Q E h => ?_) (fun cdv AA outer s H vs Q E hr h => ?_)
  · obtain ⟨ds, d, hd, ⟨c, hc, rfl, rfl⟩, k⟩ := h
    exact hd.length
  · obtain ⟨ds, d, hd, ⟨c, hc, rfl, rfl⟩, k⟩ := h
    obtain ⟨v0, rfl, h0⟩ := da1 hd
    have hl := parts_len c
    have hl2 : (c.parts.map pvD).length = c.parts.length := List.length_map _
    have item : ∀ {i : Nat} {d : PyData}, (c.parts.map pvD)[i]? = some d → ∃ p ∈ c.parts, d = .tuple [.str p.word, p.val] := fun {i d} h => by
      obtain ⟨p, hp, e⟩ := List.mem_map.mp (List.mem_of_getElem? h)
      exact ⟨p, hp, e.symm⟩
    refine ⟨_, (pss_cons (ps_if (PW.pt (pw_or (pt_not (pt_val (pe_cl T.d_is_tuple_of (ok_is_tuple_of T) (hr.mono (by decide)) pass0 (pa_cons (pv 0) (pa_cons pe_int (pa_cons (pe_B (k_len (K := K) rfl) T.b_len (pa_cons (pe_gR T.g_PARTS) pa_nil)) pa_nil)))))) (pw_or1 (pt_not (pt_val (pe_B (k_all (K := K) rfl rfl) T.b_all (pa_cons (pe_lc (own := [("part", 1)]) (by rfl) sc_fits_parts.nd (k_ptup (K := K) rfl (pv 0)) (blkOk_by (own := [("part", 1)]) (N := ["value", "part"]) (sc := defScope s_fits_parts) (by decide +kernel)) (fun _ _ _ _ _ => (pg_name (i := 1) sc_fits_parts.nd rfl (Or.inl rfl))) (fun _ _ _ _ _ => pts_nil) (fun _ _ _ _ _ => (pe_cl T.d_is_tuple_of (ok_is_tuple_of T) (hr.mono (by decide)) pass0 (pa_cons (pv 1) (pa_cons pe_int (pa_cons pe_int pa_nil)))))) pa_nil))))))) (pss_one (ps_ret pe_bl)) pss_nil)
    (pss_cons (ps_if (pt_not (pt_val (pe_B (k_all (K := K) rfl rfl) T.b_all (pa_cons (pe_lc (own := [("part", 1)]) (by rfl) sc_fits_parts.nd (k_ptup (K := K) rfl (pv 0)) (blkOk_by (own := [("part", 1)]) (N := ["value", "part"]) (sc := defScope s_fits_parts) (by decide +kernel)) (fun _ _ _ _ _ => (pg_name (i := 1) sc_fits_parts.nd rfl (Or.inl rfl))) (fun _ _ _ _ _ => pts_nil) (fun _ _ _ _ _ => (pe_and (pe_B (k_isi (K := K) rfl) T.b_isinstance (pa_cons (pe_ix (k_ix (K := K) rfl) (pv 1) pe_int (fun _ _ => rfl)) (pa_cons (pe_ty (n := "str") T.b_str) pa_nil))) (pe_and (pe_cmpR (k_in (K := K) rfl) (pe_ix (k_ix (K := K) rfl) (pv 1) pe_int (fun _ _ => rfl)) (pe_gR T.g_PARTS) (by with_unfolding_all rfl)) (pe_one (pe_cl T.d_fits_value (ok_fits_value T) (hr.mono (by decide)) pass0 (pa_cons (pe_ix (k_ix (K := K) rfl) (pv 1) pe_int (fun _ _ => rfl)) (pa_cons (pe_ix (k_ix (K := K) rfl) (pv 1) pe_int (fun _ _ => rfl)) pa_nil)))))))) pa_nil)))) (pss_one (ps_ret pe_bl)) pss_nil)
    (pss_one (ps_ret (pe_cl T.d_is_ascending (ok_is_ascending T) (hr.mono (by decide)) pass0 (pa_cons (pe_T (k_tupof (K := K) rfl) T.b_tuple (pa_cons (pe_lc (own := [("part", 1)]) (by rfl) sc_fits_parts.nd (k_ptup (K := K) rfl (pv 0)) (blkOk_by (own := [("part", 1)]) (N := ["value", "part"]) (sc := defScope s_fits_parts) (by decide +kernel)) (fun _ _ _ _ _ => (pg_name (i := 1) sc_fits_parts.nd rfl (Or.inl rfl))) (fun _ _ _ _ _ => pts_nil) (fun _ _ _ _ _ => (pe_ix (k_ix (K := K) rfl) (pv 1) pe_int (fun _ _ => rfl)))) pa_nil)) pa_nil)))))), ?_⟩
    refine q_when (b := false) (t_is (Evl.et_or (a := false) (b := false) (t_is (Evl.et_not (t_B (d_call (da_cons (d_var rfl h0) (da_cons d_int (da_cons (d_lenT (d_cst (T.da_PARTS _))) da_nil))) ⟨_, _, _, rfl, rfl⟩))) ?_)
      fun _ => t_is (Evl.et_not (t_B (d_allT (fun d => isTup d 2 2) (d_var rfl h0) (by omega) fun i x d H' e hd hx => d_call (da_cons (d_var rfl hx) (da_cons d_int (da_cons d_int da_nil))) ⟨_, _, _, rfl, rfl⟩))) ?_) rfl) (fun hb => nomatch hb) (fun _ H1 e1 => ?_)
    · show (!(decide ((0 : Int) ≤ ((c.parts.map pvD).length : Int)) && decide (((c.parts.map pvD).length : Int) ≤ ((partsL.map PyData.str).length : Int)))) = false
      have q : ((partsL.map PyData.str).length : Int) = 12 := rfl
      rw [q, hl2, decide_eq_true (by omega), decide_eq_true (by omega)]
      rfl
    · rw [List.all_map, List.all_eq_true.mpr (fun p _ => by rfl)]
      rfl
    · refine q_when (b := false) (t_is (Evl.et_not (t_B (d_allT (fun _ => true) (d_var rfl (h0.mono e1)) (by omega) fun i x d H' e hd hx => ?_))) ?_) (fun hb => nomatch hb) (fun _ H2 e2 => ?_)
      · obtain ⟨p, hp, rfl⟩ := item hd
        refine d_is (d_and (d_isi (d_ixv rfl hx rfl) kit_ss) fun _ => d_and (d_op (d_ixv rfl hx rfl) (d_cst (T.da_PARTS _)) rd_inT) fun _ => d_call (da_cons (d_ixv rfl hx rfl) (da_cons (d_ixv rfl hx rfl) da_nil)) ⟨p, hc p hp, rfl, rfl⟩) ?_
        rw [word_in]
        rfl
      · rw [List.all_map, List.all_eq_true.mpr (fun p _ => by rfl)]
        rfl
      · refine s_ret (d_is (d_call (R := R_is_ascending) (da_cons (d_tupleL (d_mapT (fun d => match d with | .tuple [a, _] => a | _ => .none) (d_var rfl (h0.mono (e1.trans e2))) (by omega) (fun i x d H' e hd hx => ?_) ?_)) da_nil) ⟨c.parts.map PV.word, by rw [List.length_map]; omega, ?_, rfl⟩) ?_) (fun v H3 e3 hv => k v H3 ((e1.trans e2).trans e3) hv)
        · obtain ⟨p, hp, rfl⟩ := item hd
          exact d_op (d_var rfl hx) d_int (rd_ixT rfl)
        · intro d hd
          obtain ⟨p, hp, rfl⟩ := List.mem_map.mp hd
          rfl
        · rw [List.map_map]
          show [PyData.tuple _] = [PyData.tuple _]
          rw [List.map_map]
          rfl
        · rw [words_asc]
end
end DL
/-! certificates: whole, their parts -/
namespace DL
open PySem PySem.Spec PyProof.Rows L2
theorem valV_merge (k : Key) : ∀ (more acc : List (Key × V)), valV (mergeK acc more) k = more.foldl (fun a kv => if k = kv.1 then some kv.2 else a) (valV acc k)
  | [], acc => rfl
  | kv :: more, acc => by
    have ih := valV_merge k more (putK acc kv.1 kv.2)
    rw [valV_put] at ih
    exact ih
section
variable {K : PySem.W.Frag} {σ : L2.St} {H : Hp} {tl te tw : TE} {ds : List PyData} {j : Nat}
theorem parts_kvs : ∀ (qs : List PV) (xs : List V), DaAll K H xs (qs.map pvD) → ∃ (ps : List Addr) (kvs : List (Key × V)), xs = ps.map V.ref ∧ Paired (fun (p : Addr) (kv : Key × V) => SqT K H p [kV kv.1, kv.2]) ps kvs ∧
    Paired (fun (kv : Key × V) (q : PV) => kv.1 = Sum.inr q.word ∧ Da K H kv.2 q.val) kvs qs
  | [], xs, h => by
    cases h
    exact ⟨[], [], rfl, .nil, .nil⟩
  | q :: qs, xs, h => by
    cases h with
    | cons h1 h2 =>
      obtain ⟨ps, kvs, rfl, p1, p2⟩ := parts_kvs qs _ h2
      cases h1 with
      | @tup a ys _ hs ha =>
        obtain ⟨x, y, rfl, hx, hy⟩ := da2 ha
        cases hx
        exact ⟨a :: ps, (Sum.inr q.word, y) :: kvs, rfl, .cons hs p1, .cons ⟨rfl, hy⟩ p2⟩
def RelOD (K : PySem.W.Frag) (H : Hp) : Option V → Option PyData → Prop
  | some v, some d => Da K H v d
  | none, none => True
  | _, _ => False
theorem fold_rel (wd : Str) : ∀ {kvs : List (Key × V)} {qs : List PV} (a : Option V) (d : Option PyData), Paired (fun (kv : Key × V) (q : PV) => kv.1 = Sum.inr q.word ∧ Da K H kv.2 q.val) kvs qs → RelOD K H a d →
    RelOD K H (kvs.foldl (fun a kv => if (Sum.inr wd : Key) = kv.1 then some kv.2 else a) a) (qs.foldl (fun a q => if wd = q.word then some q.val else a) d) := by
  intro kvs qs a d p
  induction p generalizing a d with
  | nil => exact fun h => h
  | @cons kv q kvs qs r t ih =>
    intro h
    refine ih _ _ ?_
    show RelOD K H (if (Sum.inr wd : Key) = kv.1 then some kv.2 else a) (if wd = q.word then some q.val else d)
    by_cases e : wd = q.word
    · rw [if_pos e, if_pos (by rw [r.1, e])]
      exact r.2
    · rw [if_neg e, if_neg (fun z => e (Sum.inr.inj (z.trans r.1)))]
      exact h
theorem basic_fold (c : Cert) : c.parts.foldl (fun a q => if ("basic" : Str) = q.word then some q.val else a) none = (match c.basic with | some (h, d) => some (.tuple [.bool h, .int d]) | none => none) := by
  have h1 : ¬ (("basic" : Str) = "purposes") := by decide +kernel
  have h2 : ¬ (("basic" : Str) = "uses") := by decide +kernel
  unfold Cert.parts
  cases c.basic <;> cases c.purposes <;> cases c.uses <;> simp [PV.word, PV.val, h1, h2]
theorem d_getbasic {c : Cert} (h : EvD K te σ H (partsD c.parts)) (hw : EvD K tw σ H (.str "basic")) :
    EvD K (tDGet2 (tCB (rDictP K) (tCons (tCB (rListOf K) (tCons te tNil)) tNil)) tw (tC .non)) σ H c.basicD := fun H1 e Q q =>
  h H1 e _ fun v H2 e2 hv => by
    cases hv with
    | @tup a xs _ hs ha =>
      refine ⟨a, xs, rfl, .inr hs, fun l hl => ?_⟩
      have e3 : Ex H2 (upd H2 l (.lst xs)) := Evl.Ex.new hl
      obtain ⟨ps, kvs, rfl, p1, p2⟩ := parts_kvs c.parts xs ha
      refine ⟨l, ps, kvs, rfl, SqL.of upd_same, Paired.mapP p1 (fun _ _ z => Evl.ex_t e3 z), fun p hp => ?_⟩
      have e4 : Ex H2 (upd (upd H2 l (.lst (ps.map V.ref))) p (.dK (mergeK [] kvs))) := e3.trans (Evl.Ex.new hp)
      refine ⟨p, rfl, .inl ⟨_, .inl upd_same⟩, hw _ ((e.trans e2).trans e4) _ fun y H5 e5 hy => ?_⟩
      cases hy
      refine ⟨_, DGet.k (k := Sum.inr ("basic" : Str)) (e5 _ _ upd_same), ?_⟩
      have r := fold_rel "basic" none none p2 True.intro
      rw [basic_fold, show none = valV ([] : List (Key × V)) (Sum.inr ("basic" : Str)) from rfl, ← valV_merge] at r
      refine q _ H5 (e2.trans (e4.trans e5)) ?_
      unfold Cert.basicD
      cases hb : c.basic with
      | none =>
        rw [hb] at r
        cases hv : valV (mergeK [] kvs) (Sum.inr ("basic" : Str)) with
        | none => exact .non
        | some z => rw [hv] at r; exact r.elim
      | some b =>
        rw [hb] at r
        cases hv : valV (mergeK [] kvs) (Sum.inr ("basic" : Str)) with
        | none => rw [hv] at r; exact r.elim
        | some z => rw [hv] at r; exact (Da.mono r (e4.trans e5))
end
section
variable {P : Program} {w : World} {K : PySem.W.Frag} {mg : Str → Option Value} {base : Heap} {A : Ad}
theorem ok_part_in (T : Txt K mg A) : FnOk P w K mg base CX0 1 A.a_part_in A.f_part_in ["certificate", "word"] (SpD K R_part_in) := by
  refine T.d_part_in.fn.ok sc_part_in (fun vs H Q E h => ?_) (fun cdv AA outer s H vs Q E hr h => ?_)
  · obtain ⟨ds, d, hd, ⟨c, rfl, rfl⟩, k⟩ := h
    exact hd.length
  · obtain ⟨ds, d, hd, ⟨c, rfl, rfl⟩, k⟩ := h
    obtain ⟨v0, v1, rfl, h0, h1⟩ := da2 hd
    have hu := hu_of hr
    refine ⟨_, (pss_one (ps_ret (pe_dget2 hu (pe_T (k_dictp (K := K) rfl rfl) T.b_dict (pa_cons (pe_T (k_listof (K := K) rfl) T.b_list (pa_cons (pe_ix (k_ix (K := K) rfl) (pv 0) pe_int (fun _ _ => rfl)) pa_nil)) pa_nil)) (pv 1) pe_non ⟨by rfl, by rfl, by rfl, by rfl⟩))), ?_⟩
    exact s_ret (d_getbasic (d_ixv rfl h0 rfl) (d_var rfl h1)) k
theorem ok_depth_in (T : Txt K mg A) : FnOk P w K mg base CX0 2 A.a_depth_in A.f_depth_in ["certificate"] (SpD K R_depth_in) := by
  refine T.d_depth_in.fn.ok sc_depth_in (fun vs H Q E h => ?_) (fun cdv AA outer s H vs Q E hr h => ?_)
  · obtain ⟨ds, d, hd, ⟨c, rfl, rfl⟩, k⟩ := h
    exact hd.length
  · obtain ⟨ds, d, hd, ⟨c, rfl, rfl⟩, k⟩ := h
    obtain ⟨v0, rfl, h0⟩ := da1 hd
    refine ⟨_, (pss_cons (ps_set (i := 1) sc_depth_in.nd rfl (Or.inl rfl) (pe_cl T.d_part_in (ok_part_in T) (hr.mono (by decide)) pass0 (pa_cons (pv 0) (pa_cons pe_str pa_nil))))
    (pss_one (ps_ret (pe_ifExp (pt_cmpR op_notNX (pv 1) pe_non (nomark _)) (pe_ix (k_ix (K := K) rfl) (pv 1) pe_int (fun _ _ => rfl)) (pe_un un_neg pe_int))))), ?_⟩
    refine q_asg (d_call (da_cons (d_var rfl h0) (da_cons d_str da_nil)) ⟨c, rfl, rfl⟩) fun v H1 e1 hv => ?_
    refine s_ret (d_if (b := !isNone c.basicD) (t_test (d_op (d_var rfl hv) d_non rd_notN)) (fun hb => ?_) fun hb => ?_) fun v H2 e2 hv => k v H2 (e1.trans e2) hv
    · unfold Cert.basicD at hv hb
      unfold Cert.depth
      cases hc : c.basic with
      | none => rw [hc] at hb; cases hb
      | some b =>
        rw [hc] at hv
        exact d_ixv rfl hv rfl
    · unfold Cert.basicD at hb
      unfold Cert.depth
      cases hc : c.basic with
      | none => exact d_neg d_int
      | some b => rw [hc] at hb; cases hb
theorem ok_is_own_issuer (T : Txt K mg A) : FnOk P w K mg base CX0 1 A.a_is_own_issuer A.f_is_own_issuer ["certificate"] (SpD K R_is_own_issuer) := by
  refine T.d_is_own_issuer.fn.ok sc_is_own_issuer (fun vs H Q E h => ?_) (fun cdv AA outer s H vs Q E hr h => ?_)
  · obtain ⟨ds, d, hd, ⟨c, hc, rfl, rfl⟩, k⟩ := h
    exact hd.length
  · obtain ⟨ds, d, hd, ⟨c, hc, rfl, rfl⟩, k⟩ := h
    obtain ⟨v0, rfl, h0⟩ := da1 hd
    have hu64 := hr.units
    refine ⟨_, (pss_one (ps_ret (pe_cmpR (k_eq (K := K) rfl hu64) (pe_ix (k_ix (K := K) rfl) (pv 0) pe_int (fun _ _ => rfl)) (pe_ix (k_ix (K := K) rfl) (pv 0) pe_int (fun _ _ => rfl)) (nomark _)))), ?_⟩
    refine s_ret (d_is (d_op (d_ixv rfl h0 rfl) (d_ixv rfl h0 rfl) (rd_eq (shaped_strs fun x hx => strOk_good (good_all hc.issuer x hx)) (shaped_strs fun x hx => strOk_good (good_all hc.subject x hx)))) ?_) k
    rw [eqv_strs]
    rfl
theorem t_good {σ : L2.St} {H : Hp} {t : TT} {b : Bool} (h : EvT t σ H b) (e : b = true) : EvT (tNot t) σ H false := t_is (Evl.et_not h) (by rw [e]; rfl)
theorem ok_fits_certificate (T : Txt K mg A) : FnOk P w K mg base CX0 5 A.a_fits_certificate A.f_fits_certificate ["value"] (SpD K R_fits_certificate) := by
  refine T.d_fits_certificate.fn.ok sc_fits_certificate (fun vs H Q E h => ?_) (fun cdv AA outer s H vs Q E hr h => ?_)
  · obtain ⟨ds, d, hd, ⟨c, hc, rfl, rfl⟩ | ⟨l, hl, rfl, rfl⟩, k⟩ := h
    · exact hd.length
    · exact hd.length
  · obtain ⟨ds, d, hd, hR, k⟩ := h
    refine ⟨_, (pss_cons (ps_if (PW.pt (pw_or (pt_not (pt_val (pe_cl T.d_is_tuple_of (ok_is_tuple_of T) (hr.mono (by decide)) pass0 (pa_cons (pv 0) (pa_cons pe_int (pa_cons pe_int pa_nil)))))) (pw_or1 (pt_not (pt_val (pe_cl T.d_is_whole (ok_is_whole T) (hr.mono (by decide)) pass0 (pa_cons (pe_ix (k_ix (K := K) rfl) (pv 0) pe_int (fun _ _ => rfl)) (pa_cons pe_int (pa_cons (pe_gI T.g_SERIALS) pa_nil))))))))) (pss_one (ps_ret pe_bl)) pss_nil)
    (pss_cons (ps_if (PW.pt (pw_or (pt_not (pt_val (pe_cl T.d_fits_name (ok_fits_name T) (hr.mono (by decide)) pass0 (pa_cons (pe_ix (k_ix (K := K) rfl) (pv 0) pe_int (fun _ _ => rfl)) pa_nil)))) (pw_or1 (pt_not (pt_val (pe_cl T.d_fits_name (ok_fits_name T) (hr.mono (by decide)) pass0 (pa_cons (pe_ix (k_ix (K := K) rfl) (pv 0) pe_int (fun _ _ => rfl)) pa_nil))))))) (pss_one (ps_ret pe_bl)) pss_nil)
    (pss_cons (ps_if (pt_not (pt_val (pe_B (k_all (K := K) rfl rfl) T.b_all (pa_cons (pe_lc (own := [("at", 1)]) (by rfl) sc_fits_certificate.nd (k_ptup (K := K) rfl (pe_tup (pa_cons pe_int (pa_cons pe_int (pa_cons pe_int pa_nil))))) (blkOk_by (own := [("at", 1)]) (N := ["value", "at"]) (sc := defScope s_fits_certificate) (by decide +kernel)) (fun _ _ _ _ _ => (pg_name (i := 1) sc_fits_certificate.nd rfl (Or.inl rfl))) (fun _ _ _ _ _ => pts_nil) (fun _ _ _ _ _ => (pe_cl T.d_is_whole (ok_is_whole T) (hr.mono (by decide)) pass0 (pa_cons (pe_ix (k_ix (K := K) rfl) (pv 0) (pv 1) (fun _ _ => rfl)) (pa_cons pe_int (pa_cons (pe_gI T.g_KEYS) pa_nil)))))) pa_nil)))) (pss_one (ps_ret pe_bl)) pss_nil)
    (pss_one (ps_ret (pe_and (pe_cl T.d_is_whole (ok_is_whole T) (hr.mono (by decide)) pass0 (pa_cons (pe_ix (k_ix (K := K) rfl) (pv 0) pe_int (fun _ _ => rfl)) (pa_cons pe_int (pa_cons (pe_gI T.g_TIMES) pa_nil)))) (pe_and (pe_cl T.d_is_whole (ok_is_whole T) (hr.mono (by decide)) pass0 (pa_cons (pe_ix (k_ix (K := K) rfl) (pv 0) pe_int (fun _ _ => rfl)) (pa_cons (pe_ix (k_ix (K := K) rfl) (pv 0) pe_int (fun _ _ => rfl)) (pa_cons (pe_gI T.g_TIMES) pa_nil)))) (pe_one (pe_cl T.d_fits_parts (ok_fits_parts T) (hr.mono (by decide)) pass0 (pa_cons (pe_ix (k_ix (K := K) rfl) (pv 0) pe_int (fun _ _ => rfl)) pa_nil)))))))))), ?_⟩
    rcases hR with ⟨c, hc, rfl, rfl⟩ | ⟨l, hl, rfl, rfl⟩
    · obtain ⟨v0, rfl, h0⟩ := da1 hd
      refine q_when (b := false) (t_is (Evl.et_or (a := false) (b := false) (t_good (t_B (d_call (da_cons (d_var rfl h0) (da_cons d_int (da_cons d_int da_nil))) ⟨_, _, _, rfl, rfl⟩)) rfl)
        fun _ => t_good (t_B (d_call (da_cons (d_ixv rfl h0 rfl) (da_cons d_int (da_cons d_int da_nil))) ⟨_, _, _, rfl, rfl⟩)) hc.serial) rfl) (fun hb => nomatch hb) (fun _ H1 e1 => ?_)
      have h1 := h0.mono e1
      refine q_when (b := false) (t_is (Evl.et_or (a := false) (b := false) (t_good (t_B (d_call (da_cons (d_ixv rfl h1 rfl) da_nil) ⟨_, good_bounds hc.issuer, rfl, rfl⟩)) hc.issuer)
        fun _ => t_good (t_B (d_call (da_cons (d_ixv rfl h1 rfl) da_nil) ⟨_, good_bounds hc.subject, rfl, rfl⟩)) hc.subject) rfl) (fun hb => nomatch hb) (fun _ H2 e2 => ?_)
      have h2 := h1.mono e2
      refine q_when (b := false) (t_good (t_B (d_allT (ds := [.int 3, .int 4, .int 8]) (fun _ => true) (d_tup (da_cons d_int (da_cons d_int (da_cons d_int da_nil))) (by decide)) (by decide) fun i x d H' e hd hx => ?_)) rfl) (fun hb => nomatch hb) (fun _ H3 e3 => ?_)
      · have hd' : d = .int 3 ∨ d = .int 4 ∨ d = .int 8 := by
          have := List.mem_of_getElem? hd
          simpa using this
        rcases hd' with rfl | rfl | rfl
        · exact d_is (d_call (da_cons (d_op (d_var rfl (h2.mono e)) (d_var rfl hx) (rd_ixT rfl)) (da_cons d_int (da_cons d_int da_nil))) ⟨_, _, _, rfl, rfl⟩) (by rw [hc.key])
        · exact d_is (d_call (da_cons (d_op (d_var rfl (h2.mono e)) (d_var rfl hx) (rd_ixT rfl)) (da_cons d_int (da_cons d_int da_nil))) ⟨_, _, _, rfl, rfl⟩) (by rw [hc.sealer])
        · exact d_is (d_call (da_cons (d_op (d_var rfl (h2.mono e)) (d_var rfl hx) (rd_ixT rfl)) (da_cons d_int (da_cons d_int da_nil))) ⟨_, _, _, rfl, rfl⟩) (by rw [hc.stampN])
      · have h3 := h2.mono e3
        refine s_ret (d_is (d_and (d_call (da_cons (d_ixv rfl h3 rfl) (da_cons d_int (da_cons d_int da_nil))) ⟨_, _, _, rfl, rfl⟩) fun _ => d_and (d_call (da_cons (d_ixv rfl h3 rfl) (da_cons (d_ixv rfl h3 rfl) (da_cons d_int da_nil))) ⟨_, _, _, rfl, rfl⟩)
          fun _ => d_call (da_cons (d_ixv rfl h3 rfl) da_nil) ⟨c, hc.parts, rfl, rfl⟩) ?_) (fun v H4 e4 hv => k v H4 (((e1.trans e2).trans e3).trans e4) hv)
        rw [hc.since, hc.til]
        rfl
    · obtain ⟨v0, rfl, h0⟩ := da1 hd
      refine q_when (b := true) (t_is (Evl.et_or (a := true) (b := false) (t_is (Evl.et_not (t_B (d_call (da_cons (d_var rfl h0) (da_cons d_int (da_cons d_int da_nil))) ⟨_, _, _, rfl, rfl⟩))) ?_) (fun hb => nomatch hb)) rfl) (fun _ H1 e1 => ?_) (fun hb => nomatch hb)
      · show (!(decide ((9 : Int) ≤ (l.length : Int)) && decide ((l.length : Int) ≤ 9))) = true
        by_cases h9 : (9 : Int) ≤ (l.length : Int)
        · rw [decide_eq_true h9, decide_eq_false (by omega)]
          rfl
        · rw [decide_eq_false h9]
          rfl
      · exact s_ret (K := K) d_bl fun v H2 e2 hv => k v H2 (e1.trans e2) hv
end
end DL
/-! chains, depths -/
namespace DL
open PySem PySem.Spec PyProof.Rows L2
/-! ### promises of defs that may raise -/
def SpX (K : PySem.W.Frag) (R : List PyData → PyData → Prop) (RE : List PyData → Value → Prop) : Sp := fun vs H Q E => ∃ ds, DaAll K H vs ds ∧ ((∃ d, R ds d ∧ ∀ v H', Ex H H' → Da K H' v d → Q v H') ∨ (∃ cls, RE ds cls ∧ ∀ H', Ex H H' → E cls none H'))
section
variable {K : PySem.W.Frag} {σ : L2.St} {H : Hp} {tl te tw : TE} {ds : List PyData} {d : PyData} {j : Nat} {D : Ends} {tz tb : TS}
theorem d_callX {R : List PyData → PyData → Prop} {RE : List PyData → Value → Prop} {E : XK} {tr : TA} (h : EvAD K tr σ H ds) (hR : R ds d) : EvD K (tCall (SpX K R RE) [] E tr) σ H d := fun H1 e Q q =>
  h H1 e _ fun vs H2 e2 hv => ⟨ds, by rw [List.append_nil]; exact hv, .inl ⟨d, hR, fun v H' e3 hv' => q v H' (e2.trans e3) hv'⟩⟩
/-- it raises -/
theorem x_call {R : List PyData → PyData → Prop} {RE : List PyData → Value → Prop} {E : XK} {tr : TA} {cls : Value} (h : EvAD K tr σ H ds) (hR : RE ds cls) (k : ∀ H', Ex H H' → E cls none H') (Q : VK) : tCall (SpX K R RE) [] E tr σ H Q :=
  h H (Evl.Ex.refl H) _ fun vs H2 e2 hv => ⟨ds, by rw [List.append_nil]; exact hv, .inr ⟨cls, hR, fun H' e3 => k H' (e2.trans e3)⟩⟩
theorem q_drop (h : EvD K te σ H d) (k : ∀ H1, Ex H H1 → tz D σ H1) : tSeq (tDrop te) tz D σ H := h H (Evl.Ex.refl H) _ fun _ H1 e _ => k H1 e
theorem q_dropX {R : List PyData → PyData → Prop} {RE : List PyData → Value → Prop} {E : XK} {tr : TA} {cls : Value} (h : EvAD K tr σ H ds) (hR : RE ds cls) (k : ∀ H', Ex H H' → E cls none H') : tSeq (tDrop (tCall (SpX K R RE) [] E tr)) tz D σ H := x_call h hR k _
theorem q_par {i j : Nat} {tr : TA} {d e : PyData} (h : EvAD K tr σ H [d, e]) (k : ∀ v w H1, Ex H H1 → Da K H1 v d → Da K H1 w e → tz D ((σ.set i (some v)).set j (some w)) H1) : tSeq (tPar i j tr) tz D σ H :=
  h H (Evl.Ex.refl H) _ fun vs H1 e1 hv => by
    obtain ⟨v, w, rfl, h1, h2⟩ := da2 hv
    exact ⟨v, w, rfl, k v w H1 e1 h1 h2⟩
/-- a for: Pv by the turn, the slots and the heap -/
theorem q_for {wi : TI} {g : TG} {n : Nat} {item : Nat → V → Hp → Prop} (hi : EvI wi σ H n item) (Pv : Nat → L2.St → Hp → Prop) (h0 : ∀ H1, Ex H H1 → Pv 0 σ H1)
    (hs : ∀ (Hb : Hp) i x σ' H0 H', Ex H Hb → i < n → Ex Hb H0 → Pv i σ' H0 → Ex H0 H' → item i x H' → g x σ' H' fun σ2 H2 => tb { D with nx := fun σ3 H3 => Ex Hb H3 ∧ Pv (i + 1) σ3 H3, ct := fun σ3 H3 => Ex Hb H3 ∧ Pv (i + 1) σ3 H3, bk := tz D } σ2 H2)
    (hd : ∀ σ' H', Ex H H' → Pv n σ' H' → tz D σ' H') : tSeq (tFor wi g tb) tz D σ H :=
  hi H (Evl.Ex.refl H) _ fun J H2 e2 W => for_it (D := { D with nx := tz D }) W (fun i σ' H' => Ex H2 H' ∧ Pv i σ' H') ⟨Evl.Ex.refl H2, h0 H2 e2⟩ (fun _ _ _ _ p => p.1)
    (fun i x σ' H0 H' hin p y => hs H2 i x σ' H0 H' e2 hin p.1 p.2 y.1 y.2) (fun σ' H' p => hd σ' H' (e2.trans p.1) p.2)
end
/-! ### the mirror -/
structure chainOk (cs : List Cert) : Prop where
  lo : 1 ≤ cs.length
  hi : cs.length ≤ 8
  all : ∀ c ∈ cs, c.ok
def badChain (x : PyData) : Prop := isTup x 1 8 = false ∨ ∃ (c : Cert) (l : List PyData), c.ok ∧ l.length ≠ 9 ∧ x = .tuple [certD c, .tuple l]
def ownAt (cs : List Cert) (j : Int) : Bool := match cs[j.toNat]? with
  | some c => c.own
  | none => true
def countsL (cs : List Cert) (p e : Int) : List Int := ((List.range (e - (p + 1)).toNat).filter fun (i : Nat) => !ownAt cs (p + 1 + (i : Int))).map fun (i : Nat) => p + 1 + (i : Int)
def lesserI (a b : Int) : Int := if a = -1 ∨ b = -1 then max a b else min a b
def leftB (l : Int) (c : Cert) : Int := if c.own = false ∧ l = 0 then -2 else lesserI (if c.own = false ∧ 0 < l then l - 1 else l) c.depth
def leftGo : Int → List Cert → List Int
  | _, [] => []
  | l, c :: r => if l = -2 then leftGo l r else leftB l c :: leftGo (leftB l c) r
def leftL (d : Int) (cs : List Cert) : List Int := leftGo d cs.dropLast
abbrev intsD (ns : List Int) : PyData := .list (ns.map PyData.int)
def R_fits_chain : List PyData → PyData → Prop := fun ds d => (∃ cs, chainOk cs ∧ ds = [chainD cs] ∧ d = .bool true) ∨ ∃ x, badChain x ∧ ds = [x] ∧ d = .bool false
def R_need_chain : List PyData → PyData → Prop := fun ds d => ∃ cs, chainOk cs ∧ ds = [chainD cs] ∧ d = .none
def RE_need_chain (C : Addr) : List PyData → Value → Prop := fun ds e => ∃ x, badChain x ∧ ds = [x] ∧ e = .ref C
def R_need_depth : List PyData → PyData → Prop := fun ds d => ∃ x, isWhole x (-1) 8 = true ∧ ds = [x] ∧ d = .none
def RE_need_depth (C : Addr) : List PyData → Value → Prop := fun ds e => ∃ x, isWhole x (-1) 8 = false ∧ ds = [x] ∧ e = .ref C
def R_counted_in : List PyData → PyData → Prop := fun ds d => ∃ (cs : List Cert) (p : Int), chainOk cs ∧ -1 ≤ p ∧ p ≤ 8 ∧ ds = [chainD cs, .int p] ∧ d = intsD (countsL cs p ((cs.length : Int) - 1))
def R_lesser : List PyData → PyData → Prop := fun ds d => ∃ a b : Int, ds = [.int a, .int b] ∧ d = .int (lesserI a b)
def R_left_behind : List PyData → PyData → Prop := fun ds d => ∃ (l : Int) (c : Cert), c.ok ∧ ds = [.int l, certD c] ∧ d = .int (leftB l c)
def R_left_in : List PyData → PyData → Prop := fun ds d => ∃ (l : Int) (cs : List Cert), chainOk cs ∧ ds = [.int l, chainD cs] ∧ d = intsD (leftL l cs)
def R_left_row : List PyData → PyData → Prop := fun ds d => ∃ (l : Int) (cs : List Cert), -1 ≤ l ∧ l ≤ 8 ∧ chainOk cs ∧ ds = [.int l, chainD cs] ∧ d = intsD (leftL l cs)
def RE_left_row (CN CC : Addr) : List PyData → Value → Prop := fun ds e => (∃ x y, isWhole x (-1) 8 = false ∧ ds = [x, y] ∧ e = .ref CN) ∨ ∃ (l : Int) (y : PyData), -1 ≤ l ∧ l ≤ 8 ∧ badChain y ∧ ds = [.int l, y] ∧ e = .ref CC
def R_counted_behind : List PyData → PyData → Prop := fun ds d => ∃ (cs : List Cert) (p : Int), chainOk cs ∧ -1 ≤ p ∧ p ≤ (cs.length : Int) - 1 ∧ ds = [chainD cs, .int p] ∧ d = intsD (countsL cs p ((cs.length : Int) - 1))
def RE_counted_behind (CN CC : Addr) : List PyData → Value → Prop := fun ds e => (∃ x y, badChain x ∧ ds = [x, y] ∧ e = .ref CC) ∨ ∃ (cs : List Cert) (y : PyData), chainOk cs ∧ isWhole y (-1) ((cs.length : Int) - 1) = false ∧ ds = [chainD cs, y] ∧ e = .ref CN
theorem chain_len (cs : List Cert) : (cs.map certD).length = cs.length := List.length_map _
theorem isTup_chain (cs : List Cert) (h : chainOk cs) : isTup (chainD cs) 1 8 = true := by
  show (decide ((1 : Int) ≤ ((cs.map certD).length : Int)) && decide (((cs.map certD).length : Int) ≤ 8)) = true
  have h1 := h.lo
  have h2 := h.hi
  rw [chain_len, decide_eq_true (by omega), decide_eq_true (by omega)]
  rfl
def nine : PyData → Bool
  | .tuple l => decide (l.length = 9)
  | _ => false
section
variable {P : Program} {w : World} {K : PySem.W.Frag} {mg : Str → Option Value} {base : Heap} {A : Ad}
theorem ok_fits_chain (T : Txt K mg A) : FnOk P w K mg base CX0 6 A.a_fits_chain A.f_fits_chain ["value"] (SpD K R_fits_chain) := by
  refine T.d_fits_chain.fn.ok sc_fits_chain (fun vs H Q E h => ?_) (fun cdv AA outer s H vs Q E hr h => ?_)
  · obtain ⟨ds, d, hd, ⟨cs, hc, rfl, rfl⟩ | ⟨x, hx, rfl, rfl⟩, k⟩ := h
    · exact hd.length
    · exact hd.length
  · obtain ⟨ds, d, hd, hR, k⟩ := h
    refine ⟨_, (pss_one (ps_ret (pe_and (pe_cl T.d_is_tuple_of (ok_is_tuple_of T) (hr.mono (by decide)) pass0 (pa_cons (pv 0) (pa_cons pe_int (pa_cons (pe_gI T.g_LONGEST_chains) pa_nil)))) (pe_one (pe_B (k_all (K := K) rfl rfl) T.b_all (pa_cons (pe_lc (own := [("own", 1)]) (by rfl) sc_fits_chain.nd (k_ptup (K := K) rfl (pv 0)) (blkOk_by (own := [("own", 1)]) (N := ["value", "own"]) (sc := defScope s_fits_chain) (by decide +kernel)) (fun _ _ _ _ _ => (pg_name (i := 1) sc_fits_chain.nd rfl (Or.inl rfl))) (fun _ _ _ _ _ => pts_nil) (fun _ _ _ _ _ => (pe_cl T.d_fits_certificate (ok_fits_certificate T) (hr.mono (by decide)) pass0 (pa_cons (pv 1) pa_nil)))) pa_nil)))))), ?_⟩
    rcases hR with ⟨cs, hc, rfl, rfl⟩ | ⟨x, hx, rfl, rfl⟩
    · obtain ⟨v0, rfl, h0⟩ := da1 hd
      have h8 := hc.hi
      refine s_ret (d_is (d_and (d_call (da_cons (d_var rfl h0) (da_cons d_int (da_cons d_int da_nil))) ⟨_, _, _, rfl, rfl⟩) fun _ => d_allT (fun _ => true) (d_var rfl h0) (by rw [chain_len]; omega) fun i x d H' e hd hx => ?_) ?_) k
      · obtain ⟨c, hcm, rfl⟩ := List.mem_map.mp (List.mem_of_getElem? hd)
        exact d_call (da_cons (d_var rfl hx) da_nil) (.inl ⟨c, hc.all c hcm, rfl, rfl⟩)
      · rw [isTup_chain cs hc, List.all_eq_true.mpr (fun _ _ => rfl)]
        rfl
    · obtain ⟨v0, rfl, h0⟩ := da1 hd
      refine s_ret (d_is (d_and (b := false) (d_call (da_cons (d_var rfl h0) (da_cons d_int (da_cons d_int da_nil))) ⟨_, _, _, rfl, rfl⟩) fun hb => ?_) (by rw [Bool.and_false])) k
      rcases hx with hx | ⟨c, l, hc, hl, rfl⟩
      · rw [hx] at hb
        cases hb
      · refine d_is (d_allT nine (d_var rfl h0) (show 2 ≤ 40000 by decide) fun i x d H' e hd hx => ?_) ?_
        · have hd' : d = certD c ∨ d = .tuple l := by simpa using List.mem_of_getElem? hd
          rcases hd' with rfl | rfl
          · exact d_call (da_cons (d_var rfl hx) da_nil) (.inl ⟨c, hc, rfl, rfl⟩)
          · exact d_call (da_cons (d_var rfl hx) da_nil) (.inr ⟨l, hl, rfl, by show PyData.bool (decide (l.length = 9)) = _; rw [decide_eq_false hl]⟩)
        · show PyData.bool (nine (certD c) && (decide (l.length = 9) && true)) = _
          rw [decide_eq_false hl, Bool.false_and, Bool.and_false]
theorem ok_need_chain (T : Txt K mg A) : FnOk P w K mg base (L2.CX P w) 7 A.a_need_chain A.f_need_chain ["value"] (SpX K R_need_chain (RE_need_chain A.a_InvalidChain)) := by
  refine T.d_need_chain.fn.okX sc_need_chain (fun vs H Q E h => ?_) (fun cdv AA outer s H vs Q E hr h => ?_)
  · obtain ⟨ds, hd, ⟨d, ⟨cs, hc, rfl, rfl⟩, k⟩ | ⟨cls, ⟨x, hx, rfl, rfl⟩, k⟩⟩ := h
    · exact hd.length
    · exact hd.length
  · obtain ⟨ds, hd, hR⟩ := h
    refine ⟨_, (pss_one (ps_if (pt_not (pt_val (pe_cl T.d_fits_chain (ok_fits_chain T) (hr.mono (by decide)) pass0 (pa_cons (pv 0) pa_nil)))) (pss_one (ps_raise rfl (takes_of rfl rfl rfl rfl) (pmk_own PySem.F.excBase_ValueError T.e_InvalidChain.ex T.e_InvalidChain.g T.e_InvalidChain.kp (raises_own T.e_InvalidChain.sb T.e_InvalidChain.ty) rfl))) pss_nil)), ?_⟩
    rcases hR with ⟨d, ⟨cs, hc, rfl, rfl⟩, k⟩ | ⟨cls, ⟨x, hx, rfl, rfl⟩, k⟩
    · obtain ⟨v0, rfl, h0⟩ := da1 hd
      exact s_if (b := false) (t_is (Evl.et_not (t_B (d_call (da_cons (d_var rfl h0) da_nil) (.inl ⟨cs, hc, rfl, rfl⟩)))) rfl) (fun hb => nomatch hb) (fun _ H1 e1 => k .non H1 e1 .non)
    · obtain ⟨v0, rfl, h0⟩ := da1 hd
      exact s_if (b := true) (t_is (Evl.et_not (t_B (d_call (da_cons (d_var rfl h0) da_nil) (.inr ⟨x, hx, rfl, rfl⟩)))) rfl) (fun _ H1 e1 => k H1 e1) (fun hb => nomatch hb)
theorem ok_need_depth (T : Txt K mg A) : FnOk P w K mg base (L2.CX P w) 2 A.a_need_depth A.f_need_depth ["value"] (SpX K R_need_depth (RE_need_depth A.a_InvalidNumber)) := by
  refine T.d_need_depth.fn.okX sc_need_depth (fun vs H Q E h => ?_) (fun cdv AA outer s H vs Q E hr h => ?_)
  · obtain ⟨ds, hd, ⟨d, ⟨x, hx, rfl, rfl⟩, k⟩ | ⟨cls, ⟨x, hx, rfl, rfl⟩, k⟩⟩ := h
    · exact hd.length
    · exact hd.length
  · obtain ⟨ds, hd, hR⟩ := h
    refine ⟨_, (pss_one (ps_if (pt_not (pt_val (pe_cl T.d_is_whole (ok_is_whole T) (hr.mono (by decide)) pass0 (pa_cons (pv 0) (pa_cons (pe_un un_neg pe_int) (pa_cons (pe_gI T.g_DEPTH) pa_nil)))))) (pss_one (ps_raise rfl (takes_of rfl rfl rfl rfl) (pmk_own PySem.F.excBase_ValueError T.e_InvalidNumber.ex T.e_InvalidNumber.g T.e_InvalidNumber.kp (raises_own T.e_InvalidNumber.sb T.e_InvalidNumber.ty) rfl))) pss_nil)), ?_⟩
    rcases hR with ⟨d, ⟨x, hx, rfl, rfl⟩, k⟩ | ⟨cls, ⟨x, hx, rfl, rfl⟩, k⟩
    · obtain ⟨v0, rfl, h0⟩ := da1 hd
      exact s_if (b := false) (t_is (Evl.et_not (t_B (d_call (da_cons (d_var rfl h0) (da_cons (d_neg d_int) (da_cons d_int da_nil))) ⟨_, _, _, rfl, rfl⟩))) (by rw [hx]; rfl)) (fun hb => nomatch hb) (fun _ H1 e1 => k .non H1 e1 .non)
    · obtain ⟨v0, rfl, h0⟩ := da1 hd
      exact s_if (b := true) (t_is (Evl.et_not (t_B (d_call (da_cons (d_var rfl h0) (da_cons (d_neg d_int) (da_cons d_int da_nil))) ⟨_, _, _, rfl, rfl⟩))) (by rw [hx]; rfl)) (fun _ H1 e1 => k H1 e1) (fun hb => nomatch hb)
end
end DL
/-! depths -/
namespace DL
open PySem PySem.Spec PyProof.Rows L2
theorem eqv_int (a b : Int) : PyData.eqv (.int a) (.int b) = (a == b) := by simp only [PyData.eqv]
theorem atI_nat' {ds : List PyData} {j : Int} {d : PyData} (h0 : 0 ≤ j) (h : ds[j.toNat]? = some d) : atI ds j = some d := by
  have e : j = ((j.toNat : Nat) : Int) := by omega
  rw [e]
  exact atI_nat h
theorem at_chain {cs : List Cert} {j : Int} (h0 : 0 ≤ j) (h1 : j < cs.length) : ∃ c, cs[j.toNat]? = some c ∧ atI (cs.map certD) j = some (certD c) := by
  have hl : j.toNat < cs.length := by omega
  refine ⟨cs[j.toNat], List.getElem?_eq_getElem hl, atI_nat' h0 ?_⟩
  rw [List.getElem?_map, List.getElem?_eq_getElem hl]
  rfl
section
variable {P : Program} {w : World} {K : PySem.W.Frag} {mg : Str → Option Value} {base : Heap} {A : Ad}
theorem ints_counts (cs : List Cert) (p e : Int) : intsD (countsL cs p e) = .list (givenD (e - (p + 1)).toNat (fun (i : Nat) => !ownAt cs (p + 1 + (i : Int))) fun (i : Nat) => .int (p + 1 + (i : Int))) := by
  unfold intsD countsL givenD
  rw [List.map_map]
  rfl
theorem ok_counted_in (T : Txt K mg A) : FnOk P w K mg base CX0 2 A.a_counted_in A.f_counted_in ["chain", "place"] (SpD K R_counted_in) := by
  refine T.d_counted_in.fn.ok sc_counted_in (fun vs H Q E h => ?_) (fun cdv AA outer s H vs Q E hr h => ?_)
  · obtain ⟨ds, d, hd, ⟨cs, p, hc, hp, hp8, rfl, rfl⟩, k⟩ := h
    exact hd.length
  · obtain ⟨ds, d, hd, ⟨cs, p, hc, hp, hp8, rfl, rfl⟩, k⟩ := h
    obtain ⟨v0, v1, rfl, h0, h1⟩ := da2 hd
    have hl := chain_len cs
    have h8 := hc.hi
    refine ⟨_, (pss_one (ps_ret (pe_lc (own := [("at", 2)]) (by rfl) sc_counted_in.nd (pi_range2 rfl T.b_range (pa_cons (pe_op (k_add (K := K) rfl) (pv 1) pe_int) (pa_cons (pe_op op_sub (pe_B (k_len (K := K) rfl) T.b_len (pa_cons (pv 0) pa_nil)) pe_int) pa_nil))) (blkOk_by (own := [("at", 2)]) (N := ["chain", "place", "at"]) (sc := defScope s_counted_in) (by decide +kernel)) (fun _ _ _ _ _ => (pg_name (i := 2) sc_counted_in.nd rfl (Or.inl rfl))) (fun _ _ _ _ _ => (pts_one (pt_not (pt_val (pe_cl T.d_is_own_issuer (ok_is_own_issuer T) (hr.mono (by decide)) pass0 (pa_cons (pe_ix (k_ix (K := K) rfl) (pv 0) (pv 2) (fun _ _ => rfl)) pa_nil)))))) (fun _ _ _ _ _ => (pv 2))))), ?_⟩
    refine s_ret (d_is (d_lcN (fun (i : Nat) => !ownAt cs (p + 1 + (i : Int))) (fun (i : Nat) => .int (p + 1 + (i : Int))) (i_rng2 (da_cons (d_op (d_var rfl h1) d_int rd_add) (da_cons (d_op (d_lenT (d_var rfl h0)) d_int rd_sub) da_nil)) (by rw [hl]; omega)) (by rw [hl]; omega)
      (fun i x H' hi e it => ?_) (fun i x H' hi e it hb => ?_) (fun _ _ _ => rfl)) ?_) k
    · rw [hl] at hi
      obtain rfl := it
      obtain ⟨c, hc1, hc2⟩ := at_chain (cs := cs) (j := p + 1 + (i : Int)) (by omega) (by omega)
      refine t_is (Evl.et_not (t_B (d_call (da_cons (d_op (d_var rfl (h0.mono e)) (d_var rfl (.int _)) (rd_ixT hc2)) da_nil) ⟨c, hc.all c (List.mem_of_getElem? hc1), rfl, rfl⟩))) ?_
      unfold ownAt
      rw [hc1]
    · obtain rfl := it
      exact d_var rfl (.int _)
    · rw [ints_counts, hl]
theorem ok_lesser (T : Txt K mg A) : FnOk P w K mg base CX0 1 A.a_lesser A.f_lesser ["one", "other"] (SpD K R_lesser) := by
  refine T.d_lesser.fn.ok sc_lesser (fun vs H Q E h => ?_) (fun cdv AA outer s H vs Q E hr h => ?_)
  · obtain ⟨ds, d, hd, ⟨a, b, rfl, rfl⟩, k⟩ := h
    exact hd.length
  · obtain ⟨ds, d, hd, ⟨a, b, rfl, rfl⟩, k⟩ := h
    obtain ⟨v0, v1, rfl, h0, h1⟩ := da2 hd
    have hu64 := hr.units
    refine ⟨_, (pss_cons (ps_if (PW.pt (pw_or (pt_cmpR (k_eq (K := K) rfl hu64) (pv 0) (pe_gI T.g_NONE) (nomark _)) (pw_or1 (pt_cmpR (k_eq (K := K) rfl hu64) (pv 1) (pe_gI T.g_NONE) (nomark _))))) (pss_one (ps_ret (pe_B (call_max2 rfl) T.b_max (pa_cons (pv 0) (pa_cons (pv 1) pa_nil))))) pss_nil)
    (pss_one (ps_ret (pe_B (call_min2 rfl) T.b_min (pa_cons (pv 0) (pa_cons (pv 1) pa_nil)))))), ?_⟩
    refine q_when (b := decide (a = -1 ∨ b = -1)) (t_is (Evl.et_or (t_test (d_op (d_var rfl h0) d_int (rd_eq (shaped_int _) (shaped_int _)))) fun _ => t_test (d_op (d_var rfl h1) d_int (rd_eq (shaped_int _) (shaped_int _)))) ?_) (fun hb H1 e1 => ?_) (fun hb H1 e1 => ?_)
    · rw [eqv_int, eqv_int]
      by_cases ha : a = -1 <;> by_cases hb : b = -1 <;> simp [ha, hb]
    · refine s_ret (d_max2 (d_var rfl (h0.mono e1)) (d_var rfl (h1.mono e1))) fun v H2 e2 hv => k v H2 (e1.trans e2) ?_
      unfold lesserI
      rw [if_pos (of_decide_eq_true hb)]
      exact hv
    · refine s_ret (d_min2 (d_var rfl (h0.mono e1)) (d_var rfl (h1.mono e1))) fun v H2 e2 hv => k v H2 (e1.trans e2) ?_
      unfold lesserI
      rw [if_neg (of_decide_eq_false hb)]
      exact hv
theorem ok_left_behind (T : Txt K mg A) : FnOk P w K mg base CX0 3 A.a_left_behind A.f_left_behind ["left", "certificate"] (SpD K R_left_behind) := by
  refine T.d_left_behind.fn.ok sc_left_behind (fun vs H Q E h => ?_) (fun cdv AA outer s H vs Q E hr h => ?_)
  · obtain ⟨ds, d, hd, ⟨l, c, hc, rfl, rfl⟩, k⟩ := h
    exact hd.length
  · obtain ⟨ds, d, hd, ⟨l, c, hc, rfl, rfl⟩, k⟩ := h
    obtain ⟨v0, v1, rfl, h0, h1⟩ := da2 hd
    have hu64 := hr.units
    refine ⟨_, (pss_cons (ps_if (PW.pt (pw_and (pt_not (pt_val (pe_cl T.d_is_own_issuer (ok_is_own_issuer T) (hr.mono (by decide)) pass0 (pa_cons (pv 1) pa_nil)))) (pw_and1 (pt_cmpR (k_eq (K := K) rfl hu64) (pv 0) pe_int (nomark _))))) (pss_one (ps_ret (pe_gI T.g_PASSED))) pss_nil)
    (pss_cons (ps_set (i := 2) sc_left_behind.nd rfl (Or.inl rfl) (pe_ifExp (PW.pt (pw_and (pt_not (pt_val (pe_cl T.d_is_own_issuer (ok_is_own_issuer T) (hr.mono (by decide)) pass0 (pa_cons (pv 1) pa_nil)))) (pw_and1 (pt_cmpR op_gt (pv 0) pe_int (nomark _))))) (pe_op op_sub (pv 0) pe_int) (pv 0)))
    (pss_one (ps_ret (pe_cl T.d_lesser (ok_lesser T) (hr.mono (by decide)) pass0 (pa_cons (pv 2) (pa_cons (pe_cl T.d_depth_in (ok_depth_in T) (hr.mono (by decide)) pass0 (pa_cons (pv 1) pa_nil)) pa_nil))))))), ?_⟩
    refine q_when (b := decide (c.own = false ∧ l = 0)) (t_is (Evl.et_and (Evl.et_not (t_B (d_call (da_cons (d_var rfl h1) da_nil) ⟨c, hc, rfl, rfl⟩))) fun _ => t_test (d_op (d_var rfl h0) d_int (rd_eq (shaped_int _) (shaped_int _)))) ?_) (fun hb H1 e1 => ?_) (fun hb H1 e1 => ?_)
    · rw [eqv_int]
      cases c.own <;> by_cases hl : l = 0 <;> simp [hl]
    · refine s_ret (K := K) d_int fun v H2 e2 hv => k v H2 (e1.trans e2) ?_
      unfold leftB
      rw [if_pos (of_decide_eq_true hb)]
      exact hv
    · refine q_asg (K := K) (d := .int (if c.own = false ∧ 0 < l then l - 1 else l)) (d_if (b := decide (c.own = false ∧ 0 < l)) (t_is (Evl.et_and (Evl.et_not (t_B (d_call (da_cons (d_var rfl (h1.mono e1)) da_nil) ⟨c, hc, rfl, rfl⟩))) fun _ => t_test (d_op (d_var rfl (h0.mono e1)) d_int rd_gt)) ?_) (fun hb => ?_) fun hb => ?_) fun v H2 e2 hv => ?_
      · cases c.own <;> by_cases hl : 0 < l <;> simp [hl]
      · rw [if_pos (of_decide_eq_true hb)]
        exact d_op (d_var rfl (h0.mono e1)) d_int rd_sub
      · rw [if_neg (of_decide_eq_false hb)]
        exact d_var rfl (h0.mono e1)
      · refine s_ret (d_call (da_cons (d_var rfl hv) (da_cons (d_call (da_cons (d_var rfl (h1.mono (e1.trans e2))) da_nil) ⟨c, rfl, rfl⟩) da_nil)) ⟨_, _, rfl, rfl⟩) fun v H3 e3 hv => k v H3 ((e1.trans e2).trans e3) ?_
        unfold leftB
        rw [if_neg (of_decide_eq_false hb)]
        exact hv
theorem cut_last (ds : List PyData) : cutP ds none (some (-1)) = ds.dropLast := by
  unfold cutP
  rw [HT.sIx_none, List.drop_zero, Nat.sub_zero]
  have e : HT.sIx ds.length ds.length (some (-1)) = ds.length - 1 := by
    show (if (-1 : Int) < 0 then ((-1 : Int) + (ds.length : Int)).toNat else min (-1 : Int).toNat ds.length) = _
    rw [if_pos (by decide)]
    omega
  rw [e, List.dropLast_eq_take]
theorem leftGo_step (l : Int) (c : Cert) (r : List Cert) : leftGo l (c :: r) = if l = -2 then leftGo l r else leftB l c :: leftGo (leftB l c) r := rfl
theorem leftGo_len : ∀ (cs : List Cert) (l : Int), (leftGo l cs).length ≤ cs.length
  | [], _ => Nat.le_refl _
  | c :: r, l => by
    rw [leftGo_step]
    split
    · have := leftGo_len r l
      rw [List.length_cons]
      omega
    · have := leftGo_len r (leftB l c)
      rw [List.length_cons, List.length_cons]
      omega
theorem ok_left_in (T : Txt K mg A) : FnOk P w K mg base CX0 4 A.a_left_in A.f_left_in ["depth", "chain"] (SpD K R_left_in) := by
  refine T.d_left_in.fn.ok sc_left_in (fun vs H Q E h => ?_) (fun cdv AA outer s H vs Q E hr h => ?_)
  · obtain ⟨ds, d, hd, ⟨l, cs, hc, rfl, rfl⟩, k⟩ := h
    exact hd.length
  · obtain ⟨ds, d, hd, ⟨l, cs, hc, rfl, rfl⟩, k⟩ := h
    obtain ⟨v0, v1, rfl, h0, h1⟩ := da2 hd
    have hu64 := hr.units
    have h8 := hc.hi
    refine ⟨_, (pss_cons (ps_par (i := 2) (j := 3) rfl sc_left_in.nd rfl rfl (by decide) rfl rfl (pa_cons (pe_lst pa_nil) (pa_cons (pv 0) pa_nil)) (by with_unfolding_all rfl))
    (pss_cons (ps_for PassesOwn.never rfl (k_ptup (K := K) rfl (pe_slice (k_sl (K := K) rfl) (pv 1) po_none (po_some (pe_un un_neg pe_int)))) (pg_name (i := 4) sc_left_in.nd rfl (Or.inl rfl))
    (pss_one (ps_if (pt_cmpR (k_ne (K := K) rfl hu64) (pv 3) (pe_gI T.g_PASSED) (nomark _)) (pss_cons (ps_set (i := 3) sc_left_in.nd rfl (Or.inl rfl) (pe_cl T.d_left_behind (ok_left_behind T) (hr.mono (by decide)) pass0 (pa_cons (pv 3) (pa_cons (pv 4) pa_nil))))
    (pss_one (ps_set (i := 2) sc_left_in.nd rfl (Or.inl rfl) (pe_op (k_add (K := K) rfl) (pv 2) (pe_lst (pa_cons (pv 3) pa_nil)))))) pss_nil)))
    (pss_one (ps_ret (pv 2))))), ?_⟩
    refine q_par (da_cons (d_lst da_nil (by decide)) (da_cons (d_var rfl h0) da_nil)) fun v w H1 e1 hv hw => ?_
    have gl := leftGo_len cs.dropLast l
    rw [List.length_dropLast] at gl
    refine q_for (i_tup (K := K) (d_cut (d_var rfl (h1.mono e1)) o_none (o_some (K := K) (d_neg d_int)))) (fun i σ' H' => ∃ (a b : V) (c4 : Option V) (done : List Int) (x : Int), σ' = [some v0, some v1, some a, some b, c4] ∧ Da K H' a (intsD done) ∧ Da K H' b (.int x) ∧ done ++ leftGo x (cs.dropLast.drop i) = leftL l cs) (fun H2 e2 => ?_)
      (fun Hb i x σ' H2 H3 eb hi eb2 hp e3 it => ?_) (fun σ' H2 e2 hp => ?_)
    · exact ⟨v, w, none, [], l, rfl, hv.mono e2, hw.mono e2, rfl⟩
    · obtain ⟨d, hd, hx⟩ := it
      rw [cut_last, ← List.map_dropLast, List.getElem?_map] at hd
      obtain ⟨a, b, c4, done, y, rfl, ha, hb, hdone⟩ := hp
      cases hci : cs.dropLast[i]? with
      | none => rw [hci] at hd; cases hd
      | some c =>
        rw [hci] at hd
        cases hd
        have hcm : c ∈ cs := List.dropLast_subset cs (List.mem_of_getElem? hci)
        have hdr : cs.dropLast.drop i = c :: cs.dropLast.drop (i + 1) := by
          have hlt : i < cs.dropLast.length := (List.getElem?_eq_some_iff.mp hci).1
          rw [List.drop_eq_getElem_cons hlt, (List.getElem?_eq_some_iff.mp hci).2]
        rw [hdr, leftGo_step] at hdone
        refine s_if (b := !decide (y = -2)) (t_test (d_is (d_op (d_var rfl (hb.mono e3)) d_int (rd_ne (shaped_int _) (shaped_int _))) ?_)) (fun hbb H4 e4 => ?_) (fun hbb H4 e4 => ?_)
        · rw [eqv_int]
          by_cases hy : y = -2 <;> simp [hy]
        · have hy : ¬ y = -2 := by simpa using hbb
          rw [if_neg hy] at hdone
          have e34 := e3.trans e4
          refine q_asg (d_call (da_cons (d_var rfl (hb.mono e34)) (da_cons (d_var rfl (hx.mono e4)) da_nil)) ⟨y, c, hc.all c hcm, rfl, rfl⟩) fun v5 H5 e5 hv5 => ?_
          refine s_asg (d_op (d_var rfl (ha.mono (e34.trans e5))) (d_lst (da_cons (d_var rfl hv5) da_nil) (show 1 ≤ 1000 by decide)) (rd_cat ?_)) fun v6 H6 e6 hv6 => ?_
          · have := congrArg List.length hdone
            rw [List.length_append, List.length_cons] at this
            unfold leftL at this
            rw [List.length_map]
            show done.length + 1 ≤ 1000
            omega
          · refine ⟨(((eb2.trans e3).trans e4).trans e5).trans e6, v6, v5, some x, done ++ [leftB y c], leftB y c, rfl, ?_, hv5.mono e6, ?_⟩
            · unfold intsD
              rw [List.map_append]
              exact hv6
            · rw [List.append_assoc]
              exact hdone
        · have hy : y = -2 := by simpa using hbb
          rw [if_pos hy] at hdone
          exact ⟨(eb2.trans e3).trans e4, a, b, some x, done, y, rfl, ha.mono (e3.trans e4), hb.mono (e3.trans e4), hdone⟩
    · obtain ⟨a, b, c4, done, y, rfl, ha, hb, hdone⟩ := hp
      refine s_ret (d_var rfl ha) fun v H3 e3 hv => k v H3 ((e1.trans e2).trans e3) ?_
      have hdr : cs.dropLast.drop (cutP (cs.map certD) none (some (-1))).length = [] := by
        rw [cut_last, ← List.map_dropLast, List.length_map]
        exact List.drop_length
      rw [hdr] at hdone
      have hdone : done ++ [] = leftL l cs := hdone
      rw [List.append_nil] at hdone
      rw [← hdone]
      exact hv
end
end DL
/-! enumerate(tuple) -/
namespace DL
open PySem PySem.Spec PyProof.Rows L2
open AutoSeq1 (wpAny_loadPart')
theorem meets_enum_newT (l : Addr) (items : Array Value) (n : Nat) (dct : Option Addr) (sl : Array (Option Value)) :
    Meets (Builtin.«enumerate.__new__» ⟨[.type "enumerate", .ref l], []⟩) (fun _ R s => s.heap.get? l = some { cls := .type "tuple", dict := dct, data := .seq items n, slots := sl } ∧
      R (.ok (.ret (.ref (s.heap.push { cls := .type "tuple_iterator", data := .fields #[.ref l, .int 0 0] }).objs.size)))
        { s with heap := (s.heap.push { cls := .type "tuple_iterator", data := .fields #[.ref l, .int 0 0] }).push { cls := .type "enumerate", data := .fields #[.none, .bool false, .ref s.heap.objs.size, rawInt 0, .none, .none] } }) :=
  .of_wp fun prog w A R s h => by
    obtain ⟨hp, g, d, tk, os⟩ := s; obtain ⟨hl, h⟩ := h
    have hsub := sub_enumerate
    have hL : Heap.IsTuple (Shared.heap ⟨hp, g, d, tk, os⟩) l items := ⟨_, hl, rfl, n, rfl⟩
    wp_walk using wpAny_loadPart' hl
    refine wpAny_stack_any fun st => wpAny_pure ?_
    split
    · rename_i c _ _ _ _ _
      cases (c == Value.type "enumerate")
      · wp_walk using wpAny_loadPart' hl, wpAny_pyIter_tuple hL
        exact ⟨_, rfl, h⟩
      · wp_walk using wpAny_loadPart' hl, wpAny_pyIter_tuple hL
        exact ⟨_, rfl, h⟩
    · wp_walk using wpAny_loadPart' hl, wpAny_pyIter_tuple hL
      exact ⟨_, rfl, h⟩
section
variable {prog : Program} {w : World} {A : Around} {E : Value → Shared → Prop} {s : Shared}
theorem call_enum_tuple {l : Addr} {items : Array Value} {Q : Value → Shared → Prop} (hL : s.heap.IsTuple l items)
    (h : ∀ h', IsEnum h' (s.heap.objs.size + 1) s.heap.objs.size 0 .none → h'.IsTupleIter s.heap.objs.size l 0 → h'.objs.size = s.heap.objs.size + 2 →
      (∀ b o, s.heap.get? b = some o → h'.get? b = some o) → Q (.ref (s.heap.objs.size + 1)) { s with heap := h' }) :
    wpAny (model prog w) A (call (.type "enumerate") [.ref l]) Q E s := by
  obtain ⟨⟨c, dct, dt, sl⟩, hl, hc, n, hd⟩ := hL
  replace hc : c = .type "tuple" := hc
  replace hd : dt = .seq items n := hd
  subst hc hd
  refine callType_new F.called_enumerate (by decide) (F.typeCall_enumerate_1 _) (F.newCall_enumerate_1 _) (fun obj => F.args_object_init_2 obj _) F.entry_enumerate_new
    (meets_enum_newT l items n dct sl) ⟨hl, ?_⟩
  have hz : (s.heap.push { cls := .type "tuple_iterator", data := .fields #[.ref l, .int 0 0] }).objs.size = s.heap.objs.size + 1 := Heap.size_push ..
  show _ ∧ _
  rw [hz]
  have he : IsEnum ((s.heap.push { cls := .type "tuple_iterator", data := .fields #[.ref l, .int 0 0] }).push
      { cls := .type "enumerate", data := .fields #[.none, .bool false, .ref s.heap.objs.size, rawInt 0, .none, .none] }) (s.heap.objs.size + 1) s.heap.objs.size 0 .none := by
    have := Heap.get?_push_size (s.heap.push { cls := .type "tuple_iterator", data := .fields #[.ref l, .int 0 0] })
      (o := { cls := .type "enumerate", data := .fields #[.none, .bool false, .ref s.heap.objs.size, rawInt 0, .none, .none] }) rfl
    rw [hz] at this; exact this
  refine ⟨⟨_, he, rfl⟩, h _ he ⟨_, Heap.get?_push_of_some _ (Heap.get?_push_size _ rfl), rfl, rfl⟩ (by rw [Heap.size_push, hz]) fun b o x => Heap.get?_push_of_some _ (Heap.get?_push_of_some _ x)⟩
end
/-- the tuple at a, each item in a new pair -/
def IteT (K : PySem.W.Frag) (a : Addr) : It :=
  ⟨fun i H => ∃ (xs : List V) (x : V), SqT K H a xs ∧ xs[i]? = some x, fun i H v H' => ∃ T x, v = .ref T ∧ H T = none ∧ H' = upd H T (.tup [.int (i : Nat), x]) ∧ ∀ xs, SqT K H a xs → xs[i]? = some x, fun i H => ∃ xs : List V, SqT K H a xs ∧ xs.length = i⟩
theorem turn_enumT {P : Program} {w : World} {K : PySem.W.Frag} {elts : List Expr} {kk : Nat} {tpos : Pos} (a e it : Addr) :
    Turn P w K (.Tuple elts kk tpos) (IteT K a) [e, it] e (fun i h => (∃ old, IsEnum h e it ((i : Nat) : Int) old) ∧ h.IsTupleIter it a i ∧ e ≠ it ∧ a ≠ it) where
  mem := by simp
  obj := fun i h st b hb => by
    obtain ⟨⟨old, he⟩, ⟨o, ho, hc, hd⟩, _⟩ := st
    have e' : b = e ∨ b = it := by simpa using hb
    rcases e' with z | z
    · rw [z]; exact ⟨_, he, fun v q => nomatch q⟩
    · rw [z]; exact ⟨o, ho, fun v q => by rw [hd] at q; cases q⟩
  keep := fun i h h' st k => let ⟨⟨old, he⟩, hi, hne⟩ := st; ⟨⟨old, k e (by simp) _ he⟩, hi.at fun o q => k it (by simp) o q, hne⟩
  item := by
    intro X hP hw hK hc i pins s σ H E I hf st hg
    subst hP hw hK
    obtain ⟨⟨old, he⟩, hit, hne, hna⟩ := st
    obtain ⟨xs, x, hq, hx⟩ := hg
    obtain ⟨its, rv, p, hz⟩ := I.tuple hq
    obtain ⟨u, hu, ru⟩ := rv.get hx
    have hel : e < s.heap.objs.size := Heap.lt_size he
    have hil : it < s.heap.objs.size := by obtain ⟨_, q, _⟩ := hit; exact Heap.lt_size q
    have pT : s.heap.IsTuple a its.toArray := p
    have eea : e ≠ a := fun z => by
      obtain ⟨o, ho, hcls, _⟩ := pT
      have h2 : s.heap.get? e = some _ := he
      rw [z, ho] at h2
      cases h2
      exact absurd (show Value.type "enumerate" = Value.type "tuple" from hcls) (by intro q; injection q with q; exact absurd q (by decide))
    have hlt : i < its.toArray.size := by
      have := (List.getElem?_eq_some_iff.mp hu).1
      simpa using this
    refine wpAny_pyNext_enum_itemD (Draws.tuple (A := X.A.in1) (I.ok.hd hc) it a hna its.toArray) he ⟨hit, pT⟩ hlt hne (by simp only [List.mem_cons, List.not_mem_nil, or_false, not_or]; exact ⟨hne, eea⟩) fun x' h' tk hx' ho hst' hT hsz hk => ?_
    have ex : x' = u := by
      have h1 : its.toArray[i]? = some u := by simpa using hu
      rw [h1] at hx'
      exact (Option.some.inj hx').symm
    subst ex
    refine ⟨_, rfl, wpAny_letOwnedTupleGo_enum (s := { s with heap := h', toks := tk + 1 }) ho fun h'' he' sb => ?_⟩
    have hT2 : h''.get? s.heap.objs.size = some { cls := .type "tuple", data := .seq #[.int i tk, x'] } := (sb.2 _ (Nat.ne_of_gt hel)).trans hT
    have new : ObjOk X.prog X.w (upd H s.heap.objs.size (.tup [.int (i : Nat), x])) h'' s.heap.objs.size (.tup [.int (i : Nat), x]) :=
      ⟨by show 2 ≤ sizeLine; decide, [.int i tk, x'], .cons ⟨_, rfl⟩ (.cons ru .nil), ⟨_, hT2, rfl, _, rfl⟩⟩
    have I1 : Inv X pins σ (upd H s.heap.objs.size (.tup [.int (i : Nat), x])) { s with heap := h'', toks := tk + 1 } :=
      I.turnedNew (ch := [e, it]) (fun b ob hb q => (sb.2 b (fun z => hb (by simp [z]))).trans (hk b ob (fun z => hb (by simp [z])) (fun z => hb (by simp [z])) q)) hf (Nat.le_refl _) new
    refine ⟨.ref s.heap.objs.size, _, I1, rfl, ⟨_, x, rfl, I.hok.fresh (Nat.le_refl _), rfl, fun ys hy => by rw [I.tuple_inj hy hq]; exact hx⟩, ⟨⟨x', ?_⟩, hst'.1.at fun o q => (sb.2 it (Ne.symm hne)).trans q, hne, hna⟩, fun b hb => ?_⟩
    · have e1 : ((i + 1 : Nat) : Int) = (i : Int) + 1 := by omega
      rw [e1]; exact he'
    · have hb' : b < s.heap.objs.size := by
        have e' : b = e ∨ b = it := by simpa using hb
        rcases e' with z | z
        · rw [z]; exact hel
        · rw [z]; exact hil
      rw [upd_ne (Nat.ne_of_lt hb')]
      exact (hf b hb).1
  done := by
    intro X hP hw hK hc i pins s σ H E I hf st hg
    subst hP hw hK
    obtain ⟨⟨old, he⟩, hit, hne, hna⟩ := st
    obtain ⟨xs, hq, hx⟩ := hg
    obtain ⟨its, rv, p, hz⟩ := I.tuple hq
    obtain ⟨f0, f1, f2, f3, f4, f5⟩ := hf it (by simp)
    have hl := rv.length
    have pT : s.heap.IsTuple a its.toArray := p
    have hn : its.toArray.size = i := by simp; omega
    refine wpAny_pyNext_enum_endD (Draws.tuple (A := X.A.in1) (I.ok.hd hc) it a hna its.toArray) he ⟨by rw [hn]; exact hit, pT⟩ fun h' eb => ⟨rfl, I.turned (t' := s.toks) (fun b o hb q => eb b o hb q) f0 f1 f3 f4 f5⟩
  self := fun A i s Q E st h => let ⟨⟨_, he⟩, _⟩ := st; wpAny_pyIter_enum he h
def iEnumT (K : PySem.W.Frag) (ta : TA) : TI := fun σ H R => ta σ H fun vs H1 => ∃ a xs, vs = [.ref a] ∧ SqT K H1 a xs ∧ R (IteT K a) H1
theorem pi_enumT {X : Cx} {e : Expr} {ta : TA} {p pos tpos : Pos} {elts : List Expr} {kk : Nat} (hg : Gl X "enumerate") (hm : X.mg "enumerate" = none) (ha : PA X [e] ta) (hs : starEach [e] X.env = [(false, eval e X.env)] := by rfl) :
    PI X (.Tuple elts kk tpos) (.Call (.Name "enumerate" p) [e] [] pos) (iEnumT X.K ta) := by
  refine ⟨fun pins s σ H R I h => ?_⟩
  refine Call_ (ld_blt I hg hm boot_enumerate (PyProof.Rows.callWith_type1 (thn (ha.run pos pins s σ H _ I h) fun us s1 ⟨vs, H1, I1, r1, q1⟩ => ?_) hs rfl))
  obtain ⟨a, xs, ex, hq, q⟩ := q1
  subst ex
  cases r1 with
  | cons r rr =>
    cases rr
    cases r
    obtain ⟨its, rv, p', hz⟩ := I1.tuple hq
    have pT : s1.heap.IsTuple a its.toArray := p'
    refine call_enum_tuple pT fun h' he hit hsz hk => wpAny_pyIter_enum he ?_
    have I2 : Inv X pins σ H1 { s1 with heap := h' } := I1.kept (t' := s1.toks) hk
    have hna : a ≠ s1.heap.objs.size := Nat.ne_of_lt p'.lt
    refine ⟨s1.heap.objs.size + 1, [s1.heap.objs.size + 1, s1.heap.objs.size], _, _, H1, rfl, I2, turn_enumT a (s1.heap.objs.size + 1) s1.heap.objs.size, ⟨⟨.none, he⟩, hit, Nat.succ_ne_self _, hna⟩, fun b hb => ?_, q⟩
    have e' : b = s1.heap.objs.size + 1 ∨ b = s1.heap.objs.size := by simpa using hb
    have hle : s1.heap.objs.size ≤ b := by
      rcases e' with z | z
      · rw [z]; exact Nat.le_add_right _ _
      · rw [z]; exact Nat.le_refl _
    exact I1.fpOk hle (I1.hok.fresh hle)
theorem k_penumT {X : Cx} {K : PySem.W.Frag} {e : Expr} {ta : TA} {p pos tpos : Pos} {elts : List Expr} {kk : Nat} (ek : X.K = K) (hm : X.mg "enumerate" = none) (ha : PA X [e] ta) (hg : Gl X "enumerate" := by rfl) (hs : starEach [e] X.env = [(false, eval e X.env)] := by rfl) :
    PI X (.Tuple elts kk tpos) (.Call (.Name "enumerate" p) [e] [] pos) (iEnumT K ta) := ek ▸ pi_enumT hg hm ha hs
theorem i_enumT {K : PySem.W.Frag} {σ : L2.St} {H : Hp} {ds : List PyData} {tr : TA} (h : EvAD K tr σ H [.tuple ds]) : EvI (iEnumT K tr) σ H ds.length (ItemP K (fun i => some (.int (i : Nat))) (fun i => ds[i]?)) := fun H1 e R q =>
  h H1 e _ fun vs H2 e2 hv => by
    obtain ⟨v, rfl, hv1⟩ := da1 hv
    cases hv1 with
    | tup s1 a1 =>
      refine ⟨_, _, rfl, s1, q _ H2 e2 ?_⟩
      rw [← a1.length]
      refine ⟨fun i H' hi e3 => ⟨_, _, Evl.ex_t e3 s1, List.getElem?_eq_getElem hi⟩, fun H' e3 => ⟨_, Evl.ex_t e3 s1, rfl⟩, fun i H' x H'' _ e3 y => ?_⟩
      obtain ⟨T, x1, rfl, hT, rfl, f1⟩ := y
      have eT : Ex H' (upd H' T (.tup [.int (i : Nat), x1])) := Evl.Ex.new hT
      obtain ⟨d1, p1, p2⟩ := (a1.mono (e3.trans eT)).get (f1 _ (Evl.ex_t e3 s1))
      exact ⟨eT, .int (i : Nat), d1, rfl, p1, .tup (SqT.of upd_same) (.cons (.int _) (.cons p2 .nil))⟩
end DL
/-! left_row, counted_behind; the law's own readings of a chain -/
namespace DL
open PySem PySem.Spec PyProof.Rows L2
theorem given_filter {α : Type} (b : α → Bool) (g : α → PyData) : ∀ (l : List α), givenD l.length (fun i => match l[i]? with | some x => b x | none => false) (fun i => match l[i]? with | some x => g x | none => .none) = (l.filter b).map g := by
  intro l
  have key : ∀ (n : Nat), n ≤ l.length → givenD n (fun i => match l[i]? with | some x => b x | none => false) (fun i => match l[i]? with | some x => g x | none => .none) = ((l.take n).filter b).map g := by
    intro n
    induction n with
    | zero => intro _; rfl
    | succ n ih =>
      intro hn
      have hlt : n < l.length := by omega
      have ih := ih (by omega)
      have e : l[n]? = some l[n] := List.getElem?_eq_getElem hlt
      rw [List.take_add_one, e, List.filter_append, List.map_append, ← ih]
      cases hb : b l[n] with
      | true =>
        rw [givenD_yes (by rw [e]; exact hb), e]
        simp [hb]
      | false =>
        rw [givenD_no (by rw [e]; exact hb)]
        simp [hb]
  have q := key l.length (Nat.le_refl _)
  rw [List.take_length] at q
  exact q
abbrev ItemL (K : PySem.W.Frag) (ds : List PyData) : Nat → V → Hp → Prop := fun i x H' => ∃ d, ds[i]? = some d ∧ Da K H' x d
section
variable {K : PySem.W.Frag} {σ : L2.St} {H : Hp} {wi : TI} {te tl : TE} {tt : TT} {ds : List PyData} {j j1 j2 : Nat}
/-- [elt for x in l if test] -/
theorem d_lcF (b : PyData → Bool) (g : PyData → PyData) (hi : EvI wi σ H ds.length (ItemL K ds)) (hn : ds.length ≤ 40000)
    (ht : ∀ (x : V) (d : PyData) (H' : Hp), Ex H H' → d ∈ ds → Da K H' x d → EvT tt ((wipe σ [j]).set j (some x)) H' (b d))
    (he : ∀ (x : V) (d : PyData) (H' : Hp), Ex H H' → d ∈ ds → Da K H' x d → b d = true → EvD K te ((wipe σ [j]).set j (some x)) H' (g d)) (hf : ∀ d ∈ ds, b d = true → flatL (g d) = true) :
    EvD K (tLc wi (gName j) tt te [j]) σ H (.list ((ds.filter b).map g)) := by
  rw [← given_filter]
  refine d_lcN _ _ hi hn (fun i x H' hin e it => ?_) (fun i x H' hin e it hb => ?_) (fun i hin hb => ?_)
  · obtain ⟨d, hd, hx⟩ := it
    rw [hd]
    exact ht x d H' e (List.mem_of_getElem? hd) hx
  · obtain ⟨d, hd, hx⟩ := it
    rw [hd] at hb ⊢
    exact he x d H' e (List.mem_of_getElem? hd) hx hb
  · have hd : ds[i]? = some ds[i] := List.getElem?_eq_getElem hin
    rw [hd] at hb ⊢
    exact hf _ (List.getElem_mem hin) hb
/-- [elt for x, y in l if test] -/
theorem d_lcF2 {pairs : List (PyData × PyData)} (hj : j1 ≠ j2) (b : PyData × PyData → Bool) (g : PyData × PyData → PyData) (hi : EvI wi σ H pairs.length (ItemL K (pairs.map fun p => .tuple [p.1, p.2]))) (hn : pairs.length ≤ 40000)
    (ht : ∀ (x y : V) (p : PyData × PyData) (H' : Hp), Ex H H' → p ∈ pairs → Da K H' x p.1 → Da K H' y p.2 → EvT tt (((wipe σ [j1, j2]).set j1 (some x)).set j2 (some y)) H' (b p))
    (he : ∀ (x y : V) (p : PyData × PyData) (H' : Hp), Ex H H' → p ∈ pairs → Da K H' x p.1 → Da K H' y p.2 → b p = true → EvD K te (((wipe σ [j1, j2]).set j1 (some x)).set j2 (some y)) H' (g p)) (hf : ∀ p ∈ pairs, b p = true → flatL (g p) = true) :
    EvD K (tLc wi (gTup K 2 (gCons (gName j1) (gCons (gName j2) gNil))) tt te [j1, j2]) σ H (.list ((pairs.filter b).map g)) := by
  rw [← given_filter]
  refine d_lc (fun i σ2 H' => ∃ x y p, pairs[i]? = some p ∧ Da K H' x p.1 ∧ Da K H' y p.2 ∧ σ2 = ((wipe σ [j1, j2]).set j1 (some x)).set j2 (some y)) _ _ hi hn (fun i x H' hin e it kk hk => ?_) (fun i σ2 H' hin e tg => ?_) (fun i σ2 H' hin e tg hb => ?_) (fun i hin hb => ?_)
  · obtain ⟨d, hd, hx⟩ := it
    rw [List.getElem?_map] at hd
    cases hp : pairs[i]? with
    | none => rw [hp] at hd; cases hd
    | some p =>
      rw [hp] at hd
      cases hd
      exact g_pair hx kk fun a c ha hc => hk _ (wipe_set2 hj) ⟨a, c, p, hp, ha, hc, rfl⟩
  · obtain ⟨x, y, p, hp, hx, hy, rfl⟩ := tg
    rw [hp]
    exact ht x y p H' e (List.mem_of_getElem? hp) hx hy
  · obtain ⟨x, y, p, hp, hx, hy, rfl⟩ := tg
    rw [hp] at hb ⊢
    exact he x y p H' e (List.mem_of_getElem? hp) hx hy hb
  · have hd : pairs[i]? = some pairs[i] := List.getElem?_eq_getElem hin
    rw [hd] at hb ⊢
    exact hf _ (List.getElem_mem hin) hb
theorem i_listL (h : EvD K tl σ H (.list ds)) : EvI (iList K tl) σ H ds.length (ItemL K ds) := i_list h
theorem i_tupL (h : EvD K tl σ H (.tuple ds)) : EvI (iTup K tl) σ H ds.length (ItemL K ds) := i_tup h
end
/-! ### the mirror -/
def depthAt (cs : List Cert) (i : Nat) : Int := match cs[i]? with
  | some c => c.depth
  | none => -1
def prI (p : Int × Int) : PyData := .tuple [.int p.1, .int p.2]
def pairs0 (d : Int) (cs : List Cert) : List (Int × Int) := (-1, d) :: (List.range (cs.length - 1)).map fun (i : Nat) => ((i : Int), depthAt cs i)
def pairsL (d : Int) (cs : List Cert) : List (Int × Int) := (pairs0 d cs).filter fun p => decide (0 ≤ p.2)
def R_law_depth : List PyData → PyData → Prop := fun ds d => ∃ c : Cert, ds = [certD c] ∧ d = .int c.depth
def R_law_counts : List PyData → PyData → Prop := fun ds d => ∃ (cs : List Cert) (p e : Int), chainOk cs ∧ -1 ≤ p ∧ p ≤ 8 ∧ -100 ≤ e ∧ e ≤ 100 ∧ ds = [chainD cs, .int p, .int e] ∧ d = intsD (countsL cs p (min e ((cs.length : Int) - 1)))
def R_law_all_depths : List PyData → PyData → Prop := fun ds d => ∃ (l : Int) (cs : List Cert), chainOk cs ∧ ds = [.int l, chainD cs] ∧ d = .list ((pairsL l cs).map prI)
def R_law_whole : List PyData → PyData → Prop := fun ds d => ∃ i : Int, ds = [.int i] ∧ d = .bool true
section
variable {P : Program} {w : World} {K : PySem.W.Frag} {mg : Str → Option Value} {base : Heap} {A : Ad}
theorem ok_left_row (T : Txt K mg A) : FnOk P w K mg base (L2.CX P w) 8 A.a_left_row A.f_left_row ["depth", "chain"] (SpX K R_left_row (RE_left_row A.a_InvalidNumber A.a_InvalidChain)) := by
  refine T.d_left_row.fn.okX sc_left_row (fun vs H Q E h => ?_) (fun cdv AA outer s H vs Q E hr h => ?_)
  · obtain ⟨ds, hd, ⟨d, ⟨l, cs, h1, h2, hc, rfl, rfl⟩, k⟩ | ⟨cls, ⟨x, y, hx, rfl, rfl⟩ | ⟨l, y, h1, h2, hy, rfl, rfl⟩, k⟩⟩ := h
    · exact hd.length
    · exact hd.length
    · exact hd.length
  · obtain ⟨ds, hd, hR⟩ := h
    refine ⟨_, (pss_cons (ps_expr (pe_cl T.d_need_depth (ok_need_depth T) (hr.mono (by decide)) (passes_call (takes_of rfl rfl rfl rfl) (fun _ _ _ _ h => h)) (pa_cons (pv 0) pa_nil)))
    (pss_cons (ps_expr (pe_cl T.d_need_chain (ok_need_chain T) (hr.mono (by decide)) (passes_call (takes_of rfl rfl rfl rfl) (fun _ _ _ _ h => h)) (pa_cons (pv 1) pa_nil)))
    (pss_one (ps_ret (pe_cl T.d_left_in (ok_left_in T) (hr.mono (by decide)) pass0 (pa_cons (pv 0) (pa_cons (pv 1) pa_nil))))))), ?_⟩
    rcases hR with ⟨d, ⟨l, cs, h1, h2, hc, rfl, rfl⟩, k⟩ | ⟨cls, ⟨x, y, hx, rfl, rfl⟩ | ⟨l, y, h1, h2, hy, rfl, rfl⟩, k⟩
    · obtain ⟨v0, v1, rfl, g0, g1⟩ := da2 hd
      have hw : isWhole (.int l) (-1) 8 = true := by rw [isWhole_int, decide_eq_true h1, decide_eq_true h2]; rfl
      refine q_drop (d_callX (da_cons (d_var rfl g0) da_nil) ⟨_, hw, rfl, rfl⟩) fun H1 e1 => ?_
      refine q_drop (d_callX (da_cons (d_var rfl (g1.mono e1)) da_nil) ⟨_, hc, rfl, rfl⟩) fun H2 e2 => ?_
      exact s_ret (d_call (da_cons (d_var rfl (g0.mono (e1.trans e2))) (da_cons (d_var rfl (g1.mono (e1.trans e2))) da_nil)) ⟨l, cs, hc, rfl, rfl⟩) fun v H3 e3 hv => k v H3 ((e1.trans e2).trans e3) hv
    · obtain ⟨v0, v1, rfl, g0, g1⟩ := da2 hd
      exact q_dropX (da_cons (d_var rfl g0) da_nil) ⟨x, hx, rfl, rfl⟩ k
    · obtain ⟨v0, v1, rfl, g0, g1⟩ := da2 hd
      have hw : isWhole (.int l) (-1) 8 = true := by rw [isWhole_int, decide_eq_true h1, decide_eq_true h2]; rfl
      refine q_drop (d_callX (da_cons (d_var rfl g0) da_nil) ⟨_, hw, rfl, rfl⟩) fun H1 e1 => ?_
      exact q_dropX (da_cons (d_var rfl (g1.mono e1)) da_nil) ⟨y, hy, rfl, rfl⟩ fun H2 e2 => k H2 (e1.trans e2)
theorem ok_counted_behind (T : Txt K mg A) : FnOk P w K mg base (L2.CX P w) 8 A.a_counted_behind A.f_counted_behind ["chain", "place"] (SpX K R_counted_behind (RE_counted_behind A.a_InvalidNumber A.a_InvalidChain)) := by
  refine T.d_counted_behind.fn.okX sc_counted_behind (fun vs H Q E h => ?_) (fun cdv AA outer s H vs Q E hr h => ?_)
  · obtain ⟨ds, hd, ⟨d, ⟨cs, p, hc, h1, h2, rfl, rfl⟩, k⟩ | ⟨cls, ⟨x, y, hx, rfl, rfl⟩ | ⟨cs, y, hc, hy, rfl, rfl⟩, k⟩⟩ := h
    · exact hd.length
    · exact hd.length
    · exact hd.length
  · obtain ⟨ds, hd, hR⟩ := h
    refine ⟨_, (pss_cons (ps_expr (pe_cl T.d_need_chain (ok_need_chain T) (hr.mono (by decide)) (passes_call (takes_of rfl rfl rfl rfl) (fun _ _ _ _ h => h)) (pa_cons (pv 0) pa_nil)))
    (pss_cons (ps_if (pt_not (pt_val (pe_cl T.d_is_whole (ok_is_whole T) (hr.mono (by decide)) pass0 (pa_cons (pv 1) (pa_cons (pe_un un_neg pe_int) (pa_cons (pe_op op_sub (pe_B (k_len (K := K) rfl) T.b_len (pa_cons (pv 0) pa_nil)) pe_int) pa_nil)))))) (pss_one (ps_raise rfl (takes_of rfl rfl rfl rfl) (pmk_own PySem.F.excBase_ValueError T.e_InvalidNumber.ex T.e_InvalidNumber.g T.e_InvalidNumber.kp (raises_own T.e_InvalidNumber.sb T.e_InvalidNumber.ty) rfl))) pss_nil)
    (pss_one (ps_ret (pe_cl T.d_counted_in (ok_counted_in T) (hr.mono (by decide)) pass0 (pa_cons (pv 0) (pa_cons (pv 1) pa_nil))))))), ?_⟩
    rcases hR with ⟨d, ⟨cs, p, hc, h1, h2, rfl, rfl⟩, k⟩ | ⟨cls, ⟨x, y, hx, rfl, rfl⟩ | ⟨cs, y, hc, hy, rfl, rfl⟩, k⟩
    · obtain ⟨v0, v1, rfl, g0, g1⟩ := da2 hd
      have h8 := hc.hi
      have hw : isWhole (.int p) (-1) (((cs.map certD).length : Int) - 1) = true := by rw [isWhole_int, chain_len, decide_eq_true h1, decide_eq_true h2]; rfl
      refine q_drop (d_callX (da_cons (d_var rfl g0) da_nil) ⟨_, hc, rfl, rfl⟩) fun H1 e1 => ?_
      refine q_when (b := false) (t_is (Evl.et_not (t_B (d_call (da_cons (d_var rfl (g1.mono e1)) (da_cons (d_neg d_int) (da_cons (d_op (d_lenT (d_var rfl (g0.mono e1))) d_int rd_sub) da_nil))) ⟨_, _, _, rfl, rfl⟩))) (by rw [hw]; rfl)) (fun hb => nomatch hb) (fun _ H2 e2 => ?_)
      exact s_ret (d_call (da_cons (d_var rfl (g0.mono (e1.trans e2))) (da_cons (d_var rfl (g1.mono (e1.trans e2))) da_nil)) ⟨cs, p, hc, h1, by omega, rfl, rfl⟩) fun v H3 e3 hv => k v H3 ((e1.trans e2).trans e3) hv
    · obtain ⟨v0, v1, rfl, g0, g1⟩ := da2 hd
      exact q_dropX (da_cons (d_var rfl g0) da_nil) ⟨x, hx, rfl, rfl⟩ k
    · obtain ⟨v0, v1, rfl, g0, g1⟩ := da2 hd
      refine q_drop (d_callX (da_cons (d_var rfl g0) da_nil) ⟨_, hc, rfl, rfl⟩) fun H1 e1 => ?_
      refine q_when (b := true) (t_is (Evl.et_not (t_B (d_call (da_cons (d_var rfl (g1.mono e1)) (da_cons (d_neg d_int) (da_cons (d_op (d_lenT (d_var rfl (g0.mono e1))) d_int rd_sub) da_nil))) ⟨_, _, _, rfl, rfl⟩))) (by rw [chain_len, hy]; rfl)) (fun _ H2 e2 => ?_) (fun hb => nomatch hb)
      exact k H2 (e1.trans e2)
theorem ok_law_whole (T : Txt K mg A) : FnOk P w K mg base CX0 1 A.a_law_whole A.f_law_whole ["_law_value"] (SpD K R_law_whole) := by
  refine T.d_law_whole.fn.ok sc_law_whole (fun vs H Q E h => ?_) (fun cdv AA outer s H vs Q E hr h => ?_)
  · obtain ⟨ds, d, hd, ⟨i, rfl, rfl⟩, k⟩ := h
    exact hd.length
  · obtain ⟨ds, d, hd, ⟨i, rfl, rfl⟩, k⟩ := h
    obtain ⟨v0, rfl, h0⟩ := da1 hd
    refine ⟨_, (pss_one (ps_ret (pe_and (pe_B (k_isi (K := K) rfl) T.b_isinstance (pa_cons (pv 0) (pa_cons (pe_ty (n := "int") T.b_int) pa_nil))) (pe_one (pe_not (pe_B (k_isi (K := K) rfl) T.b_isinstance (pa_cons (pv 0) (pa_cons (pe_ty (n := "bool") T.b_bool) pa_nil)))))))), ?_⟩
    exact s_ret (d_is (d_and (d_isi (d_var rfl h0) (kit_int _)) fun _ => d_not (d_isi (d_var rfl h0) (kit_bool _))) rfl) k
theorem word_ok (p : PV) : PyData.strOk p.word = true := by
  cases p
  · show PyData.strOk ("basic" : Str) = true
    decide +kernel
  · show PyData.strOk ("purposes" : Str) = true
    decide +kernel
  · show PyData.strOk ("uses" : Str) = true
    decide +kernel
theorem ok_law_depth (T : Txt K mg A) : FnOk P w K mg base CX0 1 A.a_law_depth A.f_law_depth ["_law_certificate_here"] (SpD K R_law_depth) := by
  refine T.d_law_depth.fn.ok sc_law_depth (fun vs H Q E h => ?_) (fun cdv AA outer s H vs Q E hr h => ?_)
  · obtain ⟨ds, d, hd, ⟨c, rfl, rfl⟩, k⟩ := h
    exact hd.length
  · obtain ⟨ds, d, hd, ⟨c, rfl, rfl⟩, k⟩ := h
    obtain ⟨v0, rfl, h0⟩ := da1 hd
    have hu64 := hr.units
    have hl := parts_len c
    refine ⟨_, (pss_one (ps_ret (pe_ix (k_ix (K := K) rfl) (pe_op (k_add (K := K) rfl) (pe_lc (own := [("_law_word", 1), ("_law_value", 2)]) (by rfl) sc_law_depth.nd (k_ptup (K := K) rfl (pe_ix (k_ix (K := K) rfl) (pv 0) pe_int (fun _ _ => rfl))) (blkOk_by (own := [("_law_word", 1), ("_law_value", 2)]) (N := ["_law_certificate_here", "_law_word", "_law_value"]) (sc := defScope s_law_depth) (by decide +kernel)) (fun _ _ _ _ _ => (k_pgt (K := K) (n := 2) rfl rfl (pgs_cons (pg_name (i := 1) sc_law_depth.nd rfl (Or.inl rfl)) (pgs_cons (pg_name (i := 2) sc_law_depth.nd rfl (Or.inl rfl)) pgs_nil)))) (fun _ _ _ _ _ => (pts_one (pt_cmpR (k_eq (K := K) rfl hu64) (pv 1) pe_str (nomark _)))) (fun _ _ _ _ _ => (pe_ix (k_ix (K := K) rfl) (pv 2) pe_int (fun _ _ => rfl)))) (pe_lst (pa_cons (pe_un un_neg pe_int) pa_nil))) pe_int (fun _ _ => rfl)))), ?_⟩
    have hpm : (c.parts.map fun p => (PyData.str p.word, p.val)).map (fun p => PyData.tuple [p.1, p.2]) = c.parts.map pvD := by
      rw [List.map_map]
      rfl
    have item : ∀ {p : PyData × PyData}, p ∈ (c.parts.map fun p => (PyData.str p.word, p.val)) → ∃ q ∈ c.parts, p = (PyData.str q.word, q.val) := fun {p} h => by
      obtain ⟨q, hq, e⟩ := List.mem_map.mp h
      exact ⟨q, hq, e.symm⟩
    have nb : ∀ b n, (("basic" : Str) == (PV.basic b n).word) = true := fun _ _ => by show (("basic" : Str) == ("basic" : Str)) = true; decide +kernel
    refine s_ret (d_is (d_op (d_op (d_lcF2 (pairs := c.parts.map fun p => (PyData.str p.word, p.val)) (j1 := 1) (j2 := 2) (by decide) (fun p => PyData.eqv p.1 (.str "basic")) (fun p => match p.2 with | .tuple [_, n] => n | _ => .none)
      (by rw [hpm, List.length_map, ← List.length_map (f := pvD)]; exact i_tupL (d_ixv rfl h0 rfl)) (by rw [List.length_map]; omega) (fun x y p H' e hp hx hy => ?_) (fun x y p H' e hp hx hy hb => ?_) (fun p hp hb => ?_)) (d_lst (da_cons (d_neg d_int) da_nil) (show 1 ≤ 1000 by decide)) (rd_cat ?_)) d_int (rd_ixL (d := .int c.depth) ?_)) rfl) k
    · obtain ⟨q, hq, rfl⟩ := item hp
      exact t_test (d_op (d_var rfl hx) d_str (rd_eq (shaped_str (word_ok q)) (shaped_str (by decide +kernel))))
    · obtain ⟨q, hq, rfl⟩ := item hp
      have hb : PyData.eqv (.str q.word) (.str "basic") = true := hb
      rw [eqv_str] at hb
      cases q with
      | basic b n => exact d_ixv rfl hy rfl
      | purposes ss => exact absurd hb (by show ¬ (("purposes" : Str) == ("basic" : Str)) = true; decide +kernel)
      | uses ss => exact absurd hb (by show ¬ (("uses" : Str) == ("basic" : Str)) = true; decide +kernel)
    · obtain ⟨q, hq, rfl⟩ := item hp
      have hb : PyData.eqv (.str q.word) (.str "basic") = true := hb
      rw [eqv_str] at hb
      cases q with
      | basic b n => rfl
      | purposes ss => exact absurd hb (by show ¬ (("purposes" : Str) == ("basic" : Str)) = true; decide +kernel)
      | uses ss => exact absurd hb (by show ¬ (("uses" : Str) == ("basic" : Str)) = true; decide +kernel)
    · rw [List.length_map]
      have := List.length_filter_le (fun p : PyData × PyData => PyData.eqv p.1 (.str "basic")) (c.parts.map fun p => (PyData.str p.word, p.val))
      rw [List.length_map] at this
      show _ + 1 ≤ 1000
      omega
    · have e1 : PyData.eqv (.str ("basic" : Str)) (.str "basic") = true := by rw [eqv_str]; decide +kernel
      have e2 : PyData.eqv (.str ("purposes" : Str)) (.str "basic") = false := by rw [eqv_str]; decide +kernel
      have e3 : PyData.eqv (.str ("uses" : Str)) (.str "basic") = false := by rw [eqv_str]; decide +kernel
      unfold Cert.parts Cert.depth
      cases c.basic <;> cases c.purposes <;> cases c.uses <;> simp [PV.word, PV.val, e1, e2, e3] <;> rfl
end
end DL
/-! the law's own reckoning -/
namespace DL
open PySem PySem.Spec PyProof.Rows L2
section
variable {K : PySem.W.Frag} {σ : L2.St} {H : Hp} {wi : TI} {te tl : TE} {tt : TT} {ds : List PyData} {j j1 j2 : Nat}
/-- over pairs of ints -/
theorem d_lcPr {ps : List (Int × Int)} (hj : j1 ≠ j2) (b : Int × Int → Bool) (g : Int × Int → PyData) (hi : EvI wi σ H ps.length (ItemL K (ps.map prI))) (hn : ps.length ≤ 40000)
    (ht : ∀ (p : Int × Int) (H' : Hp), Ex H H' → p ∈ ps → EvT tt (((wipe σ [j1, j2]).set j1 (some (.int p.1))).set j2 (some (.int p.2))) H' (b p))
    (he : ∀ (p : Int × Int) (H' : Hp), Ex H H' → p ∈ ps → b p = true → EvD K te (((wipe σ [j1, j2]).set j1 (some (.int p.1))).set j2 (some (.int p.2))) H' (g p)) (hf : ∀ p ∈ ps, b p = true → flatL (g p) = true) :
    EvD K (tLc wi (gTup K 2 (gCons (gName j1) (gCons (gName j2) gNil))) tt te [j1, j2]) σ H (.list ((ps.filter b).map g)) := by
  rw [← given_filter]
  refine d_lc (fun i σ2 H' => ∃ p, ps[i]? = some p ∧ σ2 = ((wipe σ [j1, j2]).set j1 (some (.int p.1))).set j2 (some (.int p.2))) _ _ hi hn (fun i x H' hin e it kk hk => ?_) (fun i σ2 H' hin e tg => ?_) (fun i σ2 H' hin e tg hb => ?_) (fun i hin hb => ?_)
  · obtain ⟨d, hd, hx⟩ := it
    rw [List.getElem?_map] at hd
    cases hp : ps[i]? with
    | none => rw [hp] at hd; cases hd
    | some p =>
      rw [hp] at hd
      cases hd
      refine g_pair hx kk fun a c ha hc => ?_
      cases ha; cases hc
      exact hk _ (wipe_set2 hj) ⟨p, hp, rfl⟩
  · obtain ⟨p, hp, rfl⟩ := tg
    rw [hp]
    exact ht p H' e (List.mem_of_getElem? hp)
  · obtain ⟨p, hp, rfl⟩ := tg
    rw [hp] at hb ⊢
    exact he p H' e (List.mem_of_getElem? hp) hb
  · have hd : ps[i]? = some ps[i] := List.getElem?_eq_getElem hin
    rw [hd] at hb ⊢
    exact hf _ (List.getElem_mem hin) hb
/-- over ints -/
theorem d_lcI {ns : List Int} (b : Int → Bool) (g : Int → PyData) (hi : EvI wi σ H ns.length (ItemL K (ns.map PyData.int))) (hn : ns.length ≤ 40000)
    (ht : ∀ (n : Int) (H' : Hp), Ex H H' → n ∈ ns → EvT tt ((wipe σ [j]).set j (some (.int n))) H' (b n))
    (he : ∀ (n : Int) (H' : Hp), Ex H H' → n ∈ ns → b n = true → EvD K te ((wipe σ [j]).set j (some (.int n))) H' (g n)) (hf : ∀ n ∈ ns, b n = true → flatL (g n) = true) :
    EvD K (tLc wi (gName j) tt te [j]) σ H (.list ((ns.filter b).map g)) := by
  rw [← given_filter]
  refine d_lcN _ _ hi hn (fun i x H' hin e it => ?_) (fun i x H' hin e it hb => ?_) (fun i hin hb => ?_)
  · obtain ⟨d, hd, hx⟩ := it
    rw [List.getElem?_map] at hd
    cases hp : ns[i]? with
    | none => rw [hp] at hd; cases hd
    | some p =>
      rw [hp] at hd
      cases hd
      cases hx
      exact ht p H' e (List.mem_of_getElem? hp)
  · obtain ⟨d, hd, hx⟩ := it
    rw [List.getElem?_map] at hd
    cases hp : ns[i]? with
    | none => rw [hp] at hd; cases hd
    | some p =>
      rw [hp] at hd
      rw [hp] at hb
      cases hd
      cases hx
      exact he p H' e (List.mem_of_getElem? hp) hb
  · have hd : ns[i]? = some ns[i] := List.getElem?_eq_getElem hin
    rw [hd] at hb ⊢
    exact hf _ (List.getElem_mem hin) hb
theorem i_prs {ps : List (Int × Int)} (h : EvD K tl σ H (.list (ps.map prI))) : EvI (iList K tl) σ H ps.length (ItemL K (ps.map prI)) := by
  have q := i_listL h
  rw [List.length_map] at q
  exact q
theorem i_ints {ns : List Int} (h : EvD K tl σ H (intsD ns)) : EvI (iList K tl) σ H ns.length (ItemL K (ns.map PyData.int)) := by
  have q := i_listL h
  rw [List.length_map] at q
  exact q
end
theorem lay_ints : ∀ ns : List Int, PyData.canLayAll0 (ns.map PyData.int) = true
  | [] => by simp [PyData.canLayAll0]
  | x :: ws => by
    simp only [List.map_cons, PyData.canLayAll0, PyData.canLay0, Bool.and_eq_true]
    exact ⟨True.intro, lay_ints ws⟩
theorem depth_ints : ∀ ws : List Int, PyData.depthAll (ws.map PyData.int) = 0
  | [] => by simp [PyData.depthAll]
  | x :: ws => by
    simp only [List.map_cons, PyData.depthAll, PyData.depth, depth_ints ws]
    rfl
theorem shaped_ints (ns : List Int) : SeqAt.shaped (intsD ns) = true := by
  unfold SeqAt.shaped
  rw [show PyData.canLay0 (intsD ns) = true by simp only [intsD, PyData.canLay0]; exact lay_ints ns]
  simp [intsD, PyData.depth, depth_ints]
theorem eqv_ints : ∀ a b : List Int, PyData.eqv (intsD a) (intsD b) = decide (a = b) := by
  have key : ∀ a b : List Int, PyData.eqvAll (a.map PyData.int) (b.map PyData.int) = decide (a = b) := by
    intro a
    induction a with
    | nil => intro b; cases b <;> simp [PyData.eqvAll]
    | cons x a ih =>
      intro b
      cases b with
      | nil => simp [PyData.eqvAll]
      | cons y b =>
        simp only [List.map_cons, PyData.eqvAll, PyData.eqv, ih b]
        by_cases h1 : x = y <;> by_cases h2 : a = b <;> simp [h1, h2]
  intro a b
  simp only [intsD, PyData.eqv]
  exact key a b
def aheadL (d : Int) (cs : List Cert) (k : Nat) : List Int := ((pairsL d cs).filter fun p => decide (p.1 < (k : Int))).map fun p => p.2 - ((countsL cs p.1 (min ((k : Int) + 1) ((cs.length : Int) - 1))).length : Int)
def hereL (d : Int) (cs : List Cert) (k : Nat) : List Int := ((pairsL d cs).filter fun p => p.1 == (k : Int)).map fun p => p.2
def lawGo (d : Int) (cs : List Cert) : List Nat → List Int → List Int
  | [], found => found
  | k :: r, found => if (aheadL d cs k).filter (fun x => decide (x < 0)) ≠ [] then found ++ [-2] else lawGo d cs r (found ++ [((aheadL d cs k ++ hereL d cs k).min?).getD (-1)])
def lawL (d : Int) (cs : List Cert) : List Int := lawGo d cs (List.range (cs.length - 1)) []
def R_law_left : List PyData → PyData → Prop := fun ds d => ∃ (l : Int) (cs : List Cert), chainOk cs ∧ ds = [.int l, chainD cs] ∧ d = intsD (lawL l cs)
theorem pairs0_len (d : Int) (cs : List Cert) : (pairs0 d cs).length = cs.length - 1 + 1 := by
  unfold pairs0
  rw [List.length_cons, List.length_map, List.length_range]
theorem pairsL_len (d : Int) (cs : List Cert) : (pairsL d cs).length ≤ cs.length - 1 + 1 := by
  unfold pairsL
  have := List.length_filter_le (fun p : Int × Int => decide (0 ≤ p.2)) (pairs0 d cs)
  rw [pairs0_len] at this
  exact this
theorem pairsL_bound {d : Int} {cs : List Cert} {p : Int × Int} (h : p ∈ pairsL d cs) : -1 ≤ p.1 ∧ p.1 ≤ (cs.length : Int) := by
  have h1 : p ∈ pairs0 d cs := (List.mem_filter.mp h).1
  rcases List.mem_cons.mp h1 with rfl | h1
  · exact ⟨Int.le_refl _, by show (-1 : Int) ≤ _; omega⟩
  · obtain ⟨i, hi, rfl⟩ := List.mem_map.mp h1
    have := List.mem_range.mp hi
    exact ⟨by show (-1 : Int) ≤ (i : Int); omega, by show (i : Int) ≤ _; omega⟩
section
variable {P : Program} {w : World} {K : PySem.W.Frag} {mg : Str → Option Value} {base : Heap} {A : Ad}
theorem ok_law_counts (T : Txt K mg A) : FnOk P w K mg base CX0 1 A.a_law_counts A.f_law_counts ["_law_chain", "_law_place", "_law_end"] (SpD K R_law_counts) := by
  refine T.d_law_counts.fn.ok sc_law_counts (fun vs H Q E h => ?_) (fun cdv AA outer s H vs Q E hr h => ?_)
  · obtain ⟨ds, d, hd, ⟨cs, p, e, hc, hp, hp8, he, he2, rfl, rfl⟩, k⟩ := h
    exact hd.length
  · obtain ⟨ds, d, hd, ⟨cs, p, e, hc, hp, hp8, he, he2, rfl, rfl⟩, k⟩ := h
    obtain ⟨v0, v1, v2, rfl, h0, h1, h2⟩ := da3 hd
    have hu64 := hr.units
    have hl := chain_len cs
    have h8 := hc.hi
    refine ⟨_, (pss_one (ps_ret (pe_lc (own := [("_law_at", 3)]) (by rfl) sc_law_counts.nd (pi_range2 rfl T.b_range (pa_cons (pe_op (k_add (K := K) rfl) (pv 1) pe_int) (pa_cons (pe_B (call_min2 rfl) T.b_min (pa_cons (pv 2) (pa_cons (pe_op op_sub (pe_B (k_len (K := K) rfl) T.b_len (pa_cons (pv 0) pa_nil)) pe_int) pa_nil))) pa_nil))) (blkOk_by (own := [("_law_at", 3)]) (N := ["_law_chain", "_law_place", "_law_end", "_law_at"]) (sc := defScope s_law_counts) (by decide +kernel)) (fun _ _ _ _ _ => (pg_name (i := 3) sc_law_counts.nd rfl (Or.inl rfl))) (fun _ _ _ _ _ => (pts_one (pt_cmpR (k_ne (K := K) rfl hu64) (pe_ix (k_ix (K := K) rfl) (pe_ix (k_ix (K := K) rfl) (pv 0) (pv 3) (fun _ _ => rfl)) pe_int (fun _ _ => rfl)) (pe_ix (k_ix (K := K) rfl) (pe_ix (k_ix (K := K) rfl) (pv 0) (pv 3) (fun _ _ => rfl)) pe_int (fun _ _ => rfl)) (nomark _)))) (fun _ _ _ _ _ => (pv 3))))), ?_⟩
    refine s_ret (d_is (d_lcN (fun (i : Nat) => !ownAt cs (p + 1 + (i : Int))) (fun (i : Nat) => .int (p + 1 + (i : Int))) (i_rng2 (da_cons (d_op (d_var rfl h1) d_int rd_add) (da_cons (d_min2 (d_var rfl h2) (d_op (d_lenT (d_var rfl h0)) d_int rd_sub)) da_nil)) (by rw [hl]; omega)) (by rw [hl]; omega)
      (fun i x H' hi e it => ?_) (fun i x H' hi e it hb => ?_) (fun _ _ _ => rfl)) ?_) k
    · rw [hl] at hi
      obtain rfl := it
      obtain ⟨c, hc1, hc2⟩ := at_chain (cs := cs) (j := p + 1 + (i : Int)) (by omega) (by omega)
      have hok := hc.all c (List.mem_of_getElem? hc1)
      refine t_test (d_is (d_op (d_op (d_op (d_var rfl (h0.mono e)) (d_var rfl (.int _)) (rd_ixT hc2)) d_int (rd_ixT rfl)) (d_op (d_op (d_var rfl (h0.mono e)) (d_var rfl (.int _)) (rd_ixT hc2)) d_int (rd_ixT rfl)) (rd_ne (shaped_strs fun x hx => strOk_good (good_all hok.issuer x hx)) (shaped_strs fun x hx => strOk_good (good_all hok.subject x hx)))) ?_)
      rw [eqv_strs]
      unfold ownAt
      rw [hc1]
      rfl
    · obtain rfl := it
      exact d_var rfl (.int _)
    · rw [ints_counts, hl]
theorem ok_law_all_depths (T : Txt K mg A) : FnOk P w K mg base CX0 2 A.a_law_all_depths A.f_law_all_depths ["_law_depth_here", "_law_chain"] (SpD K R_law_all_depths) := by
  refine T.d_law_all_depths.fn.ok sc_law_all_depths (fun vs H Q E h => ?_) (fun cdv AA outer s H vs Q E hr h => ?_)
  · obtain ⟨ds, d, hd, ⟨l, cs, hc, rfl, rfl⟩, k⟩ := h
    exact hd.length
  · obtain ⟨ds, d, hd, ⟨l, cs, hc, rfl, rfl⟩, k⟩ := h
    obtain ⟨v0, v1, rfl, h0, h1⟩ := da2 hd
    have h8 := hc.hi
    have hcl : (cutP (cs.map certD) none (some (-1))).length = cs.length - 1 := by
      rw [cut_last, List.length_dropLast, List.length_map]
    refine ⟨_, (pss_cons (ps_set (i := 2) sc_law_all_depths.nd rfl (Or.inl rfl) (pe_op (k_add (K := K) rfl) (pe_lst (pa_cons (pe_tup (pa_cons (pe_un un_neg pe_int) (pa_cons (pv 0) pa_nil))) pa_nil)) (pe_lc (own := [("_law_at", 3), ("_law_own", 4)]) (by rfl) sc_law_all_depths.nd (k_penumT (K := K) rfl T.b_enumerate (pa_cons (pe_slice (k_sl (K := K) rfl) (pv 1) po_none (po_some (pe_un un_neg pe_int))) pa_nil)) (blkOk_by (own := [("_law_at", 3), ("_law_own", 4)]) (N := ["_law_depth_here", "_law_chain", "_law_pairs", "_law_at", "_law_own"]) (sc := defScope s_law_all_depths) (by decide +kernel)) (fun _ _ _ _ _ => (k_pgt (K := K) (n := 2) rfl rfl (pgs_cons (pg_name (i := 3) sc_law_all_depths.nd rfl (Or.inl rfl)) (pgs_cons (pg_name (i := 4) sc_law_all_depths.nd rfl (Or.inl rfl)) pgs_nil)))) (fun _ _ _ _ _ => pts_nil) (fun _ _ _ _ _ => (pe_tup (pa_cons (pv 3) (pa_cons (pe_cl T.d_law_depth (ok_law_depth T) (hr.mono (by decide)) pass0 (pa_cons (pv 4) pa_nil)) pa_nil)))))))
    (pss_one (ps_ret (pe_lc (own := [("_law_at", 3), ("_law_own", 4)]) (by rfl) sc_law_all_depths.nd (k_plist (K := K) rfl (pv 2)) (blkOk_by (own := [("_law_at", 3), ("_law_own", 4)]) (N := ["_law_depth_here", "_law_chain", "_law_pairs", "_law_at", "_law_own"]) (sc := defScope s_law_all_depths) (by decide +kernel)) (fun _ _ _ _ _ => (k_pgt (K := K) (n := 2) rfl rfl (pgs_cons (pg_name (i := 3) sc_law_all_depths.nd rfl (Or.inl rfl)) (pgs_cons (pg_name (i := 4) sc_law_all_depths.nd rfl (Or.inl rfl)) pgs_nil)))) (fun _ _ _ _ _ => (pts_one (pt_cmpR op_ge (pv 4) pe_int (nomark _)))) (fun _ _ _ _ _ => (pe_tup (pa_cons (pv 3) (pa_cons (pv 4) pa_nil)))))))), ?_⟩
    refine q_asg (d := .list ((pairs0 l cs).map prI)) (d_is (d_op (d_lst (da_cons (d_tup (da_cons (d_neg d_int) (da_cons (d_var rfl h0) da_nil)) (show 2 ≤ 1000 by decide)) da_nil) (show 1 ≤ 1000 by decide))
      (d_lc (fun i σ2 H' => ∃ (y : V) (c : Cert), cs.dropLast[i]? = some c ∧ Da K H' y (certD c) ∧ σ2 = ((wipe (L2.start ["_law_depth_here", "_law_chain", "_law_pairs", "_law_at", "_law_own"] [v0, v1]) [3, 4]).set 3 (some (.int (i : Nat)))).set 4 (some y)) (fun _ => true) (fun i => prI ((i : Int), depthAt cs i)) (i_enumT (da_cons (d_cut (d_var rfl h1) o_none (o_some (K := K) (d_neg d_int))) da_nil)) (by rw [hcl]; omega)
        (fun i x H' hin e it kk hk => ?_) (fun _ _ _ _ _ _ => t_yes) (fun i σ2 H' hin e tg _ => ?_) (fun _ _ _ => rfl)) (rd_cat ?_)) ?_) fun v H1 e1 hv => ?_
    · obtain ⟨d1, d2, f1, f2, hx⟩ := it
      cases f1
      have f2 : (cutP (cs.map certD) none (some (-1)))[i]? = some d2 := f2
      rw [cut_last, ← List.map_dropLast, List.getElem?_map] at f2
      cases hci : cs.dropLast[i]? with
      | none => rw [hci] at f2; cases f2
      | some c =>
        rw [hci] at f2
        cases f2
        refine g_pair hx kk fun a b ha hb => ?_
        cases ha
        exact hk _ (wipe_set2 (by decide)) ⟨b, c, hci, hb, rfl⟩
    · obtain ⟨y, c, hci, hy, rfl⟩ := tg
      have ec : depthAt cs i = c.depth := by
        unfold depthAt
        rw [hcl] at hin
        rw [List.getElem?_dropLast, if_pos (by omega)] at hci
        rw [hci]
      show EvD K _ _ H' (.tuple [.int (i : Int), .int (depthAt cs i)])
      rw [ec]
      exact d_tup (da_cons (d_var rfl (.int _)) (da_cons (d_call (da_cons (d_var rfl hy) da_nil) ⟨c, rfl, rfl⟩) da_nil)) (show 2 ≤ 1000 by decide)
    · have := givenD_len (cutP (cs.map certD) none (some (-1))).length (fun _ => true) (fun i => prI ((i : Int), depthAt cs i))
      show 1 + _ ≤ 1000
      omega
    · rw [givenD_all _ _ _ fun _ _ => rfl, hcl]
      unfold pairs0
      rw [List.map_cons, List.map_map]
      rfl
    · have hpl := pairs0_len l cs
      refine s_ret (d_is (d_lcPr (ps := pairs0 l cs) (j1 := 3) (j2 := 4) (by decide) (fun p => decide (0 ≤ p.2)) prI (i_prs (d_var rfl hv)) (by omega) (fun p H' e hp => ?_) (fun p H' e hp hb => ?_) (fun _ _ _ => rfl)) rfl) fun v H2 e2 hv => k v H2 (e1.trans e2) hv
      · exact t_test (K := K) (d_op (d_var rfl (.int _)) d_int rd_ge)
      · exact d_tup (da_cons (d_var rfl (.int _)) (da_cons (d_var rfl (.int _)) da_nil)) (show 2 ≤ 1000 by decide)
end
end DL
/-! the law's row, by its own reckoning -/
namespace DL
open PySem PySem.Spec PyProof.Rows L2
theorem lawGo_step (d : Int) (cs : List Cert) (k : Nat) (r : List Nat) (found : List Int) : lawGo d cs (k :: r) found = if (aheadL d cs k).filter (fun x => decide (x < 0)) ≠ [] then found ++ [-2] else lawGo d cs r (found ++ [((aheadL d cs k ++ hereL d cs k).min?).getD (-1)]) := rfl
theorem aheadL_len (d : Int) (cs : List Cert) (k : Nat) : (aheadL d cs k).length ≤ cs.length - 1 + 1 := by
  unfold aheadL
  rw [List.length_map]
  exact Nat.le_trans (List.length_filter_le _ _) (pairsL_len d cs)
theorem hereL_len (d : Int) (cs : List Cert) (k : Nat) : (hereL d cs k).length ≤ cs.length - 1 + 1 := by
  unfold hereL
  rw [List.length_map]
  exact Nat.le_trans (List.length_filter_le _ _) (pairsL_len d cs)
theorem ints_nil {ns : List Int} : PyData.eqv (intsD ns) (.list []) = decide (ns = []) := eqv_ints ns []
theorem shaped_nil : SeqAt.shaped (.list []) = true := shaped_ints []
section
variable {P : Program} {w : World} {K : PySem.W.Frag} {mg : Str → Option Value} {base : Heap} {A : Ad}
theorem rd_catI {xs ys : List Int} (h : xs.length + ys.length ≤ 1000) : RD K (rAddX K) (intsD xs) (intsD ys) (intsD (xs ++ ys)) := by
  unfold intsD
  rw [List.map_append]
  exact rd_cat (by rw [List.length_map, List.length_map]; exact h)
theorem ok_law_left (T : Txt K mg A) : FnOk P w K mg base CX0 3 A.a_law_left A.f_law_left ["_law_depth_here", "_law_chain"] (SpD K R_law_left) := by
  refine T.d_law_left.fn.ok sc_law_left (fun vs H Q E h => ?_) (fun cdv AA outer s H vs Q E hr h => ?_)
  · obtain ⟨ds, d, hd, ⟨l, cs, hc, rfl, rfl⟩, k⟩ := h
    exact hd.length
  · obtain ⟨ds, d, hd, ⟨l, cs, hc, rfl, rfl⟩, k⟩ := h
    obtain ⟨v0, v1, rfl, h0, h1⟩ := da2 hd
    have hu64 := hr.units
    have h8 := hc.hi
    have hlo := hc.lo
    have hcl := chain_len cs
    refine ⟨_, (pss_cons (ps_set (i := 2) sc_law_left.nd rfl (Or.inl rfl) (pe_lst pa_nil))
    (pss_cons (ps_for PassesOwn.never rfl (pi_range1 rfl T.b_range (pa_cons (pe_op op_sub (pe_B (k_len (K := K) rfl) T.b_len (pa_cons (pv 1) pa_nil)) pe_int) pa_nil)) (pg_name (i := 3) sc_law_left.nd rfl (Or.inr rfl))
    (pss_cons (ps_set (i := 4) sc_law_left.nd rfl (Or.inl rfl) (pe_cl T.d_law_all_depths (ok_law_all_depths T) (hr.mono (by decide)) pass0 (pa_cons (pv 0) (pa_cons (pv 1) pa_nil))))
    (pss_cons (ps_setLc (i := 5) (own := [("_law_place", 7), ("_law_own", 8)]) (by rfl) sc_law_left.nd rfl rfl (sw_true rfl rfl rfl (by decide +kernel)) (k_plist (K := K) rfl (pv 4)) (blkOk_by (own := [("_law_place", 7), ("_law_own", 8)]) (N := ["_law_depth_here", "_law_chain", "_law_found", "_law_at", "_law_pairs", "_law_ahead", "_law_here", "_law_place", "_law_own", "_law_one"]) (sc := defScope s_law_left) (by decide +kernel)) (fun _ _ _ _ _ => (k_pgt (K := K) (n := 2) rfl rfl (pgs_cons (pg_name (i := 7) sc_law_left.nd rfl (Or.inl rfl)) (pgs_cons (pg_name (i := 8) sc_law_left.nd rfl (Or.inl rfl)) pgs_nil)))) (fun _ _ _ _ _ => (pts_one (pt_cmpR op_lt (pv 7) (pv 3) (nomark _)))) (fun _ _ _ _ _ => (pe_op op_sub (pv 8) (pe_B (k_len (K := K) rfl) T.b_len (pa_cons (pe_cl T.d_law_counts (ok_law_counts T) (hr.mono (by decide)) pass0 (pa_cons (pv 1) (pa_cons (pv 7) (pa_cons (pe_op (k_add (K := K) rfl) (pv 3) pe_int) pa_nil)))) pa_nil)))))
    (pss_cons (ps_if (pt_cmpR (k_ne (K := K) rfl hu64) (pe_lc (own := [("_law_one", 9)]) (by rfl) sc_law_left.nd (k_plist (K := K) rfl (pv 5)) (blkOk_by (own := [("_law_one", 9)]) (N := ["_law_depth_here", "_law_chain", "_law_found", "_law_at", "_law_pairs", "_law_ahead", "_law_here", "_law_place", "_law_own", "_law_one"]) (sc := defScope s_law_left) (by decide +kernel)) (fun _ _ _ _ _ => (pg_name (i := 9) sc_law_left.nd rfl (Or.inl rfl))) (fun _ _ _ _ _ => (pts_one (pt_cmpR op_lt (pv 9) pe_int (nomark _)))) (fun _ _ _ _ _ => (pv 9))) (pe_lst pa_nil) (nomark _)) (pss_one (ps_ret (pe_op (k_add (K := K) rfl) (pv 2) (pe_lst (pa_cons (pe_un un_neg pe_int) pa_nil))))) pss_nil)
    (pss_cons (ps_setLc (i := 6) (own := [("_law_place", 7), ("_law_own", 8)]) (by rfl) sc_law_left.nd rfl rfl (sw_true rfl rfl rfl (by decide +kernel)) (k_plist (K := K) rfl (pv 4)) (blkOk_by (own := [("_law_place", 7), ("_law_own", 8)]) (N := ["_law_depth_here", "_law_chain", "_law_found", "_law_at", "_law_pairs", "_law_ahead", "_law_here", "_law_place", "_law_own", "_law_one"]) (sc := defScope s_law_left) (by decide +kernel)) (fun _ _ _ _ _ => (k_pgt (K := K) (n := 2) rfl rfl (pgs_cons (pg_name (i := 7) sc_law_left.nd rfl (Or.inl rfl)) (pgs_cons (pg_name (i := 8) sc_law_left.nd rfl (Or.inl rfl)) pgs_nil)))) (fun _ _ _ _ _ => (pts_one (pt_cmpR (k_eq (K := K) rfl hu64) (pv 7) (pv 3) (nomark _)))) (fun _ _ _ _ _ => (pv 8)))
    (pss_one (ps_set (i := 2) sc_law_left.nd rfl (Or.inl rfl) (pe_op (k_add (K := K) rfl) (pv 2) (pe_lst (pa_cons (pe_ifExp (pt_cmpR (k_ne (K := K) rfl hu64) (pe_op (k_add (K := K) rfl) (pv 5) (pv 6)) (pe_lst pa_nil) (nomark _)) (pe_B (k_min (K := K) rfl rfl) T.b_min (pa_cons (pe_op (k_add (K := K) rfl) (pv 5) (pv 6)) pa_nil)) (pe_un un_neg pe_int)) pa_nil))))))))))
    (pss_one (ps_ret (pv 2))))), ?_⟩
    refine q_asg (K := K) (d := intsD []) (d_lst da_nil (by decide)) fun v2 H1 e1 hv2 => ?_
    have hn : ((((cs.map certD).length : Int) - 1).toNat) = cs.length - 1 := by rw [hcl]; omega
    refine q_for (i_rng1 (K := K) (da_cons (d_op (d_lenT (d_var rfl (h1.mono e1))) d_int rd_sub) da_nil) (by rw [hcl]; omega) (by rw [hcl]; omega))
      (fun i σ' H' => ∃ (f : V) (c3 c4 c5 c6 : Option V) (found : List Int), σ' = [some v0, some v1, some f, c3, c4, c5, c6, none, none, none] ∧ Da K H' f (intsD found) ∧ found.length = i ∧ lawGo l cs ((List.range (cs.length - 1)).drop i) found = lawL l cs) (fun H2 e2 => ?_)
      (fun Hb i x σ' H2 H3 eb hi eb2 hp e3 it => ?_) (fun σ' H2 e2 hp => ?_)
    · exact ⟨v2, none, none, none, none, [], rfl, hv2.mono e2, rfl, rfl⟩
    · obtain ⟨f, c3, c4, c5, c6, found, rfl, hf, hfl, hgo⟩ := hp
      obtain rfl := it
      rw [hn] at hi
      have e13 := ((e1.trans eb).trans eb2).trans e3
      have hdr : (List.range (cs.length - 1)).drop i = i :: (List.range (cs.length - 1)).drop (i + 1) := by
        rw [List.drop_eq_getElem_cons (by rw [List.length_range]; exact hi), List.getElem_range]
      rw [hdr, lawGo_step] at hgo
      have hpl := pairsL_len l cs
      have hal := aheadL_len l cs i
      have hhl := hereL_len l cs i
      refine q_asg (d_call (da_cons (d_var rfl (h0.mono e13)) (da_cons (d_var rfl (h1.mono e13)) da_nil)) ⟨l, cs, hc, rfl, rfl⟩) fun v4 H4 e4 hv4 => ?_
      refine q_asg (d := intsD (aheadL l cs i)) (d_is (d_lcPr (ps := pairsL l cs) (j1 := 7) (j2 := 8) (by decide) (fun p => decide (p.1 < (i : Int))) (fun p => .int (p.2 - ((countsL cs p.1 (min ((i : Int) + 1) ((cs.length : Int) - 1))).length : Int))) (i_prs (d_var rfl hv4)) (by omega) (fun p H' e hp => ?_) (fun p H' e hp hb => ?_) (fun _ _ _ => rfl)) ?_) fun v5 H5 e5 hv5 => ?_
      · exact t_test (K := K) (d_op (d_var rfl (.int _)) (d_var rfl (.int _)) rd_lt)
      · have hb1 := pairsL_bound hp
        refine d_op (d_var rfl (.int _)) (d_is (d_lenL (d_call (da_cons (d_var rfl (h1.mono ((e13.trans e4).trans e))) (da_cons (d_var rfl (.int _)) (da_cons (d_op (d_var rfl (.int _)) d_int rd_add) da_nil))) ⟨cs, p.1, (i : Int) + 1, hc, by omega, by omega, by omega, by omega, rfl, rfl⟩)) ?_) rd_sub
        rw [List.length_map]
      · unfold aheadL intsD
        rw [List.map_map]
        rfl
      · refine q_when (b := decide ((aheadL l cs i).filter (fun x => decide (x < 0)) ≠ [])) (t_test (d_is (d_op (d_is (d_lcI (ns := aheadL l cs i) (j := 9) (fun x => decide (x < 0)) PyData.int (i_ints (d_var rfl hv5)) (by omega) (fun n H' e hn => t_test (K := K) (d_op (d_var rfl (.int _)) d_int rd_lt)) (fun n H' e hn hb => d_var rfl (.int _)) (fun _ _ _ => rfl)) (show _ = intsD ((aheadL l cs i).filter fun x => decide (x < 0)) from rfl)) (d_lst da_nil (by decide)) (rd_ne (shaped_ints _) shaped_nil)) ?_)) (fun hb H6 e6 => ?_) (fun hb H6 e6 => ?_)
        · rw [ints_nil]
          by_cases hz : (aheadL l cs i).filter (fun x => decide (x < 0)) = [] <;> simp [hz]
        · rw [if_pos (of_decide_eq_true hb)] at hgo
          refine s_ret (d_op (d_var rfl (hf.mono (((e3.trans e4).trans e5).trans e6))) (d_lst (da_cons (d_neg d_int) da_nil) (show 1 ≤ 1000 by decide)) (rd_catI (ys := [-2]) (by show found.length + 1 ≤ 1000; omega))) fun v H7 e7 hv => k v H7 ((((e13.trans e4).trans e5).trans e6).trans e7) ?_
          rw [← hgo]
          exact hv
        · rw [if_neg (of_decide_eq_false hb)] at hgo
          have e46 := (e4.trans e5).trans e6
          refine q_asg (d := intsD (hereL l cs i)) (d_is (d_lcPr (ps := pairsL l cs) (j1 := 7) (j2 := 8) (by decide) (fun p => p.1 == (i : Int)) (fun p => .int p.2) (i_prs (d_var rfl (hv4.mono (e5.trans e6)))) (by omega) (fun p H' e hp => ?_) (fun p H' e hp hb => ?_) (fun _ _ _ => rfl)) ?_) fun v6 H7 e7 hv6 => ?_
          · exact t_test (K := K) (d_is (d_op (d_var rfl (.int _)) (d_var rfl (.int _)) (rd_eq (shaped_int _) (shaped_int _))) (by rw [eqv_int]))
          · exact d_var rfl (.int _)
          · unfold hereL intsD
            rw [List.map_map]
            rfl
          · have a7 := hv5.mono (e6.trans e7)
            have cat : ∀ {σ : L2.St} {H' : Hp}, Ex H7 H' → σ[5]? = some (some v5) → σ[6]? = some (some v6) → EvD K (tOp (rAddX K) (tVar 5) (tVar 6)) σ H' (intsD (aheadL l cs i ++ hereL l cs i)) := fun e h5 h6 => d_op (d_var h5 (a7.mono e)) (d_var h6 (hv6.mono e)) (rd_catI (by omega))
            refine s_asg (d_op (d_var rfl (hf.mono ((e3.trans e46).trans e7))) (d_lst (da_cons (d_if (d := .int (((aheadL l cs i ++ hereL l cs i).min?).getD (-1))) (b := !decide (aheadL l cs i ++ hereL l cs i = [])) (t_test (d_is (d_op (cat (Evl.Ex.refl _) rfl rfl) (d_lst da_nil (by decide)) (rd_ne (shaped_ints _) shaped_nil)) (by rw [ints_nil]))) (fun hb2 => ?_) (fun hb2 => ?_)) da_nil) (show 1 ≤ 1000 by decide)) (rd_catI (ys := [_]) (by show found.length + 1 ≤ 1000; omega))) fun v8 H8 e8 hv8 => ?_
            · have hz : aheadL l cs i ++ hereL l cs i ≠ [] := fun z => by rw [decide_eq_true z] at hb2; cases hb2
              cases hm : (aheadL l cs i ++ hereL l cs i).min? with
              | none => exact absurd (List.min?_eq_none_iff.mp hm) hz
              | some m =>
                have hm2 := List.min?_eq_some_iff.mp hm
                exact d_minL (cat (Evl.Ex.refl _) rfl rfl) hm2.1 hm2.2
            · have hz : aheadL l cs i ++ hereL l cs i = [] := by simpa using hb2
              rw [hz]
              exact d_neg d_int
            · exact ⟨((((eb2.trans e3).trans e46).trans e7).trans e8), v8, some (.int (i : Int)), some v4, some v5, some v6, _, rfl, hv8, by rw [List.length_append]; show found.length + 1 = i + 1; omega, hgo⟩
    · obtain ⟨f, c3, c4, c5, c6, found, rfl, hf, hfl, hgo⟩ := hp
      refine s_ret (d_var rfl hf) fun v H3 e3 hv => k v H3 ((e1.trans e2).trans e3) ?_
      rw [hn, show (List.range (cs.length - 1)).drop (cs.length - 1) = [] from by rw [List.drop_eq_nil_iff, List.length_range]; exact Nat.le_refl _] at hgo
      have hgo : found = lawL l cs := hgo
      rw [← hgo]
      exact hv
end
end DL
/-! THE PLAIN LAW: the two reckonings agree -/
namespace DL
open PySem
def cN (cs : List Cert) (p e : Int) : Int := ((countsL cs p e).length : Int)
theorem cN_zero (cs : List Cert) {p e : Int} (h : e ≤ p + 1) : cN cs p e = 0 := by
  unfold cN countsL
  rw [show (e - (p + 1)).toNat = 0 by omega]
  rfl
theorem cN_step (cs : List Cert) {p e : Int} (h : p + 1 ≤ e) : cN cs p (e + 1) = cN cs p e + (if ownAt cs e = true then 0 else 1) := by
  unfold cN countsL
  have em : (e + 1 - (p + 1)).toNat = (e - (p + 1)).toNat + 1 := by omega
  have ee : p + 1 + (((e - (p + 1)).toNat : Nat) : Int) = e := by omega
  rw [em, List.range_succ, List.filter_append, List.map_append, List.length_append, List.length_map, List.length_map]
  have es : (List.filter (fun (i : Nat) => !ownAt cs (p + 1 + (i : Int))) [(e - (p + 1)).toNat]).length = if ownAt cs e = true then 0 else 1 := by
    rw [List.filter_cons, ee]
    cases ownAt cs e <;> rfl
  rw [es]
  split <;> simp
theorem cN_mono (cs : List Cert) {p : Int} (k : Nat) : ∀ {e : Int}, p + 1 ≤ e → cN cs p e ≤ cN cs p (e + (k : Int)) := by
  induction k with
  | zero => intro e h; simp
  | succ k ih =>
    intro e h
    have h1 := ih h
    have h2 := cN_step cs (p := p) (e := e + (k : Int)) (by omega)
    have e1 : e + ((k + 1 : Nat) : Int) = e + (k : Int) + 1 := by omega
    rw [e1, h2]
    split <;> omega
def IsMin (l : Int) (S : Int → Prop) : Prop := ((∀ x, ¬ S x) ∧ l = -1) ∨ (S l ∧ ∀ x, S x → l ≤ x)
theorem isMin_uniq {l m : Int} {S : Int → Prop} (a : IsMin l S) (b : IsMin m S) : l = m := by
  rcases a with ⟨a1, a2⟩ | ⟨a1, a2⟩
  · rcases b with ⟨b1, b2⟩ | ⟨b1, b2⟩
    · rw [a2, b2]
    · exact absurd b1 (a1 m)
  · rcases b with ⟨b1, b2⟩ | ⟨b1, b2⟩
    · exact absurd a1 (b1 l)
    · exact Int.le_antisymm (a2 m b1) (b2 l a1)
theorem isMin_list (xs : List Int) : IsMin ((xs.min?).getD (-1)) (fun x => x ∈ xs) := by
  cases h : xs.min? with
  | none =>
    have e := List.min?_eq_none_iff.mp h
    subst e
    exact .inl ⟨fun x hx => by simp at hx, rfl⟩
  | some m =>
    have e := List.min?_eq_some_iff.mp h
    exact .inr ⟨e.1, e.2⟩
theorem isMin_congr {l : Int} {S S' : Int → Prop} (h : IsMin l S) (e : ∀ x, S x ↔ S' x) : IsMin l S' := by
  rcases h with ⟨a1, a2⟩ | ⟨a1, a2⟩
  · exact .inl ⟨fun x hx => a1 x ((e x).mpr hx), a2⟩
  · exact .inr ⟨(e l).mp a1, fun x hx => a2 x ((e x).mpr hx)⟩
/-- the least of two sets of numbers that are not negative -/
theorem isMin_or {a b : Int} {S T : Int → Prop} (hs : ∀ x, S x → 0 ≤ x) (ht : ∀ x, T x → 0 ≤ x) (ha : IsMin a S) (hb : IsMin b T) : IsMin (lesserI a b) (fun x => S x ∨ T x) := by
  unfold lesserI
  rcases ha with ⟨a1, rfl⟩ | ⟨a1, a2⟩
  · rw [if_pos (.inl rfl)]
    rcases hb with ⟨b1, rfl⟩ | ⟨b1, b2⟩
    · exact .inl ⟨fun x hx => hx.elim (a1 x) (b1 x), rfl⟩
    · have h0 := ht b b1
      have em : max (-1) b = b := by omega
      rw [em]
      exact .inr ⟨.inr b1, fun x hx => hx.elim (fun z => absurd z (a1 x)) (b2 x)⟩
  · have h0 := hs a a1
    rcases hb with ⟨b1, rfl⟩ | ⟨b1, b2⟩
    · rw [if_pos (.inr rfl)]
      have em : max a (-1) = a := by omega
      rw [em]
      exact .inr ⟨.inl a1, fun x hx => hx.elim (a2 x) fun z => absurd z (b1 x)⟩
    · have h1 := ht b b1
      rw [if_neg (by omega)]
      by_cases h : a ≤ b
      · have em : min a b = a := by omega
        rw [em]
        exact .inr ⟨.inl a1, fun x hx => hx.elim (a2 x) fun z => Int.le_trans h (b2 x z)⟩
      · have em : min a b = b := by omega
        rw [em]
        exact .inr ⟨.inr b1, fun x hx => hx.elim (fun z => Int.le_trans (by omega) (a2 x z)) (b2 x)⟩
/-- what stands ahead of a place k -/
def Sk (d : Int) (cs : List Cert) (k : Int) (x : Int) : Prop := ∃ p ∈ pairsL d cs, p.1 < k ∧ x = p.2 - cN cs p.1 k
theorem mem_pairs {d : Int} {cs : List Cert} {p : Int × Int} : p ∈ pairsL d cs ↔ 0 ≤ p.2 ∧ (p = (-1, d) ∨ ∃ i : Nat, i < cs.length - 1 ∧ p = ((i : Int), depthAt cs i)) := by
  unfold pairsL pairs0
  rw [List.mem_filter, List.mem_cons, List.mem_map]
  constructor
  · rintro ⟨h1, h2⟩
    refine ⟨by simpa using h2, ?_⟩
    rcases h1 with h1 | ⟨i, hi, e⟩
    · exact .inl h1
    · exact .inr ⟨i, List.mem_range.mp hi, e.symm⟩
  · rintro ⟨h1, h2⟩
    refine ⟨?_, by simpa using h1⟩
    rcases h2 with h2 | ⟨i, hi, e⟩
    · exact .inl h2
    · exact .inr ⟨i, List.mem_range.mpr hi, e.symm⟩
theorem mem_ahead {d : Int} {cs : List Cert} {k : Nat} (hk : k < cs.length - 1) {x : Int} : x ∈ aheadL d cs k ↔ ∃ p ∈ pairsL d cs, p.1 < (k : Int) ∧ x = p.2 - cN cs p.1 ((k : Int) + 1) := by
  unfold aheadL
  rw [List.mem_map]
  have em : min ((k : Int) + 1) ((cs.length : Int) - 1) = (k : Int) + 1 := by omega
  constructor
  · rintro ⟨p, hp, rfl⟩
    have h := List.mem_filter.mp hp
    exact ⟨p, h.1, of_decide_eq_true h.2, by rw [em]; rfl⟩
  · rintro ⟨p, hp, h, rfl⟩
    exact ⟨p, List.mem_filter.mpr ⟨hp, decide_eq_true h⟩, by rw [em]; rfl⟩
theorem mem_here {d : Int} {cs : List Cert} {k : Nat} (hk : k < cs.length - 1) {x : Int} : x ∈ hereL d cs k ↔ 0 ≤ depthAt cs k ∧ x = depthAt cs k := by
  unfold hereL
  rw [List.mem_map]
  constructor
  · rintro ⟨p, hp, rfl⟩
    have h := List.mem_filter.mp hp
    have hk1 : p.1 = (k : Int) := by simpa using h.2
    obtain ⟨h0, rfl | ⟨i, hi, rfl⟩⟩ := mem_pairs.mp h.1
    · have : (-1 : Int) = (k : Int) := hk1
      omega
    · have : (i : Int) = (k : Int) := hk1
      have e : i = k := by omega
      subst e
      exact ⟨h0, rfl⟩
  · rintro ⟨h0, rfl⟩
    exact ⟨((k : Int), depthAt cs k), List.mem_filter.mpr ⟨mem_pairs.mpr ⟨h0, .inr ⟨k, hk, rfl⟩⟩, by simp⟩, rfl⟩
theorem Sk_step {d : Int} {cs : List Cert} {k : Nat} (hk : k < cs.length - 1) (x : Int) : Sk d cs ((k : Int) + 1) x ↔ x ∈ aheadL d cs k ∨ x ∈ hereL d cs k := by
  rw [mem_ahead hk, mem_here hk]
  constructor
  · rintro ⟨p, hp, h1, rfl⟩
    by_cases h : p.1 < (k : Int)
    · exact .inl ⟨p, hp, h, rfl⟩
    · right
      have hk1 : p.1 = (k : Int) := by omega
      rw [hk1, cN_zero cs (Int.le_refl _), Int.sub_zero]
      obtain ⟨h0, rfl | ⟨i, hi, rfl⟩⟩ := mem_pairs.mp hp
      · have : (-1 : Int) = (k : Int) := hk1
        omega
      · have : (i : Int) = (k : Int) := hk1
        have e : i = k := by omega
        subst e
        exact ⟨h0, rfl⟩
  · rintro (⟨p, hp, h1, rfl⟩ | ⟨h0, rfl⟩)
    · exact ⟨p, hp, by omega, rfl⟩
    · refine ⟨((k : Int), depthAt cs k), mem_pairs.mpr ⟨h0, .inr ⟨k, hk, rfl⟩⟩, by show (k : Int) < (k : Int) + 1; omega, ?_⟩
      rw [cN_zero cs (Int.le_refl _), Int.sub_zero]
theorem ahead_of_Sk {d : Int} {cs : List Cert} {k : Nat} (hk : k < cs.length - 1) (x : Int) : x ∈ aheadL d cs k ↔ Sk d cs (k : Int) (x + (if ownAt cs (k : Int) = true then 0 else 1)) := by
  rw [mem_ahead hk]
  constructor
  · rintro ⟨p, hp, h1, rfl⟩
    refine ⟨p, hp, h1, ?_⟩
    rw [cN_step cs (show p.1 + 1 ≤ (k : Int) by omega)]
    omega
  · rintro ⟨p, hp, h1, e⟩
    refine ⟨p, hp, h1, ?_⟩
    rw [cN_step cs (show p.1 + 1 ≤ (k : Int) by omega)]
    omega
theorem Sk_zero {d : Int} {cs : List Cert} (x : Int) : Sk d cs 0 x ↔ 0 ≤ d ∧ x = d := by
  constructor
  · rintro ⟨p, hp, h1, rfl⟩
    obtain ⟨h0, rfl | ⟨i, hi, rfl⟩⟩ := mem_pairs.mp hp
    · rw [cN_zero cs (show (0:Int) ≤ -1 + 1 by decide)]
      exact ⟨h0, Int.sub_zero _⟩
    · have : (i : Int) < 0 := h1
      omega
  · rintro ⟨h0, rfl⟩
    exact ⟨(-1, x), mem_pairs.mpr ⟨h0, .inl rfl⟩, show (-1:Int) < 0 by decide, by rw [cN_zero cs (show (0:Int) ≤ -1 + 1 by decide), Int.sub_zero]⟩
/-- what is known ahead of place k -/
structure Ahd (d : Int) (cs : List Cert) (k : Nat) (l : Int) : Prop where
  mn : IsMin l (Sk d cs (k : Int))
  nn : ∀ x, Sk d cs (k : Int) x → 0 ≤ x
theorem Ahd.ge {d : Int} {cs : List Cert} {k : Nat} {l : Int} (a : Ahd d cs k l) : -1 ≤ l := by
  rcases a.mn with ⟨_, rfl⟩ | ⟨h, _⟩
  · exact Int.le_refl _
  · have := a.nn l h
    omega
theorem Ahd.start {d : Int} {cs : List Cert} (h : -1 ≤ d) : Ahd d cs 0 d := by
  refine ⟨?_, fun x hx => ?_⟩
  · by_cases h0 : 0 ≤ d
    · exact .inr ⟨(Sk_zero d).mpr ⟨h0, rfl⟩, fun x hx => by rw [((Sk_zero x).mp hx).2]; exact Int.le_refl _⟩
    · exact .inl ⟨fun x hx => h0 ((Sk_zero x).mp hx).1, by omega⟩
  · have := (Sk_zero x).mp hx
    omega
/-- one step: passed, or on -/
theorem Ahd.step {d : Int} {cs : List Cert} {k : Nat} {l : Int} (a : Ahd d cs k l) (hk : k < cs.length - 1) {c : Cert} (hc : cs[k]? = some c) (hd : -1 ≤ c.depth) :
    (leftB l c = -2 ∧ (aheadL d cs k).filter (fun x => decide (x < 0)) ≠ []) ∨ (leftB l c ≠ -2 ∧ (aheadL d cs k).filter (fun x => decide (x < 0)) = [] ∧ Ahd d cs (k + 1) (leftB l c) ∧ leftB l c = ((aheadL d cs k ++ hereL d cs k).min?).getD (-1)) := by
  have hown : ownAt cs (k : Int) = c.own := by
    unfold ownAt
    rw [Int.toNat_natCast, hc]
  have hdep : depthAt cs k = c.depth := by
    unfold depthAt
    rw [hc]
  have hge := a.ge
  by_cases hp : c.own = false ∧ l = 0
  · left
    have hl : leftB l c = -2 := by
      unfold leftB
      rw [if_pos hp]
    refine ⟨hl, fun z => ?_⟩
    have hm : Sk d cs (k : Int) 0 := by
      rcases a.mn with ⟨_, h⟩ | ⟨h, _⟩
      · omega
      · rw [hp.2] at h
        exact h
    have ha : (-1 : Int) ∈ aheadL d cs k := by
      rw [ahead_of_Sk hk, hown, hp.1]
      exact hm
    have : (-1 : Int) ∈ (aheadL d cs k).filter (fun x => decide (x < 0)) := List.mem_filter.mpr ⟨ha, by decide⟩
    rw [z] at this
    simp at this
  · right
    have nnA : ∀ x, x ∈ aheadL d cs k → 0 ≤ x := fun x hx => by
      rw [ahead_of_Sk hk, hown] at hx
      have h1 := a.nn _ hx
      cases ho : c.own with
      | true => rw [ho] at h1; simpa using h1
      | false =>
        rw [ho] at h1 hx
        have h1' : 0 ≤ x + 1 := h1
        have hx' : Sk d cs (k : Int) (x + 1) := hx
        have hl0 : l ≠ 0 := fun z => hp ⟨ho, z⟩
        rcases a.mn with ⟨h, _⟩ | ⟨h, h2⟩
        · exact absurd hx' (h _)
        · have := h2 _ hx'
          have := a.nn l h
          omega
    have nnH : ∀ x, x ∈ hereL d cs k → 0 ≤ x := fun x hx => by
      have := (mem_here hk).mp hx
      omega
    have hf : (aheadL d cs k).filter (fun x => decide (x < 0)) = [] := by
      rw [List.filter_eq_nil_iff]
      intro x hx
      have := nnA x hx
      simp
      omega
    have mA : IsMin (if c.own = false ∧ 0 < l then l - 1 else l) (fun x => x ∈ aheadL d cs k) := by
      rcases a.mn with ⟨h, h2⟩ | ⟨h, h2⟩
      · rw [if_neg (by omega)]
        exact .inl ⟨fun x hx => h _ ((ahead_of_Sk hk x).mp hx), h2⟩
      · have h0 := a.nn l h
        cases ho : c.own with
        | true =>
          rw [if_neg (by simp)]
          refine .inr ⟨?_, fun x hx => ?_⟩
          · show l ∈ aheadL d cs k
            rw [ahead_of_Sk hk, hown, ho]
            simpa using h
          · have hx : x ∈ aheadL d cs k := hx
            rw [ahead_of_Sk hk, hown, ho] at hx
            have := h2 _ hx
            simpa using this
        | false =>
          have hl0 : l ≠ 0 := fun z => hp ⟨ho, z⟩
          rw [if_pos ⟨rfl, by omega⟩]
          refine .inr ⟨?_, fun x hx => ?_⟩
          · show (l - 1) ∈ aheadL d cs k
            rw [ahead_of_Sk hk, hown, ho]
            show Sk d cs (k : Int) (l - 1 + 1)
            rw [Int.sub_add_cancel]
            exact h
          · have hx : x ∈ aheadL d cs k := hx
            rw [ahead_of_Sk hk, hown, ho] at hx
            have := h2 (x + 1) hx
            omega
    have mH : IsMin c.depth (fun x => x ∈ hereL d cs k) := by
      by_cases h0 : 0 ≤ c.depth
      · exact .inr ⟨(mem_here hk).mpr ⟨by rw [hdep]; exact h0, hdep.symm⟩, fun x hx => by rw [((mem_here hk).mp hx).2, hdep]; exact Int.le_refl _⟩
      · exact .inl ⟨fun x hx => by have := ((mem_here hk).mp hx).1; rw [hdep] at this; exact h0 this, by omega⟩
    have mm := isMin_or nnA nnH mA mH
    have el : leftB l c = lesserI (if c.own = false ∧ 0 < l then l - 1 else l) c.depth := by
      unfold leftB
      rw [if_neg hp]
    have nxt : Ahd d cs (k + 1) (leftB l c) := by
      rw [el]
      refine ⟨isMin_congr mm fun x => ?_, fun x hx => ?_⟩
      · have := Sk_step (d := d) (cs := cs) hk x
        exact this.symm
      · have := (Sk_step (d := d) (cs := cs) hk x).mp hx
        exact this.elim (nnA x) (nnH x)
    refine ⟨?_, hf, nxt, ?_⟩
    · have := nxt.ge
      omega
    · rw [el]
      exact isMin_uniq (isMin_congr mm fun x => List.mem_append.symm) (isMin_list (aheadL d cs k ++ hereL d cs k))
theorem leftGo_passed : ∀ r : List Cert, leftGo (-2) r = []
  | [] => rfl
  | c :: r => by
    rw [leftGo_step, if_pos rfl]
    exact leftGo_passed r
theorem agree {d : Int} {cs : List Cert} (hd : ∀ c ∈ cs, -1 ≤ c.depth) : ∀ (m k : Nat) (l : Int) (found : List Int), k + m = cs.length - 1 → Ahd d cs k l → l ≠ -2 →
    lawGo d cs ((List.range (cs.length - 1)).drop k) found = found ++ leftGo l (cs.dropLast.drop k) ∧
      (-2 ∈ leftGo l (cs.dropLast.drop k) ↔ ∃ p ∈ pairsL d cs, p.2 < cN cs p.1 ((cs.length : Int) - 1)) := by
  intro m
  induction m with
  | zero =>
    intro k l found e a hl
    have h1 : (List.range (cs.length - 1)).drop k = [] := by
      rw [List.drop_eq_nil_iff, List.length_range]
      omega
    have h2 : cs.dropLast.drop k = [] := by
      rw [List.drop_eq_nil_iff, List.length_dropLast]
      omega
    rw [h1, h2]
    refine ⟨(List.append_nil _).symm, ⟨fun h => by simp [leftGo] at h, fun ⟨p, hp, h⟩ => ?_⟩⟩
    exfalso
    obtain ⟨h0, hpp⟩ := mem_pairs.mp hp
    by_cases hn : cs.length = 0
    · rcases hpp with rfl | ⟨i, hi, rfl⟩
      · rw [cN_zero cs (by show (cs.length : Int) - 1 ≤ -1 + 1; omega)] at h
        omega
      · omega
    · have hk : (k : Int) = (cs.length : Int) - 1 := by omega
      rw [← hk] at h
      have hlt : p.1 < (k : Int) ∨ cN cs p.1 (k : Int) = 0 := by
        rcases hpp with rfl | ⟨i, hi, rfl⟩
        · left; show (-1 : Int) < (k : Int); omega
        · left; show (i : Int) < (k : Int); omega
      rcases hlt with hlt | hz
      · have := a.nn (p.2 - cN cs p.1 (k : Int)) ⟨p, hp, hlt, rfl⟩
        omega
      · omega
  | succ m ih =>
    intro k l found e a hl
    have hk : k < cs.length - 1 := by omega
    have hdr : (List.range (cs.length - 1)).drop k = k :: (List.range (cs.length - 1)).drop (k + 1) := by
      rw [List.drop_eq_getElem_cons (by rw [List.length_range]; exact hk), List.getElem_range]
    have hkl : k < cs.length := by omega
    have hc : cs[k]? = some cs[k] := List.getElem?_eq_getElem hkl
    have hdr2 : cs.dropLast.drop k = cs[k] :: cs.dropLast.drop (k + 1) := by
      rw [List.drop_eq_getElem_cons (by rw [List.length_dropLast]; exact hk), List.getElem_dropLast]
    rw [hdr, hdr2, lawGo_step, leftGo_step, if_neg hl]
    rcases a.step hk hc (hd _ (List.getElem_mem hkl)) with ⟨s1, s2⟩ | ⟨s1, s2, s3, s4⟩
    · rw [if_pos s2, s1, leftGo_passed]
      refine ⟨rfl, ⟨fun _ => ?_, fun _ => List.mem_cons.mpr (.inl rfl)⟩⟩
      obtain ⟨x, hx⟩ := List.exists_mem_of_ne_nil _ s2
      have hx2 := List.mem_filter.mp hx
      obtain ⟨p, hp, h1, rfl⟩ := (mem_ahead hk).mp hx2.1
      have h2 : p.2 - cN cs p.1 ((k : Int) + 1) < 0 := of_decide_eq_true hx2.2
      have h3 := cN_mono cs (p := p.1) (cs.length - 1 - (k + 1)) (e := (k : Int) + 1) (by omega)
      have e3 : (k : Int) + 1 + ((cs.length - 1 - (k + 1) : Nat) : Int) = (cs.length : Int) - 1 := by omega
      rw [e3] at h3
      exact ⟨p, hp, by omega⟩
    · rw [if_neg (by rw [s2]; simp)]
      obtain ⟨i1, i2⟩ := ih (k + 1) (leftB l cs[k]) (found ++ [((aheadL d cs k ++ hereL d cs k).min?).getD (-1)]) (by omega) s3 s1
      rw [i1, ← s4]
      refine ⟨by rw [List.append_assoc]; rfl, ?_⟩
      rw [← i2, List.mem_cons]
      exact ⟨fun h => h.resolve_left (Ne.symm s1), .inr⟩
theorem law_left_eq {d : Int} {cs : List Cert} (h : -1 ≤ d) (hd : ∀ c ∈ cs, -1 ≤ c.depth) : lawL d cs = leftL d cs := by
  have q := (agree hd (cs.length - 1) 0 d [] (by omega) (Ahd.start h) (by omega)).1
  exact q
theorem law_passed {d : Int} {cs : List Cert} (h : -1 ≤ d) (hd : ∀ c ∈ cs, -1 ≤ c.depth) : -2 ∈ leftL d cs ↔ ∃ p ∈ pairsL d cs, p.2 < cN cs p.1 ((cs.length : Int) - 1) :=
  (agree hd (cs.length - 1) 0 d [] (by omega) (Ahd.start h) (by omega)).2
theorem depth_ge {c : Cert} (hc : c.ok) : -1 ≤ c.depth := by
  unfold Cert.depth
  cases hb : c.basic with
  | none => exact Int.le_refl _
  | some q =>
    obtain ⟨b, n⟩ := q
    have hm : PV.basic b n ∈ c.parts := by
      unfold Cert.parts
      rw [hb]
      exact List.mem_append.mpr (.inl (List.mem_cons.mpr (.inl rfl)))
    have := hc.parts _ hm
    unfold PV.ok at this
    simp only [Bool.and_eq_true, decide_eq_true_eq] at this
    exact this.1
end DL
/-! the cup -/
namespace DL
open PySem PySem.Spec PyProof.Rows L2
def CupAt (H : Hp) (L : Addr) : Prop := ∃ a b : Int, H L = some (.lst [.int a, .int b]) ∧ 0 ≤ a ∧ 0 ≤ b ∧ b ≤ 4294967296
def ExC (L : Addr) (H H' : Hp) : Prop := ∀ b o, b ≠ L → H b = some o → H' b = some o
theorem ExC.refl (L : Addr) (H : Hp) : ExC L H H := fun _ _ _ h => h
theorem ExC.trans {L : Addr} {H1 H2 H3 : Hp} (a : ExC L H1 H2) (b : ExC L H2 H3) : ExC L H1 H3 := fun c o n h => b c o n (a c o n h)
theorem ExC.of {L : Addr} {H H' : Hp} (e : Ex H H') : ExC L H H' := fun b o _ h => e b o h
theorem ExC.upd {L : Addr} {H : Hp} {o : HO} : ExC L H (upd H L o) := fun b u n h => by rw [upd_ne n]; exact h
theorem CupAt.mono {H H' : Hp} {L : Addr} (c : CupAt H L) (e : Ex H H') : CupAt H' L := by
  obtain ⟨a, b, h, r⟩ := c
  exact ⟨a, b, e _ _ h, r⟩
section
variable {K : PySem.W.Frag} {H H' : Hp} {L : Addr} {v : V} {d : PyData}
theorem Da.cup (h : Da K H v d) (f : flatL d = true) (c : CupAt H L) (e : ExC L H H') : Da K H' v d := by
  obtain ⟨a, b, hL, _⟩ := c
  exact Da.stay (fun b xs q => e b _ (fun z => by rw [z, hL] at q; cases q) q) (fun b o u q => e b _ (fun z => by rw [z, hL] at q; cases q) q) d v f h
theorem DaAll.cup {vs : List V} {ds : List PyData} (h : DaAll K H vs ds) (f : flatLs ds = true) (c : CupAt H L) (e : ExC L H H') : DaAll K H' vs ds := by
  obtain ⟨a, b, hL, _⟩ := c
  exact DaAll.stay (fun b xs q => e b _ (fun z => by rw [z, hL] at q; cases q) q) (fun b o u q => e b _ (fun z => by rw [z, hL] at q; cases q) q) ds vs f h
theorem da_cup {a b : Int} (h : H L = some (.lst [.int a, .int b])) : Da K H (.ref L) (.list [.int a, .int b]) := .lst h (.cons (.int a) (.cons (.int b) .nil))
theorem cup_of {a b : Int} (h : Da K H v (.list [.int a, .int b])) (ha : 0 ≤ a) (hb : 0 ≤ b) (hb2 : b ≤ 4294967296) : ∃ L, v = .ref L ∧ CupAt H L := by
  cases h with
  | lst h1 h2 =>
    have e := Da.ints (bs := [a, b]) h2
    subst e
    exact ⟨_, rfl, a, b, h1, ha, hb, hb2⟩
/-- a list of other data than two numbers is another list -/
theorem Da.other {ds : List PyData} {p : Addr} {xs : List V} (c : CupAt H L) (h : H p = some (.lst xs)) (ha : DaAll K H xs ds) (n : ∀ a b, ds ≠ [.int a, .int b]) : p ≠ L := fun z => by
  obtain ⟨a, b, hL, _⟩ := c
  rw [z, hL] at h
  cases h
  cases ha with
  | cons h1 h2 =>
    cases h2 with
    | cons h2 h3 =>
      cases h1; cases h2; cases h3
      exact n a b rfl
theorem DaAll.ge {vs : List V} {ds : List PyData} (h : DaAll K H vs ds) : vs.length = ds.length := h.length
end
theorem atI_in {ds : List PyData} {r : Int} (h0 : 0 ≤ r) (h1 : r < ds.length) : ∃ d ∈ ds, atI ds r = some d := by
  have hl : r.toNat < ds.length := by omega
  exact ⟨ds[r.toNat], List.getElem_mem hl, atI_nat' h0 (List.getElem?_eq_getElem hl)⟩
section
variable {K : PySem.W.Frag} {σ : L2.St} {H : Hp} {L : Addr} {te tl : TE} {D : Ends} {tz : TS}
theorem q_sub {i j : Nat} {k x : Int} {xs : List V} (h : EvD K te σ H (.int x)) (hv : σ[i]? = some (some (.ref L))) (hL : H L = some (.lst xs)) (hj : ixN xs.length k = some j) (kk : ∀ H1, Ex H H1 → tz D σ (upd H1 L (.lst (xs.set j (.int x))))) :
    tSeq (tAsg te (gSub (tVar i) (tC (.int k)) rSetL)) tz D σ H := h H (Evl.Ex.refl H) _ fun v H1 e1 hv1 => by
  cases hv1
  exact ⟨.ref L, hv, L, xs, k, j, rfl, rfl, e1 _ _ hL, hj, kk H1 e1⟩
theorem rd_pow {i j : Int} (h : CPow i j) : RD K (rI CPow fun i j => .int (i ^ j.toNat)) (.int i) (.int j) (.int (i ^ j.toNat)) := rd_I h fun _ => .int _
theorem rd_fdiv {i j : Int} (h : CDiv i j) : RD K (rI CDiv fun i j => .int (i / j)) (.int i) (.int j) (.int (i / j)) := rd_I h fun _ => .int _
theorem rd_mod {i j : Int} (h : 0 < j) : RD K (rI (fun _ j => 0 < j) fun i j => .int (i % j)) (.int i) (.int j) (.int (i % j)) := rd_I h fun _ => .int _
/-- list(script) -/
theorem d_listS {i : Nat} {a : Addr} {ns : List Int} (h : σ[i]? = some (some (.ref a))) (hs : SqL K H a (ns.map V.int)) : EvD K (tCB (rListOf K) (tCons (tVar i) tNil)) σ H (.list (ns.map PyData.int)) := fun H1 e Q q =>
  ⟨.ref a, h, a, _, rfl, .inl (Evl.ex_l e hs), fun l hl => q _ _ (Evl.Ex.new hl) (.lst upd_same (da_ints ns))⟩
end
def SpCup (K : PySem.W.Frag) : Sp := fun vs H Q _ => ∃ (a : Addr) (ns : List Int), vs = [.ref a] ∧ SqL K H a (ns.map V.int) ∧ ns.length ≤ 63 ∧ ∀ L H', Ex H H' → CupAt H' L → Q (.ref L) H'
def SpRoll (_ : PySem.W.Frag) : Sp := fun vs H Q _ => ∃ L m, vs = [.ref L, .int m] ∧ CupAt H L ∧ 1 ≤ m ∧ m ≤ 1000 ∧ ∀ (r : Int) H', ExC L H H' → CupAt H' L → 0 ≤ r → r < m → Q (.int r) H'
def SpSome (K : PySem.W.Frag) : Sp := fun vs H Q _ => ∃ L v ds, vs = [.ref L, v] ∧ CupAt H L ∧ Da K H v (.list ds) ∧ flatLs ds = true ∧ 1 ≤ ds.length ∧ ds.length ≤ 1000 ∧ (∀ a b, ds ≠ [.int a, .int b]) ∧
  ∀ v' H' d, ExC L H H' → CupAt H' L → d ∈ ds → Da K H' v' d → Q v' H'
section
variable {P : Program} {w : World} {K : PySem.W.Frag} {mg : Str → Option Value} {base : Heap} {A : Ad}
theorem ok_law_cup (T : Txt K mg A) : FnOk P w K mg base CX0 1 A.a_law_cup A.f_law_cup ["_law_script"] (SpCup K) := by
  refine T.d_law_cup.fn.ok sc_law_cup (fun vs H Q E h => ?_) (fun cdv AA outer s H vs Q E hr h => ?_)
  · obtain ⟨a, ns, rfl, _⟩ := h
    rfl
  · obtain ⟨a, ns, rfl, hs, hl, k⟩ := h
    refine ⟨_, (pss_cons (ps_set (i := 1) sc_law_cup.nd rfl (Or.inl rfl) (pe_B call_abs T.b_abs (pa_cons (pe_ix (k_ix (K := K) rfl) (pe_op (k_add (K := K) rfl) (pe_T (k_listof (K := K) rfl) T.b_list (pa_cons (pv 0) pa_nil)) (pe_lst (pa_cons pe_int pa_nil))) pe_int (fun _ _ => rfl)) pa_nil)))
    (pss_one (ps_ret (pe_lst (pa_cons (pe_ifExp (pt_cmpR op_ge (pv 1) (pe_op op_pow pe_int pe_int) (nomark _)) (pe_op op_fdiv (pv 1) pe_int) pe_int) (pa_cons (pe_op (k_add (K := K) rfl) (pe_op op_mod (pe_T call_int1 T.b_int (pa_cons (pe_op (k_add (K := K) rfl) (pe_op (k_mul (K := K) rfl) (pv 1) pe_int) pe_int) pa_nil)) pe_int) pe_int) pa_nil)))))), ?_⟩
    obtain ⟨n0, hn⟩ : ∃ n0, atI (ns.map PyData.int ++ [.int 0]) 0 = some (.int n0) := by
      cases ns with
      | nil => exact ⟨0, rfl⟩
      | cons n r =>
        refine ⟨n, ?_⟩
        exact atI_nat (j := 0) rfl
    refine q_asg (d_abs (d_op (d_op (d_listS rfl hs) (d_lst (da_cons d_int da_nil) (show 1 ≤ 1000 by decide)) (rd_cat (by rw [List.length_map]; show _ + 1 ≤ 1000; omega))) d_int (rd_ixL hn))) fun v1 H1 e1 hv1 => ?_
    have hx : EvD K (tVar 1) [some (.ref a), some v1] H1 (.int (n0.natAbs : Int)) := d_var rfl hv1
    refine s_ret (d_lst (da_cons (d_if (d := .int (if (10 : Int) ^ (Int.toNat 18) ≤ (n0.natAbs : Int) then (n0.natAbs : Int) / 71 else 0)) (t_test (d_op hx (d_op d_int d_int (rd_pow ?_)) rd_ge)) (fun hb => d_is (d_op hx d_int (rd_fdiv ?_)) ?_) fun hb => d_is d_int ?_) (da_cons (d_op (d_op (d_int1 (d_op (d_op hx d_int (rd_mul ?_)) d_int rd_add)) d_int (rd_mod ?_)) d_int rd_add) da_nil)) (show 2 ≤ 1000 by decide)) fun v H2 e2 hv => ?_
    · unfold CPow; decide
    · unfold CDiv; decide
    · rw [if_pos (of_decide_eq_true hb)]
    · rw [if_neg (of_decide_eq_false hb)]
    · exact .inr (by decide)
    · decide
    · obtain ⟨L, rfl, c⟩ := cup_of hv (by split <;> omega) (by omega) (by omega)
      exact k L H2 (e1.trans e2) c
theorem ok_law_roll (T : Txt K mg A) : FnOk P w K mg base CX0 1 A.a_law_roll A.f_law_roll ["_law_cup_here", "_law_many"] (SpRoll K) := by
  refine T.d_law_roll.fn.ok sc_law_roll (fun vs H Q E h => ?_) (fun cdv AA outer s H vs Q E hr h => ?_)
  · obtain ⟨L, m, rfl, _⟩ := h
    rfl
  · obtain ⟨L, m, rfl, ⟨a, b, hL, ha, hb, hb2⟩, h1, h2, k⟩ := h
    refine ⟨_, (pss_cons (ps_if (pt_cmpR op_gt (pe_ix (k_ix (K := K) rfl) (pv 0) pe_int (fun _ _ => rfl)) pe_int (nomark _)) (pss_cons (ps_set (i := 2) sc_law_roll.nd rfl (Or.inl rfl) (pe_op op_mod (pe_T call_int1 T.b_int (pa_cons (pe_ix (k_ix (K := K) rfl) (pv 0) pe_int (fun _ _ => rfl)) pa_nil)) (pv 1)))
    (pss_cons (ps_asg (pe_op op_fdiv (pe_ix (k_ix (K := K) rfl) (pv 0) pe_int (fun _ _ => rfl)) (pv 1)) (pg_sub (pv 0) pe_int set_list))
    (pss_one (ps_ret (pv 2))))) pss_nil)
    (pss_cons (ps_asg (pe_op op_mod (pe_T call_int1 T.b_int (pa_cons (pe_op (k_add (K := K) rfl) (pe_op (k_mul (K := K) rfl) (pe_ix (k_ix (K := K) rfl) (pv 0) pe_int (fun _ _ => rfl)) pe_int) pe_int) pa_nil)) pe_int) (pg_sub (pv 0) pe_int set_list))
    (pss_cons (ps_set (i := 3) sc_law_roll.nd rfl (Or.inl rfl) (pe_op op_mod (pe_T call_int1 T.b_int (pa_cons (pe_op (k_mul (K := K) rfl) (pe_ix (k_ix (K := K) rfl) (pv 0) pe_int (fun _ _ => rfl)) (pe_op (k_add (K := K) rfl) (pe_ix (k_ix (K := K) rfl) (pv 0) pe_int (fun _ _ => rfl)) pe_int)) pa_nil)) pe_int))
    (pss_one (ps_ret (pe_op op_mod (pe_T call_int1 T.b_int (pa_cons (pe_op op_fdiv (pv 3) pe_int) pa_nil)) (pv 1))))))), ?_⟩
    have h0 : Da K H (.ref L) (.list [.int a, .int b]) := da_cup hL
    have g0 : ∀ {σ : L2.St} {H1 : Hp}, σ[0]? = some (some (.ref L)) → Da K H1 (.ref L) (.list [.int a, .int b]) → EvD K (tOp (rIxX K) (tVar 0) (tC (.int 0))) σ H1 (.int a) := fun q h => d_op (d_var q h) d_int (rd_ixL rfl)
    refine q_when (b := decide (0 < a)) (t_test (d_op (g0 rfl h0) d_int rd_gt)) (fun hb H1 e1 => ?_) (fun hb H1 e1 => ?_)
    · refine q_asg (d_op (d_int1 (g0 rfl (h0.mono e1))) (d_var rfl (.int m)) (rd_mod (by omega))) fun v2 H2 e2 hv2 => ?_
      refine q_sub (d_op (g0 rfl (h0.mono (e1.trans e2))) (d_var rfl (.int m)) (rd_fdiv ⟨by omega, by omega⟩)) rfl (e2 _ _ (e1 _ _ hL)) rfl fun H3 e3 => ?_
      cases hv2
      refine s_ret (K := K) (d_var rfl (.int _)) fun v H4 e4 hv => ?_
      cases hv
      have e13 := (e1.trans e2).trans e3
      exact k _ H4 (((ExC.of e13).trans .upd).trans (.of e4)) ⟨a / m, b, e4 _ _ upd_same, Int.ediv_nonneg ha (by omega), by assumption, hb2⟩ (Int.emod_nonneg _ (by omega)) (Int.emod_lt_of_pos _ (by omega))
    · refine q_sub (d_op (d_int1 (d_op (d_op (d_op (d_var rfl (h0.mono e1)) d_int (rd_ixL rfl)) d_int (rd_mul (.inr (by decide)))) d_int rd_add)) d_int (rd_mod (by decide))) rfl (e1 _ _ hL) rfl fun H3 e3 => ?_
      have m0 : 0 ≤ (b * 31051 + 7993) % 2147483543 := Int.emod_nonneg _ (by decide)
      have m1 : (b * 31051 + 7993) % 2147483543 < 2147483543 := Int.emod_lt_of_pos _ (by decide)
      generalize hb' : (b * 31051 + 7993) % 2147483543 = b' at m0 m1 ⊢
      obtain ⟨H4, hH⟩ : ∃ H4, H4 = upd H3 L (.lst [V.int a, .int b']) := ⟨_, rfl⟩
      have hL' : H4 L = some (.lst [.int a, .int b']) := by rw [hH]; exact upd_same
      have x4 : ExC L H H4 := by
        rw [hH]
        exact (ExC.of (e1.trans e3)).trans .upd
      change tSeq _ _ _ _ (upd H3 L (.lst [V.int a, .int b']))
      rw [← hH]
      have g1 : ∀ {σ : L2.St}, σ[0]? = some (some (.ref L)) → EvD K (tOp (rIxX K) (tVar 0) (tC (.int 1))) σ H4 (.int b') := fun q => d_op (d_var q (da_cup hL')) d_int (rd_ixL rfl)
      refine q_asg (d_op (d_int1 (d_op (g1 rfl) (d_op (g1 rfl) d_int rd_add) (rd_mul (i := b') (.inl ⟨by omega, by omega⟩)))) d_int (rd_mod (by decide))) fun v3 H5 e5 hv3 => ?_
      refine s_ret (d_op (d_int1 (d_op (d_var rfl hv3) d_int (rd_fdiv (by unfold CDiv; decide)))) (d_var rfl (.int m)) (rd_mod (by omega))) fun v H6 e6 hv => ?_
      cases hv
      exact k _ H6 (x4.trans (.of (e5.trans e6))) ⟨a, b', e6 _ _ (e5 _ _ hL'), ha, m0, by omega⟩ (Int.emod_nonneg _ (by omega)) (Int.emod_lt_of_pos _ (by omega))
theorem ok_law_some (T : Txt K mg A) : FnOk P w K mg base CX0 2 A.a_law_some A.f_law_some ["_law_cup_here", "_law_things"] (SpSome K) := by
  refine T.d_law_some.fn.ok sc_law_some (fun vs H Q E h => ?_) (fun cdv AA outer s H vs Q E hr h => ?_)
  · obtain ⟨L, v, ds, rfl, _⟩ := h
    rfl
  · obtain ⟨L, v, ds, rfl, c, hv, hf, hl, hl2, hn, k⟩ := h
    refine ⟨_, (pss_one (ps_ret (pe_ix (k_ix (K := K) rfl) (pv 1) (pe_cl T.d_law_roll (ok_law_roll T) (hr.mono (by decide)) pass0 (pa_cons (pv 0) (pa_cons (pe_B (k_len (K := K) rfl) T.b_len (pa_cons (pv 1) pa_nil)) pa_nil))) (fun _ _ => rfl)))), ?_⟩
    cases hv with
    | @lst p xs _ hp hxs =>
      have np := Da.other c hp hxs hn
      refine ⟨.ref p, rfl, .ref L, rfl, ?_⟩
      refine d_lenL (d_var rfl (.lst hp hxs)) H (Evl.Ex.refl H) _ fun u H2 e2 hu => ?_
      cases hu
      refine ⟨L, (ds.length : Int), rfl, c.mono e2, by omega, by omega, fun r H3 x3 c3 r0 r1 => ?_⟩
      obtain ⟨d, hd, ed⟩ := atI_in r0 r1
      have y3 : ExC L H H3 := (ExC.of e2).trans x3
      refine rd_ixL ed H3 _ _ (.lst (y3 _ _ np hp) (hxs.cup hf c y3)) (.int r) _ fun v' H4 e4 hv' => ?_
      exact k v' H4 d (y3.trans (.of e4)) (c3.mono e4) hd hv'
end
end DL
/-! the parts of a drawn certificate -/
namespace DL
open PySem PySem.Spec PyProof.Rows L2
def tuplesOf (W : List Str) : Nat → List (List Str)
  | 0 => [[]]
  | n + 1 => W.flatMap fun x => (tuplesOf W n).map (x :: ·)
theorem mem_tuples {W : List Str} : ∀ {ys : List Str}, (∀ y ∈ ys, y ∈ W) → ys ∈ tuplesOf W ys.length
  | [], _ => List.mem_cons.mpr (.inl rfl)
  | y :: ys, h => List.mem_flatMap.mpr ⟨y, h y (List.mem_cons.mpr (.inl rfl)), List.mem_map.mpr ⟨ys, mem_tuples fun z hz => h z (List.mem_cons.mpr (.inr hz)), rfl⟩⟩
theorem srt (W t : List Str) (h : ∀ ys ∈ tuplesOf W W.length, ys.isPerm W = true → sortedS ys = true → ys = t) {ys : List Str} (hp : ys.Perm W) (hs : sortedS ys = true) : ys = t := by
  refine h ys ?_ (List.isPerm_iff.mpr hp) hs
  rw [← hp.length_eq]
  exact mem_tuples fun y hy => hp.mem_iff.mp hy
def wBasic : Str := "basic"
def wPurposes : Str := "purposes"
def wUses : Str := "uses"
def oneIf (b : Bool) (x : Str) : List Str := if b then [x] else []
def dictWords (b u p : Bool) : List Str := oneIf b wBasic ++ (oneIf u wUses ++ oneIf p wPurposes)
def certWords (b p u : Bool) : List Str := oneIf b wBasic ++ (oneIf p wPurposes ++ oneIf u wUses)
theorem words_sorted (b u p : Bool) {ys : List Str} (hp : ys.Perm (dictWords b u p)) (hs : sortedS ys = true) : ys = certWords b p u := by
  cases b <;> cases u <;> cases p <;> exact srt _ _ (by decide +kernel) hp hs
def pB (o : Option (Bool × Int)) : List PV := match o with | some (h, d) => [.basic h d] | none => []
def pP (o : Option (List Str)) : List PV := match o with | some ss => [.purposes ss] | none => []
def pU (o : Option (List Str)) : List PV := match o with | some ss => [.uses ss] | none => []
abbrev dictP (ob : Option (Bool × Int)) (ou op : Option (List Str)) : List PV := pB ob ++ (pU ou ++ pP op)
abbrev certP (ob : Option (Bool × Int)) (op ou : Option (List Str)) : List PV := pB ob ++ (pP op ++ pU ou)
theorem dict_words (ob : Option (Bool × Int)) (ou op : Option (List Str)) : (dictP ob ou op).map PV.word = dictWords ob.isSome ou.isSome op.isSome := by
  cases ob <;> cases ou <;> cases op <;> rfl
theorem cert_words (ob : Option (Bool × Int)) (op ou : Option (List Str)) : (certP ob op ou).map PV.word = certWords ob.isSome op.isSome ou.isSome := by
  cases ob <;> cases ou <;> cases op <;> rfl
theorem dict_nodup (b u p : Bool) : (dictWords b u p).Nodup := by
  cases b <;> cases u <;> cases p <;> decide +kernel
theorem dict_len (b u p : Bool) : (dictWords b u p).length < 64 := by
  cases b <;> cases u <;> cases p <;> decide
theorem certP_len (ob : Option (Bool × Int)) (op ou : Option (List Str)) : (certP ob op ou).length ≤ 3 := by
  have h1 : (pB ob).length ≤ 1 := by cases ob <;> simp [pB]
  have h2 : (pP op).length ≤ 1 := by cases op <;> simp [pP]
  have h3 : (pU ou).length ≤ 1 := by cases ou <;> simp [pU]
  rw [List.length_append, List.length_append]
  omega
theorem cert_mem {ob : Option (Bool × Int)} {ou op : Option (List Str)} {q : PV} (h : q ∈ certP ob op ou) : q ∈ dictP ob ou op := by
  simp only [certP, dictP, List.mem_append] at h ⊢
  rcases h with h | h | h
  · exact .inl h
  · exact .inr (.inr h)
  · exact .inr (.inl h)
theorem flat_strL : ∀ ss : List Str, flatLs (ss.map PyData.str) = true
  | [] => rfl
  | x :: ss => by
    simp only [List.map_cons, flatLs, flatL, flat_strL ss, Bool.and_self]
theorem flat_strLD (ss : List Str) : flatL (strsD ss) = true := flat_strL ss
theorem flat_pv (q : PV) : flatL q.val = true := by
  cases q with
  | basic h d => rfl
  | purposes ss => exact flat_strL ss
  | uses ss => exact flat_strL ss
theorem flat_vals : ∀ qs : List PV, flatLs (qs.map PV.val) = true
  | [] => rfl
  | q :: qs => by
    simp only [List.map_cons, flatLs, flat_pv q, flat_vals qs, Bool.and_self]
theorem flat_pvD (q : PV) : flatL (pvD q) = true := by
  show (true && (flatL q.val && true)) = true
  rw [flat_pv q]
  rfl
theorem flat_pvs : ∀ qs : List PV, flatLs (qs.map pvD) = true
  | [] => rfl
  | q :: qs => by
    simp only [List.map_cons, flatLs, flat_pvD q, flat_pvs qs, Bool.and_self]
def kvsOf : List PV → List V → List (Key × V)
  | q :: qs, v :: vs => (Sum.inr q.word, v) :: kvsOf qs vs
  | _, _ => []
section
variable {K : PySem.W.Frag} {H H' : Hp} {D : Addr}
def DkP (K : PySem.W.Frag) (H : Hp) (D : Addr) (qs : List PV) : Prop := ∃ vs, H D = some (.dK (kvsOf qs vs)) ∧ DaAll K H vs (qs.map PV.val)
theorem DkP.mono {qs : List PV} (h : DkP K H D qs) (e : Ex H H') : DkP K H' D qs := by
  obtain ⟨vs, h1, h2⟩ := h
  exact ⟨vs, e _ _ h1, h2.mono e⟩
theorem DkP.cup {qs : List PV} {L : Addr} (h : DkP K H D qs) (c : CupAt H L) (e : ExC L H H') : DkP K H' D qs := by
  obtain ⟨vs, h1, h2⟩ := h
  refine ⟨vs, e _ _ (fun z => ?_) h1, h2.cup (flat_vals qs) c e⟩
  obtain ⟨a, b, hL, _⟩ := c
  rw [z, hL] at h1
  cases h1
theorem kvs_keys : ∀ {qs : List PV} {vs : List V}, vs.length = qs.length → (kvsOf qs vs).map (·.1) = (qs.map PV.word).map Sum.inr
  | [], [], _ => rfl
  | [], _ :: _, h => by simp at h
  | _ :: _, [], h => by simp at h
  | q :: qs, v :: vs, h => by
    show Sum.inr q.word :: (kvsOf qs vs).map (·.1) = Sum.inr q.word :: (qs.map PV.word).map Sum.inr
    rw [kvs_keys (by simpa using h)]
theorem kvs_snoc (q : PV) (v : V) : ∀ {qs : List PV} {vs : List V}, vs.length = qs.length → kvsOf (qs ++ [q]) (vs ++ [v]) = kvsOf qs vs ++ [(Sum.inr q.word, v)]
  | [], [], _ => rfl
  | [], _ :: _, h => by simp at h
  | _ :: _, [], h => by simp at h
  | p :: qs, u :: vs, h => by
    show (Sum.inr p.word, u) :: kvsOf (qs ++ [q]) (vs ++ [v]) = (Sum.inr p.word, u) :: (kvsOf qs vs ++ _)
    rw [kvs_snoc q v (by simpa using h)]
theorem kvs_len : ∀ (qs : List PV) (vs : List V), (kvsOf qs vs).length ≤ qs.length
  | [], _ => Nat.le_refl _
  | _ :: qs, [] => Nat.zero_le _
  | _ :: qs, _ :: vs => Nat.succ_le_succ (kvs_len qs vs)
theorem kvs_put {q : PV} {v : V} {qs : List PV} {vs : List V} (hl : vs.length = qs.length) (hn : q.word ∉ qs.map PV.word) : putK (kvsOf qs vs) (Sum.inr q.word) v = kvsOf (qs ++ [q]) (vs ++ [v]) := by
  unfold putK
  rw [if_neg, kvs_snoc q v hl]
  intro h
  obtain ⟨kv, h1, h2⟩ := List.any_eq_true.mp h
  have h3 : kv.1 = Sum.inr q.word := of_decide_eq_true h2
  have h4 : Sum.inr q.word ∈ (kvsOf qs vs).map (·.1) := h3 ▸ List.mem_map.mpr ⟨kv, h1, rfl⟩
  rw [kvs_keys hl] at h4
  obtain ⟨x, h5, h6⟩ := List.mem_map.mp h4
  cases h6
  exact hn h5
theorem kvs_get : ∀ {qs : List PV} {vs : List V} {q : PV}, DaAll K H vs (qs.map PV.val) → (qs.map PV.word).Nodup → q ∈ qs → ∃ v, valV (kvsOf qs vs) (Sum.inr q.word) = some v ∧ Da K H v q.val
  | [], _, _, _, _, h => by simp at h
  | p :: qs, _, q, ha, hn, hq => by
    cases ha with
    | @cons v vs _ _ h1 h2 =>
      have hn' := List.nodup_cons.mp hn
      rcases List.mem_cons.mp hq with rfl | hq
      · exact ⟨v, valV_pos rfl, h1⟩
      · obtain ⟨u, e, hu⟩ := kvs_get h2 hn'.2 hq
        refine ⟨u, ?_, hu⟩
        show valV ((Sum.inr p.word, v) :: kvsOf qs vs) (Sum.inr q.word) = some u
        rw [valV_neg, e]
        intro z
        have z' : p.word = q.word := Sum.inr.inj z
        exact hn'.1 (z' ▸ List.mem_map.mpr ⟨q, hq, rfl⟩)
/-- d[word] = value -/
theorem DkP.put {qs : List PV} {q : PV} {v : V} (h : DkP K H D qs) (hv : Da K H v q.val) (hn : q.word ∉ qs.map PV.word) (hl : qs.length ≤ 10) : ∃ H', DPut H D (.str q.word) v H' ∧ DkP K H' D (qs ++ [q]) ∧ (∀ b o, b ≠ D → H b = some o → H' b = some o) := by
  obtain ⟨vs, h1, h2⟩ := h
  have hlen : vs.length = qs.length := by rw [h2.length, List.length_map]
  have hk := kvs_len qs vs
  refine ⟨_, DPut.k (k := Sum.inr q.word) h1 (Evl.sz_lt (by omega)), ⟨vs ++ [v], ?_, ?_⟩, fun b o n e => by rw [upd_ne n]; exact e⟩
  · rw [upd_same, kvs_put hlen hn]
  · have st : ∀ (b : Addr) (o : HO), (∀ kvs, o ≠ .dK kvs) → H b = some o → (upd H D (HO.dK (putK (kvsOf qs vs) (Sum.inr q.word) v))) b = some o := fun b o hne e => by
      rw [upd_ne fun z => by rw [z, h1] at e; exact hne _ (Option.some.inj e).symm]
      exact e
    rw [List.map_append]
    exact (DaAll.stay (fun b xs e => st b _ (fun _ z => nomatch z) e) (fun b o u e => st b _ (fun _ z => nomatch z) e) _ _ (flat_vals qs) h2).append (.one (Da.stay (fun b xs e => st b _ (fun _ z => nomatch z) e) (fun b o u e => st b _ (fun _ z => nomatch z) e) _ _ (flat_pv q) hv))
end
section
variable {K : PySem.W.Frag} {σ : L2.St} {H : Hp} {te : TE} {ds : List PyData}
theorem d_tupof (h : EvD K te σ H (.list ds)) : EvD K (tCB (rTupOf K) (tCons te tNil)) σ H (.tuple ds) := fun H1 e Q q =>
  h H1 e _ fun v H2 e2 hv => by
    cases hv with
    | lst h1 h2 => exact ⟨_, _, rfl, .inl ⟨SqL.of h1, fun l hl => q _ _ (e2.trans (Evl.Ex.new hl)) (.tup (SqT.of upd_same) (h2.mono (Evl.Ex.new hl)))⟩⟩
end
abbrev rSortedD : List V → Hp → VK → Prop := fun xs H Q => ∃ (a : Addr) (kvs : List (Key × V)) (ks : List Str), xs = [.ref a] ∧ Rd H a (.dK kvs) ∧ kvs.map (·.1) = ks.map Sum.inr ∧ ks.length < 64 ∧
    ∀ ys p, ys.Perm ks → sortedS ys = true → H p = none → Q (.ref p) (upd H p (.lst (ys.map V.str)))
def SpParts (K : PySem.W.Frag) : Sp := fun vs H Q _ => ∃ (D : Addr) (ob : Option (Bool × Int)) (ou op : Option (List Str)), vs = [.ref D] ∧ DkP K H D (dictP ob ou op) ∧ ∀ v' H', Ex H H' → Da K H' v' (partsD (certP ob op ou)) → Q v' H'
section
variable {P : Program} {w : World} {K : PySem.W.Frag} {mg : Str → Option Value} {base : Heap} {A : Ad}
theorem ok_law_parts (T : Txt K mg A) : FnOk P w K mg base CX0 1 A.a_law_parts A.f_law_parts ["_law_parts_here"] (SpParts K) := by
  refine T.d_law_parts.fn.ok sc_law_parts (fun vs H Q E h => ?_) (fun cdv AA outer s H vs Q E hr h => ?_)
  · obtain ⟨D, ob, ou, op, rfl, _⟩ := h
    rfl
  · obtain ⟨D, ob, ou, op, rfl, hd, k⟩ := h
    have hu := hu_of hr
    refine ⟨_, (pss_one (ps_ret (pe_T (k_tupof (K := K) rfl) T.b_tuple (pa_cons (pe_lc (own := [("_law_word", 1)]) (by rfl) sc_law_parts.nd (k_plist (K := K) rfl (pe_B (call_sortedD rfl) T.b_sorted (pa_cons (pv 0) pa_nil))) (blkOk_by (own := [("_law_word", 1)]) (N := ["_law_parts_here", "_law_word"]) (sc := defScope s_law_parts) (by decide +kernel)) (fun _ _ _ _ _ => (pg_name (i := 1) sc_law_parts.nd rfl (Or.inl rfl))) (fun _ _ _ _ _ => pts_nil) (fun _ _ _ _ _ => (pe_tup (pa_cons (pv 1) (pa_cons (pe_dget hu (pv 0) (pv 1) (fun _ _ => rfl)) pa_nil))))) pa_nil)))), ?_⟩
    have hsrt : ∀ {σ : L2.St} {H1 : Hp}, σ[0]? = some (some (.ref D)) → Ex H H1 → EvD K (tCB rSortedD (tCons (tVar 0) tNil)) σ H1 (.list (((certP ob op ou).map PV.word).map PyData.str)) := fun {σ H1} q e H2 e2 Q kk => by
      obtain ⟨vs, h1, h2⟩ := hd.mono (e.trans e2)
      have hlen : vs.length = (dictP ob ou op).length := by rw [h2.length, List.length_map]
      refine ⟨.ref D, q, D, kvsOf (dictP ob ou op) vs, (dictP ob ou op).map PV.word, rfl, .inl h1, kvs_keys hlen, ?_, fun ys p hp hs hf => ?_⟩
      · rw [dict_words]
        exact dict_len _ _ _
      · rw [dict_words] at hp
        rw [words_sorted _ _ _ hp hs, ← cert_words]
        exact kk _ _ (Evl.Ex.new hf) (.lst upd_same (da_strs _))
    refine s_ret (d_is (d_tupof (d_lcN (fun _ => true) (fun i => match (certP ob op ou)[i]? with | some q => pvD q | none => .none) (i_list (hsrt rfl (Evl.Ex.refl H))) ?_ (fun _ _ _ _ _ _ => t_yes) (fun i x H' hi e it _ => ?_) (fun i hi _ => ?_))) ?_) k
    · rw [List.length_map, List.length_map]
      have := certP_len ob op ou
      omega
    · obtain ⟨d, h1, h2⟩ := it
      rw [List.getElem?_map, List.getElem?_map] at h1
      cases hq : (certP ob op ou)[i]? with
      | none => rw [hq] at h1; cases h1
      | some q =>
        rw [hq] at h1
        cases h1
        refine d_tup (da_cons (d_var rfl h2) (da_cons (fun H2 e2 Q kk => ?_) da_nil)) (show 2 ≤ 1000 by decide)
        cases h2
        obtain ⟨vs, g1, g2⟩ := hd.mono (e.trans e2)
        obtain ⟨v, ev, hv⟩ := kvs_get g2 (by rw [dict_words]; exact dict_nodup _ _ _) (cert_mem (List.mem_of_getElem? hq))
        exact ⟨.ref D, rfl, .str q.word, rfl, D, v, rfl, .inl ⟨_, Sum.inr q.word, .inl g1, rfl, ev.symm⟩, kk v H2 (Evl.Ex.refl _) hv⟩
    · cases (certP ob op ou)[i]? with
      | none => rfl
      | some q => exact flat_pvD q
    · show PyData.tuple _ = PyData.tuple _
      have q := range_at (certP ob op ou) (fun o => match o with | some q => pvD q | none => .none)
      unfold givenD
      rw [List.length_map, List.length_map]
      rw [List.filter_eq_self.mpr (fun _ _ => rfl), q]
end
end DL
/-! what is drawn from the cup -/
namespace DL
open PySem PySem.Spec PyProof.Rows L2
def EvC (K : PySem.W.Frag) (L : Addr) (te : TE) (σ : L2.St) (H : Hp) (S : PyData → Prop) : Prop :=
  ∀ H1, ExC L H H1 → CupAt H1 L → ∀ Q : VK, (∀ v H2 d, ExC L H1 H2 → CupAt H2 L → Da K H2 v d → flatL d = true → S d → Q v H2) → te σ H1 Q
def SAll : List (PyData → Prop) → List PyData → Prop
  | [], [] => True
  | S :: Ss, d :: ds => S d ∧ SAll Ss ds
  | _, _ => False
def EvAC (K : PySem.W.Frag) (L : Addr) (ta : TA) (σ : L2.St) (H : Hp) (Ss : List (PyData → Prop)) : Prop :=
  ∀ H1, ExC L H H1 → CupAt H1 L → ∀ Q : List V → Hp → Prop, (∀ vs H2 ds, ExC L H1 H2 → CupAt H2 L → DaAll K H2 vs ds → flatLs ds = true → SAll Ss ds → Q vs H2) → ta σ H1 Q
def EvTC (L : Addr) (t : TT) (σ : L2.St) (H : Hp) : Prop := ∀ H1, ExC L H H1 → CupAt H1 L → ∀ Q : Bool → Hp → Prop, (∀ b H2, ExC L H1 H2 → CupAt H2 L → Q b H2) → t σ H1 Q
def IsInt (lo hi : Int) (d : PyData) : Prop := ∃ r, d = .int r ∧ lo ≤ r ∧ r < hi
def IsBool (d : PyData) : Prop := ∃ b, d = .bool b
theorem SAll.length : ∀ {Ss : List (PyData → Prop)} {ds : List PyData}, SAll Ss ds → ds.length = Ss.length
  | [], [], _ => rfl
  | _ :: _, [], h => h.elim
  | [], _ :: _, h => h.elim
  | _ :: Ss, _ :: ds, h => by
    rw [List.length_cons, List.length_cons, SAll.length h.2]
section
variable {K : PySem.W.Frag} {σ : L2.St} {H : Hp} {L : Addr} {ta tb te tl : TE} {S S' S1 S2 : PyData → Prop} {t : TT} {E : XK} {d : PyData}
theorem c_weak (h : EvC K L te σ H S) (w : ∀ d, S d → S' d) : EvC K L te σ H S' := fun H1 e c Q q => h H1 e c Q fun v H2 d e2 c2 hv f s => q v H2 d e2 c2 hv f (w d s)
theorem EvC.mono {H' : Hp} (h : EvC K L te σ H S) (e : ExC L H H') : EvC K L te σ H' S := fun H1 e1 => h H1 (e.trans e1)
theorem c_ev (h : ∀ H1, ExC L H H1 → CupAt H1 L → EvD K te σ H1 d) (f : flatL d = true) : EvC K L te σ H (fun x => x = d) := fun H1 e c Q q => h H1 e c H1 (Evl.Ex.refl _) Q fun v H2 e2 hv => q v H2 d (.of e2) (c.mono e2) hv f rfl
theorem c_var {i : Nat} {v : V} (h : σ[i]? = some (some v)) (hd : Da K H v d) (f : flatL d = true) (c : CupAt H L) : EvC K L (tVar i) σ H (fun x => x = d) := c_ev (fun H1 e _ => d_var h (hd.cup f c e)) f
theorem c_int {i : Int} : EvC K L (tC (.int i)) σ H (fun x => x = .int i) := c_ev (fun _ _ _ => d_int) rfl
theorem c_bl {i : Bool} : EvC K L (tC (.bl i)) σ H (fun x => x = .bool i) := c_ev (fun _ _ _ => d_bl) rfl
theorem c_neg1 {i : Int} : EvC K L (tUn (rU fun i => .int (-i)) (tC (.int i))) σ H (fun x => x = .int (-i)) := c_ev (fun _ _ _ => d_neg d_int) rfl
theorem c_roll {i : Nat} {m : Int} (h : σ[i]? = some (some (.ref L))) (h1 : 1 ≤ m) (h2 : m ≤ 1000) : EvC K L (tCall (SpRoll K) [] E (tCons (tVar i) (tCons (tC (.int m)) tNil))) σ H (IsInt 0 m) := fun H1 e c Q q =>
  ⟨.ref L, h, L, m, rfl, c, h1, h2, fun r H' x c' r0 r1 => q _ H' (.int r) x c' (.int r) rfl ⟨r, rfl, r0, r1⟩⟩
theorem flat_mem : ∀ {ds : List PyData} {d : PyData}, flatLs ds = true → d ∈ ds → flatL d = true
  | [], _, _, h => by simp at h
  | x :: ds, d, h, hm => by
    simp only [flatLs, Bool.and_eq_true] at h
    rcases List.mem_cons.mp hm with rfl | hm
    · exact h.1
    · exact flat_mem h.2 hm
theorem c_some {i : Nat} {ds : List PyData} (h : σ[i]? = some (some (.ref L))) (ht : ∀ H1, ExC L H H1 → CupAt H1 L → EvD K tl σ H1 (.list ds)) (f : flatLs ds = true) (h1 : 1 ≤ ds.length) (h2 : ds.length ≤ 1000) (hn : ∀ a b, ds ≠ [.int a, .int b]) :
    EvC K L (tCall (SpSome K) [] E (tCons (tVar i) (tCons tl tNil))) σ H (fun d => d ∈ ds) := fun H1 e c Q q =>
  ⟨.ref L, h, ht H1 e c H1 (Evl.Ex.refl _) _ fun v H2 e2 hv => ⟨L, v, ds, rfl, c.mono e2, hv, f, h1, h2, hn, fun v' H' d x c' hd hv' => q v' H' d ((ExC.of e2).trans x) c' hv' (flat_mem f hd) hd⟩⟩
theorem c_op {r : R2} (ha : EvC K L ta σ H S1) (hb : EvC K L tb σ H S2) (hr : ∀ d e, S1 d → S2 e → ∃ f, RD K r d e f ∧ flatL f = true ∧ S f) : EvC K L (tOp r ta tb) σ H S := fun H1 e c Q q =>
  ha H1 e c _ fun x H2 d e2 c2 hx fx sx => hb H2 (e.trans e2) c2 _ fun y H3 d' e3 c3 hy fy sy => by
    obtain ⟨f, g1, g2, g3⟩ := hr d d' sx sy
    exact g1 H3 x y (hx.cup fx c2 e3) hy Q fun v H4 e4 hv => q v H4 f ((e2.trans e3).trans (.of e4)) (c3.mono e4) hv g2 g3
theorem tc_test (h : EvC K L te σ H IsBool) : EvTC L (tTest te) σ H := fun H1 e c Q q => h H1 e c _ fun v H2 d e2 c2 hv _ ⟨b, hb⟩ => by
  subst hb
  cases hv
  exact ⟨b, rfl, q b H2 e2 c2⟩
theorem c_if (h : EvTC L t σ H) (h1 : EvC K L ta σ H S) (h2 : EvC K L tb σ H S) : EvC K L (tIf t ta tb) σ H S := fun H1 e c Q q => h H1 e c _ fun b H2 e2 c2 => by
  cases b with
  | true => exact h1 H2 (e.trans e2) c2 Q fun v H3 d e3 => q v H3 d (e2.trans e3)
  | false => exact h2 H2 (e.trans e2) c2 Q fun v H3 d e3 => q v H3 d (e2.trans e3)
theorem ca_nil : EvAC K L tNil σ H [] := fun H1 _ c Q q => q [] H1 [] (.refl _ _) c .nil rfl trivial
theorem ca_cons {tr : TA} {Ss : List (PyData → Prop)} (h : EvC K L ta σ H S) (hr : EvAC K L tr σ H Ss) : EvAC K L (tCons ta tr) σ H (S :: Ss) := fun H1 e c Q q =>
  h H1 e c _ fun v H2 d e2 c2 hv fv sv => hr H2 (e.trans e2) c2 _ fun vs H3 ds e3 c3 hvs fs ss => q _ H3 (d :: ds) (e2.trans e3) c3 (.cons (hv.cup fv c2 e3) hvs) (by show (flatL d && flatLs ds) = true; rw [fv, fs]; rfl) ⟨sv, ss⟩
theorem c_tup {tr : TA} {Ss : List (PyData → Prop)} (h : EvAC K L tr σ H Ss) (hl : Ss.length ≤ 1000) : EvC K L (tTup tr) σ H (fun d => ∃ ds, d = .tuple ds ∧ SAll Ss ds) := fun H1 e c Q q =>
  h H1 e c _ fun vs H2 ds e2 c2 hv fs ss => ⟨small_ds (n := Ss.length) (by rw [hv.length, ss.length]) hl, fun p hp => q _ _ (.tuple ds) (e2.trans (.of (Evl.Ex.new hp))) (c2.mono (Evl.Ex.new hp)) (.tup (SqT.of upd_same) (hv.mono (Evl.Ex.new hp))) (by show flatLs ds = true; exact fs) ⟨ds, rfl, ss⟩⟩
theorem eq0 {r : R2} {m i : Int} (hr : ∀ j, ∃ b, RD K r (.int j) (.int i) (.bool b)) : ∀ d e, IsInt 0 m d → e = .int i → ∃ f, RD K r d e f ∧ flatL f = true ∧ IsBool f := fun d e ⟨j, hj, _⟩ he => by
  subst hj he
  obtain ⟨b, hb⟩ := hr j
  exact ⟨.bool b, hb, rfl, b, rfl⟩
theorem eqz (m i : Int) : ∀ d e, IsInt 0 m d → e = .int i → ∃ f, RD K (rEqD K) d e f ∧ flatL f = true ∧ IsBool f := eq0 fun j => ⟨_, rd_eq (shaped_int _) (shaped_int _)⟩
theorem gtz (m i : Int) : ∀ d e, IsInt 0 m d → e = .int i → ∃ f, RD K (rI0 fun i j => .bl (decide (j < i))) d e f ∧ flatL f = true ∧ IsBool f := eq0 fun j => ⟨_, rd_gt⟩
variable {D : Ends} {tu tw tz : TS}
theorem qc_asg {i : Nat} (h : EvC K L te σ H S) (c : CupAt H L) (k : ∀ v d H1, ExC L H H1 → CupAt H1 L → Da K H1 v d → flatL d = true → S d → tz D (σ.set i (some v)) H1) : tSeq (tAsg te (gName i)) tz D σ H :=
  h H (.refl _ _) c _ fun v H1 d e c1 hv f s => k v d H1 e c1 hv f s
theorem qc_join (J : L2.St → Hp → Prop) (h : EvTC L t σ H) (c : CupAt H L) (h1 : ∀ (nx : L2.St → Hp → Prop), (∀ σ' H', J σ' H' → nx σ' H') → ∀ H1, ExC L H H1 → CupAt H1 L → tu { D with nx := nx } σ H1)
    (h2 : ∀ (nx : L2.St → Hp → Prop), (∀ σ' H', J σ' H' → nx σ' H') → ∀ H1, ExC L H H1 → CupAt H1 L → tw { D with nx := nx } σ H1) (h3 : ∀ σ' H', J σ' H' → tz D σ' H') : tSeq (tIfS t tu tw) tz D σ H :=
  h H (.refl _ _) c _ fun b H1 e c1 => by
    cases b with
    | true => exact h1 _ h3 H1 e c1
    | false => exact h2 _ h3 H1 e c1
theorem sc_if (h : EvTC L t σ H) (c : CupAt H L) (h1 : ∀ H1, ExC L H H1 → CupAt H1 L → tu D σ H1) (h2 : ∀ H1, ExC L H H1 → CupAt H1 L → tw D σ H1) : tIfS t tu tw D σ H :=
  h H (.refl _ _) c _ fun b H1 e c1 => by
    cases b with
    | true => exact h1 H1 e c1
    | false => exact h2 H1 e c1
theorem rc_ret (h : EvC K L te σ H S) (c : CupAt H L) (k : ∀ v d H1, ExC L H H1 → CupAt H1 L → Da K H1 v d → S d → D.rt v H1) : tRet te D σ H := h H (.refl _ _) c _ fun v H1 d e c1 hv _ s => k v d H1 e c1 hv s
end
/-- what stays while a certificate is drawn -/
structure Cur (K : PySem.W.Frag) (H0 : Hp) (L D : Addr) (qs : List PV) (fs : List (V × PyData)) (H : Hp) : Prop where
  cup : CupAt H L
  dk : DkP K H D qs
  ex : ∀ b o, b ≠ L → b ≠ D → H0 b = some o → H b = some o
  da : ∀ p ∈ fs, Da K H p.1 p.2 ∧ flatL p.2 = true
section
variable {K : PySem.W.Frag} {H0 H H1 : Hp} {L D : Addr} {qs : List PV} {fs : List (V × PyData)}
theorem Cur.step (c : Cur K H0 L D qs fs H) (e : ExC L H H1) (c1 : CupAt H1 L) : Cur K H0 L D qs fs H1 :=
  ⟨c1, c.dk.cup c.cup e, fun b o n1 n2 h => e b o n1 (c.ex b o n1 n2 h), fun p hp => ⟨(c.da p hp).1.cup (c.da p hp).2 c.cup e, (c.da p hp).2⟩⟩
theorem Cur.add {v : V} {d : PyData} (c : Cur K H0 L D qs fs H) (hv : Da K H v d) (f : flatL d = true) : Cur K H0 L D qs ((v, d) :: fs) H :=
  ⟨c.cup, c.dk, c.ex, fun p hp => by
    rcases List.mem_cons.mp hp with rfl | hp
    · exact ⟨hv, f⟩
    · exact c.da p hp⟩
theorem Cur.ne (c : Cur K H0 L D qs fs H) : D ≠ L := fun z => by
  obtain ⟨vs, h, _⟩ := c.dk
  obtain ⟨a, b, hL, _⟩ := c.cup
  rw [z, hL] at h
  cases h
/-- d[word] = what is drawn -/
theorem sc_dput {σ : L2.St} {S : PyData → Prop} {tv : TE} {E : Ends} {j : Nat} {wd : Str} (c : Cur K H0 L D qs fs H) (h : EvC K L tv σ H S) (hj : σ[j]? = some (some (.ref D))) (hS : ∀ d, S d → ∃ q : PV, q.word = wd ∧ q.val = d ∧ q.ok = true)
    (hn : wd ∉ qs.map PV.word) (hl : qs.length ≤ 10) (k : ∀ q H1, q.word = wd → q.ok = true → Cur K H0 L D (qs ++ [q]) fs H1 → E.nx σ H1) : sDPut (tVar j) (tC (.str wd)) tv E σ H :=
  h H (.refl _ _) c.cup _ fun v H2 d e2 c2 hv _ s => by
    obtain ⟨q, rfl, rfl, hq⟩ := hS d s
    have y := c.step e2 c2
    obtain ⟨H3, g1, g2, g3⟩ := y.dk.put hv hn hl
    obtain ⟨a, b, hL, r⟩ := y.cup
    obtain ⟨vs, gD, _⟩ := y.dk
    refine ⟨.ref D, hj, D, H3, rfl, g1, k q H3 rfl hq ⟨⟨a, b, g3 _ _ (Ne.symm y.ne) hL, r⟩, g2, fun b o n1 n2 h => g3 b o n2 (y.ex b o n1 n2 h), fun p hp => ⟨?_, (y.da p hp).2⟩⟩⟩
    exact Da.stay (fun b xs q => g3 b _ (fun z => by rw [z, gD] at q; cases q) q) (fun b o u q => g3 b _ (fun z => by rw [z, gD] at q; cases q) q) _ _ (y.da p hp).2 (y.da p hp).1
end
end DL
/-! a drawn certificate -/
namespace DL
open PySem PySem.Spec PyProof.Rows L2
theorem parts_eq (c : Cert) : c.parts = certP c.basic c.purposes c.uses := by
  unfold Cert.parts certP
  cases c.basic <;> cases c.purposes <;> cases c.uses <;> rfl
def IsName (d : PyData) : Prop := ∃ ws, d = strsD ws ∧ goodWords ws 1 4 = true
theorem is_names {wss : List (List Str)} (h : ∀ ws ∈ wss, goodWords ws 1 4 = true) : ∀ d, d ∈ wss.map strsD → IsName d := fun d hd => by
  obtain ⟨ws, h1, h2⟩ := List.mem_map.mp hd
  exact ⟨ws, h2.symm, h ws h1⟩
theorem is_ints {ns : List Int} {lo hi : Int} (h : ∀ n ∈ ns, lo ≤ n ∧ n < hi) : ∀ d, d ∈ ns.map PyData.int → IsInt lo hi d := fun d hd => by
  obtain ⟨n, h1, h2⟩ := List.mem_map.mp hd
  exact ⟨n, h2.symm, h n h1⟩
theorem is_uses {wss : List (List Str)} (h : ∀ ws ∈ wss, inLot ws 0 8 usesL = true) : ∀ d, d ∈ wss.map strsD → ∃ q : PV, q.word = ("uses" : Str) ∧ q.val = d ∧ q.ok = true := fun d hd => by
  obtain ⟨ws, h1, h2⟩ := List.mem_map.mp hd
  exact ⟨.uses ws, rfl, h2, h ws h1⟩
theorem is_purposes {wss : List (List Str)} (h : ∀ ws ∈ wss, inLot ws 0 8 purposesL = true) : ∀ d, d ∈ wss.map strsD → ∃ q : PV, q.word = ("purposes" : Str) ∧ q.val = d ∧ q.ok = true := fun d hd => by
  obtain ⟨ws, h1, h2⟩ := List.mem_map.mp hd
  exact ⟨.purposes ws, rfl, h2, h ws h1⟩
theorem pv_basic {q : PV} (h : q.word = ("basic" : Str)) : ∃ b n, q = .basic b n := by
  cases q with
  | basic b n => exact ⟨b, n, rfl⟩
  | purposes ss => exact absurd h (by show ¬ (("purposes" : Str) = ("basic" : Str)); decide +kernel)
  | uses ss => exact absurd h (by show ¬ (("uses" : Str) = ("basic" : Str)); decide +kernel)
theorem pv_uses {q : PV} (h : q.word = ("uses" : Str)) : ∃ ss, q = .uses ss := by
  cases q with
  | basic b n => exact absurd h (by show ¬ (("basic" : Str) = ("uses" : Str)); decide +kernel)
  | purposes ss => exact absurd h (by show ¬ (("purposes" : Str) = ("uses" : Str)); decide +kernel)
  | uses ss => exact ⟨ss, rfl⟩
theorem pv_purposes {q : PV} (h : q.word = ("purposes" : Str)) : ∃ ss, q = .purposes ss := by
  cases q with
  | basic b n => exact absurd h (by show ¬ (("basic" : Str) = ("purposes" : Str)); decide +kernel)
  | purposes ss => exact ⟨ss, rfl⟩
  | uses ss => exact absurd h (by show ¬ (("uses" : Str) = ("purposes" : Str)); decide +kernel)
theorem no_uses (b : Bool) : ("uses" : Str) ∉ dictWords b false false := by cases b <;> decide +kernel
theorem no_purposes (b u : Bool) : ("purposes" : Str) ∉ dictWords b u false := by cases b <;> cases u <;> decide +kernel
def SpCert (K : PySem.W.Frag) : Sp := fun vs H Q _ => ∃ L, vs = [.ref L] ∧ CupAt H L ∧ ∀ v H' (c : Cert), ExC L H H' → CupAt H' L → c.ok → Da K H' v (certD c) → Q v H'
section
variable {K : PySem.W.Frag} {σ : L2.St} {H : Hp} {L D : Addr} {E : XK} {ob : Option (Bool × Int)} {ou op : Option (List Str)}
theorem c_parts {i : Nat} (h : σ[i]? = some (some (.ref D))) (hd : DkP K H D (dictP ob ou op)) (c : CupAt H L) : EvC K L (tCall (SpParts K) [] E (tCons (tVar i) tNil)) σ H (fun d => d = partsD (certP ob op ou)) :=
  c_ev (fun H1 e c1 H2 e2 Q q => ⟨.ref D, h, D, ob, ou, op, rfl, (hd.cup c e).mono e2, fun v' H' e3 hv => q v' H' e3 hv⟩) (flat_pvs _)
end
section
variable {P : Program} {w : World} {K : PySem.W.Frag} {mg : Str → Option Value} {base : Heap} {A : Ad}
theorem ok_law_certificate (T : Txt K mg A) : FnOk P w K mg base CX0 3 A.a_law_certificate A.f_law_certificate ["_law_cup_here"] (SpCert K) := by
  refine T.d_law_certificate.fn.ok sc_law_certificate (fun vs H Q E h => ?_) (fun cdv AA outer s H vs Q E hr h => ?_)
  · obtain ⟨L, rfl, _⟩ := h
    rfl
  · obtain ⟨L, rfl, c0, k⟩ := h
    have hu := hu_of hr
    have hu64 := hr.units
    refine ⟨_, (pss_cons (ps_par (i := 1) (j := 2) rfl sc_law_certificate.nd rfl rfl (by decide) rfl rfl (pa_cons (pe_cl T.d_law_some (ok_law_some T) (hr.mono (by decide)) pass0 (pa_cons (pv 0) (pa_cons (pe_lst (pa_cons (pe_tup (pa_cons pe_str pa_nil)) (pa_cons (pe_tup (pa_cons pe_str (pa_cons pe_str pa_nil))) pa_nil))) pa_nil))) (pa_cons pe_dnewK pa_nil)) (by with_unfolding_all rfl))
    (pss_cons (ps_set (i := 3) sc_law_certificate.nd rfl (Or.inl rfl) (pe_ifExp (pt_cmpR (k_eq (K := K) rfl hu64) (pe_cl T.d_law_roll (ok_law_roll T) (hr.mono (by decide)) pass0 (pa_cons (pv 0) (pa_cons pe_int pa_nil))) pe_int (nomark _)) (pv 1) (pe_cl T.d_law_some (ok_law_some T) (hr.mono (by decide)) pass0 (pa_cons (pv 0) (pa_cons (pe_lst (pa_cons (pe_tup (pa_cons pe_str (pa_cons pe_str pa_nil))) (pa_cons (pe_tup (pa_cons pe_str pa_nil)) (pa_cons (pe_tup (pa_cons pe_str (pa_cons pe_str (pa_cons pe_str pa_nil)))) pa_nil)))) pa_nil)))))
    (pss_cons (ps_if (pt_cmpR op_gt (pe_cl T.d_law_roll (ok_law_roll T) (hr.mono (by decide)) pass0 (pa_cons (pv 0) (pa_cons pe_int pa_nil))) pe_int (nomark _)) (pss_one (ps_dput hu (pv 2) pe_str (pe_tup (pa_cons pe_bl (pa_cons (pe_cl T.d_law_some (ok_law_some T) (hr.mono (by decide)) pass0 (pa_cons (pv 0) (pa_cons (pe_lst (pa_cons (pe_un un_neg pe_int) (pa_cons (pe_un un_neg pe_int) (pa_cons (pe_un un_neg pe_int) (pa_cons pe_int (pa_cons pe_int (pa_cons pe_int (pa_cons pe_int pa_nil)))))))) pa_nil))) pa_nil))) rfl)) (pss_one (ps_if (pt_cmpR (k_eq (K := K) rfl hu64) (pe_cl T.d_law_roll (ok_law_roll T) (hr.mono (by decide)) pass0 (pa_cons (pv 0) (pa_cons pe_int pa_nil))) pe_int (nomark _)) (pss_one (ps_dput hu (pv 2) pe_str (pe_tup (pa_cons pe_bl (pa_cons (pe_un un_neg pe_int) pa_nil))) rfl)) pss_nil)))
    (pss_cons (ps_if (pt_cmpR (k_eq (K := K) rfl hu64) (pe_cl T.d_law_roll (ok_law_roll T) (hr.mono (by decide)) pass0 (pa_cons (pv 0) (pa_cons pe_int pa_nil))) pe_int (nomark _)) (pss_cons (ps_set (i := 4) sc_law_certificate.nd rfl (Or.inl rfl) (pe_lst (pa_cons (pe_tup (pa_cons pe_str pa_nil)) (pa_cons (pe_tup (pa_cons pe_str (pa_cons pe_str pa_nil))) (pa_cons (pe_tup (pa_cons pe_str pa_nil)) (pa_cons (pe_tup (pa_cons pe_str pa_nil)) (pa_cons (pe_tup pa_nil) pa_nil)))))))
    (pss_one (ps_dput hu (pv 2) pe_str (pe_cl T.d_law_some (ok_law_some T) (hr.mono (by decide)) pass0 (pa_cons (pv 0) (pa_cons (pe_op (k_add (K := K) rfl) (pv 4) (pe_lst (pa_cons (pe_tup (pa_cons pe_str (pa_cons pe_str (pa_cons pe_str (pa_cons pe_str pa_nil))))) pa_nil))) pa_nil))) rfl))) pss_nil)
    (pss_cons (ps_if (pt_cmpR (k_eq (K := K) rfl hu64) (pe_cl T.d_law_roll (ok_law_roll T) (hr.mono (by decide)) pass0 (pa_cons (pv 0) (pa_cons pe_int pa_nil))) pe_int (nomark _)) (pss_cons (ps_set (i := 4) sc_law_certificate.nd rfl (Or.inl rfl) (pe_lst (pa_cons (pe_tup (pa_cons pe_str pa_nil)) (pa_cons (pe_tup (pa_cons pe_str (pa_cons pe_str pa_nil))) (pa_cons (pe_tup (pa_cons pe_str pa_nil)) (pa_cons (pe_tup (pa_cons pe_str (pa_cons pe_str pa_nil))) (pa_cons (pe_tup (pa_cons pe_str pa_nil)) (pa_cons (pe_tup pa_nil) pa_nil))))))))
    (pss_one (ps_dput hu (pv 2) pe_str (pe_cl T.d_law_some (ok_law_some T) (hr.mono (by decide)) pass0 (pa_cons (pv 0) (pa_cons (pe_op (k_add (K := K) rfl) (pv 4) (pe_lst (pa_cons (pe_tup (pa_cons pe_str (pa_cons pe_str (pa_cons pe_str (pa_cons pe_str pa_nil))))) pa_nil))) pa_nil))) rfl))) pss_nil)
    (pss_cons (ps_set (i := 5) sc_law_certificate.nd rfl (Or.inl rfl) (pe_cl T.d_law_some (ok_law_some T) (hr.mono (by decide)) pass0 (pa_cons (pv 0) (pa_cons (pe_lst (pa_cons pe_int (pa_cons pe_int (pa_cons pe_int (pa_cons pe_int (pa_cons pe_int (pa_cons pe_int pa_nil))))))) pa_nil))))
    (pss_cons (ps_set (i := 6) sc_law_certificate.nd rfl (Or.inl rfl) (pe_op (k_add (K := K) rfl) (pv 5) (pe_cl T.d_law_some (ok_law_some T) (hr.mono (by decide)) pass0 (pa_cons (pv 0) (pa_cons (pe_lst (pa_cons pe_int (pa_cons pe_int (pa_cons pe_int (pa_cons pe_int (pa_cons pe_int (pa_cons pe_int (pa_cons (pe_op op_sub (pe_op op_pow pe_int pe_int) (pv 5)) pa_nil)))))))) pa_nil)))))
    (pss_cons (ps_set (i := 7) sc_law_certificate.nd rfl (Or.inl rfl) (pe_tup (pa_cons (pe_cl T.d_law_roll (ok_law_roll T) (hr.mono (by decide)) pass0 (pa_cons (pv 0) (pa_cons pe_int pa_nil))) (pa_cons (pv 1) (pa_cons (pv 3) (pa_cons (pe_cl T.d_law_roll (ok_law_roll T) (hr.mono (by decide)) pass0 (pa_cons (pv 0) (pa_cons pe_int pa_nil))) (pa_cons (pe_cl T.d_law_roll (ok_law_roll T) (hr.mono (by decide)) pass0 (pa_cons (pv 0) (pa_cons pe_int pa_nil))) (pa_cons (pv 5) (pa_cons (pv 6) pa_nil)))))))))
    (pss_one (ps_ret (pe_op (k_add (K := K) rfl) (pv 7) (pe_tup (pa_cons (pe_cl T.d_law_parts (ok_law_parts T) (hr.mono (by decide)) pass0 (pa_cons (pv 2) pa_nil)) (pa_cons (pe_cl T.d_law_roll (ok_law_roll T) (hr.mono (by decide)) pass0 (pa_cons (pv 0) (pa_cons pe_int pa_nil))) pa_nil)))))))))))))), ?_⟩
    -- issuer, {}
    refine c_some (ds := ([["r"], ["r", "a"]] : List (List Str)).map strsD) rfl (fun H1 _ _ => (d_lst (da_cons (d_tup (da_cons d_str da_nil) (show 1 ≤ 1000 by decide)) (da_cons (d_tup (da_cons d_str (da_cons d_str da_nil)) (show 2 ≤ 1000 by decide)) da_nil)) (show 2 ≤ 1000 by decide))) (by decide +kernel) (by decide) (by decide) (by intro _ _ z; simp at z) H (.refl _ _) c0 _ fun vi H1 di x1 c1 hvi fi si p hp => ?_
    refine ⟨vi, .ref p, rfl, ?_⟩
    obtain ⟨wsi, rfl, gi⟩ := is_names (by decide +kernel) _ si
    have npL : p ≠ L := fun z => by
      obtain ⟨a, b, hL, _⟩ := c1
      rw [z, hL] at hp
      cases hp
    have y1 : Cur K H L p (dictP none none none) [(vi, strsD wsi)] (upd H1 p (.dK [])) := by
      refine ⟨c1.mono (Evl.Ex.new hp), ⟨[], upd_same, .nil⟩, fun b o n1 n2 h => by rw [upd_ne n2]; exact x1 b o n1 h, fun q hq => ?_⟩
      rcases List.mem_cons.mp hq with rfl | hq
      · exact ⟨hvi.mono (Evl.Ex.new hp), fi⟩
      · simp at hq
    have fresh : ∀ o, H p ≠ some o := fun o h => by
      rw [x1 p o npL h] at hp
      cases hp
    -- subject
    refine qc_asg (c_if (S := IsName) (tc_test (c_op (c_roll rfl (by decide) (by decide)) c_int (eqz 2 0))) (c_weak (c_var rfl (y1.da _ (.head _)).1 fi y1.cup) fun d z => z ▸ ⟨wsi, rfl, gi⟩)
      (c_weak (c_some (ds := ([["r", "b"], ["s"], ["r", "a", "c"]] : List (List Str)).map strsD) rfl (fun H1 _ _ => (d_lst (da_cons (d_tup (da_cons d_str (da_cons d_str da_nil)) (show 2 ≤ 1000 by decide)) (da_cons (d_tup (da_cons d_str da_nil) (show 1 ≤ 1000 by decide)) (da_cons (d_tup (da_cons d_str (da_cons d_str (da_cons d_str da_nil))) (show 3 ≤ 1000 by decide)) da_nil))) (show 3 ≤ 1000 by decide))) (by decide +kernel) (by decide) (by decide) (by intro _ _ z; simp at z)) (is_names (by decide +kernel)))) y1.cup fun vs d2 H2 x2 c2 hvs fs ss => ?_
    obtain ⟨wss, rfl, gs⟩ := ss
    have y2 := (y1.step x2 c2).add hvs fs
    -- basic
    refine qc_join (fun σ' H' => σ' = [some (.ref L), some vi, some (.ref p), some vs, none, none, none, none] ∧ ∃ ob, (∀ q ∈ pB ob, q.ok = true) ∧ Cur K H L p (dictP ob none none) [(vs, strsD wss), (vi, strsD wsi)] H')
      (tc_test (c_op (c_roll rfl (by decide) (by decide)) c_int (gtz 5 0))) y2.cup (fun nx hk H3 x3 c3 => ?_) (fun nx hk H3 x3 c3 => ?_) (fun σ' H3 hJ => ?_)
    · refine sc_dput (y2.step x3 c3) (c_tup (ca_cons c_bl (ca_cons (c_some (ds := ([-1, -1, -1, 0, 1, 2, 8] : List Int).map PyData.int) rfl (fun H1 _ _ => (d_lst (da_cons (d_neg d_int) (da_cons (d_neg d_int) (da_cons (d_neg d_int) (da_cons d_int (da_cons d_int (da_cons d_int (da_cons d_int da_nil))))))) (show 7 ≤ 1000 by decide))) (by decide +kernel) (by decide) (by decide) (by intro _ _ z; simp at z)) ca_nil)) (show 2 ≤ 1000 by decide)) rfl (fun d hd => ?_) (by simp [pB, pU, pP]) (by decide) (fun q H4 hq ho y4 => ?_)
      · obtain ⟨ds, rfl, hs⟩ := hd
        match ds, hs with
        | [a, b], hs =>
          obtain ⟨ha, hb, _⟩ := hs
          subst ha
          obtain ⟨n, rfl, n1, n2⟩ := is_ints (lo := -1) (hi := 9) (by decide +kernel) _ hb
          refine ⟨.basic true n, rfl, rfl, ?_⟩
          show (decide (-1 ≤ n) && decide (n ≤ 8)) = true
          rw [decide_eq_true n1, decide_eq_true (by omega)]
          rfl
      · obtain ⟨b, n, rfl⟩ := pv_basic hq
        exact hk _ _ ⟨rfl, some (b, n), fun q hq => by rw [List.mem_singleton.mp hq]; exact ho, y4⟩
    · refine sc_if (tc_test (c_op (c_roll rfl (by decide) (by decide)) c_int (eqz 2 0))) c3 (fun H4 x4 c4 => ?_) (fun H4 x4 c4 => ?_)
      · refine sc_dput ((y2.step x3 c3).step x4 c4) (c_tup (ca_cons c_bl (ca_cons c_neg1 ca_nil)) (show 2 ≤ 1000 by decide)) rfl (fun d hd => ?_) (by simp [pB, pU, pP]) (by decide) (fun q H4 hq ho y4 => ?_)
        · obtain ⟨ds, rfl, hs⟩ := hd
          match ds, hs with
          | [a, b], hs =>
            obtain ⟨ha, hb, _⟩ := hs
            subst ha hb
            exact ⟨.basic false (-1), rfl, rfl, by decide +kernel⟩
        · obtain ⟨b, n, rfl⟩ := pv_basic hq
          exact hk _ _ ⟨rfl, some (b, n), fun q hq => by rw [List.mem_singleton.mp hq]; exact ho, y4⟩
      · exact hk _ _ ⟨rfl, none, fun q hq => by simp [pB] at hq, (y2.step x3 c3).step x4 c4⟩
    obtain ⟨rfl, ob, gb, y3⟩ := hJ
    -- uses
    refine qc_join (fun σ' H' => ∃ x4, σ' = [some (.ref L), some vi, some (.ref p), some vs, x4, none, none, none] ∧ ∃ ou, (∀ q ∈ pU ou, q.ok = true) ∧ Cur K H L p (dictP ob ou none) [(vs, strsD wss), (vi, strsD wsi)] H')
      (tc_test (c_op (c_roll rfl (by decide) (by decide)) c_int (eqz 3 0))) y3.cup (fun nx hk H4 x4 c4 => ?_) (fun nx hk H4 x4 c4 => hk _ _ ⟨none, rfl, none, fun q hq => by simp [pU] at hq, y3.step x4 c4⟩) (fun σ' H4 hJ => ?_)
    · have y4 := y3.step x4 c4
      refine q_asg (K := K) (d_lst (da_cons (d_tup (da_cons d_str da_nil) (show 1 ≤ 1000 by decide)) (da_cons (d_tup (da_cons d_str (da_cons d_str da_nil)) (show 2 ≤ 1000 by decide)) (da_cons (d_tup (da_cons d_str da_nil) (show 1 ≤ 1000 by decide)) (da_cons (d_tup (da_cons d_str da_nil) (show 1 ≤ 1000 by decide)) (da_cons (d_tup da_nil (show 0 ≤ 1000 by decide)) da_nil))))) (show 5 ≤ 1000 by decide)) fun v5 H5 e5 hv5 => ?_
      have y5 := y4.step (.of e5) (c4.mono e5)
      refine sc_dput y5 (c_some (ds := ([["certs"], ["certs", "lists"], ["sign"], ["agree"], [], ["agree", "certs", "lists", "sign"]] : List (List Str)).map strsD) rfl (fun H1 x c => d_op (d_var rfl ?_) (d_lst (da_cons (d_tup (da_cons d_str (da_cons d_str (da_cons d_str (da_cons d_str da_nil)))) (show 4 ≤ 1000 by decide)) da_nil) (show 1 ≤ 1000 by decide)) (rd_cat (ds := ([["certs"], ["certs", "lists"], ["sign"], ["agree"], []] : List (List Str)).map strsD) (es := ([["agree", "certs", "lists", "sign"]] : List (List Str)).map strsD) (show 5 + 1 ≤ 1000 by decide))) (by decide +kernel) (by decide) (by decide) (by intro _ _ z; simp at z)) rfl (is_uses (by decide +kernel)) ?_ ?_ (fun q H6 hq ho y6 => ?_)
      · cases hv5 with
        | lst h1 h2 =>
          exact .lst (x _ _ (Da.other y5.cup h1 h2 (by intro _ _ z; simp at z)) h1) (h2.cup (by decide +kernel) y5.cup x)
      · rw [dict_words]
        exact no_uses _
      · have := certP_len ob none none
        show (dictP ob none none).length ≤ 10
        simpa [certP, dictP, pP, pU] using Nat.le_trans this (by decide)
      · obtain ⟨ss, rfl⟩ := pv_uses hq
        refine hk _ _ ⟨some v5, rfl, some ss, fun q hq => by rw [List.mem_singleton.mp hq]; exact ho, ?_⟩
        have e : dictP ob none none ++ [PV.uses ss] = dictP ob (some ss) none := by simp [dictP, pU, pP]
        exact e ▸ y6
    obtain ⟨x4, rfl, ou, gu, y4⟩ := hJ
    -- purposes
    refine qc_join (fun σ' H' => ∃ x4, σ' = [some (.ref L), some vi, some (.ref p), some vs, x4, none, none, none] ∧ ∃ op, (∀ q ∈ pP op, q.ok = true) ∧ Cur K H L p (dictP ob ou op) [(vs, strsD wss), (vi, strsD wsi)] H')
      (tc_test (c_op (c_roll rfl (by decide) (by decide)) c_int (eqz 3 0))) y4.cup (fun nx hk H5 x5 c5 => ?_) (fun nx hk H5 x5 c5 => hk _ _ ⟨x4, rfl, none, fun q hq => by simp [pP] at hq, y4.step x5 c5⟩) (fun σ' H5 hJ => ?_)
    · have y5 := y4.step x5 c5
      refine q_asg (K := K) (d_lst (da_cons (d_tup (da_cons d_str da_nil) (show 1 ≤ 1000 by decide)) (da_cons (d_tup (da_cons d_str (da_cons d_str da_nil)) (show 2 ≤ 1000 by decide)) (da_cons (d_tup (da_cons d_str da_nil) (show 1 ≤ 1000 by decide)) (da_cons (d_tup (da_cons d_str (da_cons d_str da_nil)) (show 2 ≤ 1000 by decide)) (da_cons (d_tup (da_cons d_str da_nil) (show 1 ≤ 1000 by decide)) (da_cons (d_tup da_nil (show 0 ≤ 1000 by decide)) da_nil)))))) (show 6 ≤ 1000 by decide)) fun v5 H6 e6 hv5 => ?_
      have y6 := y5.step (.of e6) (c5.mono e6)
      refine sc_dput y6 (c_some (ds := ([["serve"], ["call", "serve"], ["any"], ["any", "call"], ["stamp"], [], ["call", "serve", "sign", "stamp"]] : List (List Str)).map strsD) rfl (fun H1 x c => d_op (d_var rfl ?_) (d_lst (da_cons (d_tup (da_cons d_str (da_cons d_str (da_cons d_str (da_cons d_str da_nil)))) (show 4 ≤ 1000 by decide)) da_nil) (show 1 ≤ 1000 by decide)) (rd_cat (ds := ([["serve"], ["call", "serve"], ["any"], ["any", "call"], ["stamp"], []] : List (List Str)).map strsD) (es := ([["call", "serve", "sign", "stamp"]] : List (List Str)).map strsD) (show 6 + 1 ≤ 1000 by decide))) (by decide +kernel) (by decide) (by decide) (by intro _ _ z; simp at z)) rfl (is_purposes (by decide +kernel)) ?_ ?_ (fun q H7 hq ho y7 => ?_)
      · cases hv5 with
        | lst h1 h2 =>
          exact .lst (x _ _ (Da.other y6.cup h1 h2 (by intro _ _ z; simp at z)) h1) (h2.cup (by decide +kernel) y6.cup x)
      · rw [dict_words]
        exact no_purposes _ _
      · have := certP_len ob none ou
        show (dictP ob ou none).length ≤ 10
        simpa [certP, dictP, pP, pU] using Nat.le_trans this (by decide)
      · obtain ⟨ss, rfl⟩ := pv_purposes hq
        refine hk _ _ ⟨some v5, rfl, some ss, fun q hq => by rw [List.mem_singleton.mp hq]; exact ho, ?_⟩
        have e : dictP ob ou none ++ [PV.purposes ss] = dictP ob ou (some ss) := by simp [dictP, pU, pP]
        exact e ▸ y7
    obtain ⟨x5, rfl, op, gp, y5⟩ := hJ
    -- since
    refine qc_asg (c_weak (c_some (ds := ([0, 0, 0, 1, 3, 6] : List Int).map PyData.int) rfl (fun H1 _ _ => (d_lst (da_cons d_int (da_cons d_int (da_cons d_int (da_cons d_int (da_cons d_int (da_cons d_int da_nil)))))) (show 6 ≤ 1000 by decide))) (by decide +kernel) (by decide) (by decide) (by intro _ _ z; simp at z)) (is_ints (lo := 0) (hi := 7) (by decide +kernel))) y5.cup fun v6 d6 H6 x6 c6 hv6 f6 s6 => ?_
    obtain ⟨since, rfl, since0, since1⟩ := s6
    have y6 := (y5.step x6 c6).add hv6 f6
    -- until
    refine qc_asg (c_op (S := IsInt since 1000000001) (c_var rfl hv6 rfl c6) (c_some (ds := ([9, 9, 9, 4, 1, 0, (10 : Int) ^ (Int.toNat 9) - since] : List Int).map PyData.int) rfl (fun H1 x c => d_lst (da_cons d_int (da_cons d_int (da_cons d_int (da_cons d_int (da_cons d_int (da_cons d_int (da_cons (d_op (d_op d_int d_int (rd_pow (by unfold CPow; decide))) (d_var rfl (hv6.cup rfl c6 x)) rd_sub) da_nil))))))) (show 7 ≤ 1000 by decide)) rfl (by show 1 ≤ 7; decide) (by show 7 ≤ 1000; decide) (by intro _ _ z; simp at z)) (fun d e hd he => ?_)) c6 fun v7 d7 H7 x7 c7 hv7 f7 s7 => ?_
    · subst hd
      obtain ⟨n, hn, rfl⟩ := List.mem_map.mp he
      refine ⟨.int (since + n), rd_add, rfl, since + n, rfl, ?_⟩
      have e10 : (10 : Int) ^ (Int.toNat 9) = 1000000000 := by decide
      rw [e10] at hn
      simp only [List.mem_cons, List.not_mem_nil, or_false] at hn
      omega
    obtain ⟨til, rfl, til0, til1⟩ := s7
    have y7 := (y6.step x7 c7).add hv7 f7
    -- head
    have hvi7 := y7.da (vi, strsD wsi) (.tail _ (.tail _ (.tail _ (.head _))))
    have hvs7 := y7.da (vs, strsD wss) (.tail _ (.tail _ (.head _)))
    have hv67 := y7.da (v6, .int since) (.tail _ (.head _))
    refine qc_asg (c_tup (ca_cons (c_roll rfl (by decide) (by decide)) (ca_cons (c_var rfl hvi7.1 hvi7.2 c7) (ca_cons (c_var rfl hvs7.1 hvs7.2 c7) (ca_cons (c_roll rfl (by decide) (by decide)) (ca_cons (c_roll rfl (by decide) (by decide)) (ca_cons (c_var rfl hv67.1 hv67.2 c7) (ca_cons (c_var rfl hv7 f7 c7) ca_nil))))))) (show 7 ≤ 1000 by decide)) c7 fun v8 d8 H8 x8 c8 hv8 f8 s8 => ?_
    have y8 := y7.step x8 c8
    obtain ⟨ds, rfl, s8⟩ := s8
    match ds, s8 with
    | [a0, a1, a2, a3, a4, a5, a6], ⟨h0, h1, h2, h3, h4, h5, h6, _⟩ =>
      subst h1 h2 h5 h6
      obtain ⟨n0, rfl, l0, u0⟩ := h0
      obtain ⟨n3, rfl, l3, u3⟩ := h3
      obtain ⟨n4, rfl, l4, u4⟩ := h4
      refine rc_ret (c_op (S := fun d => ∃ n8, 0 ≤ n8 ∧ n8 < 3 ∧ d = certD ⟨n0, wsi, wss, n3, n4, since, til, ob, op, ou, n8⟩) (c_var rfl hv8 f8 c8) (c_tup (ca_cons (c_parts rfl y8.dk c8) (ca_cons (c_roll rfl (by decide) (by decide)) ca_nil)) (show 2 ≤ 1000 by decide)) (fun d e hd he => ?_)) c8 fun v d H9 x9 c9 hv9 s9 => ?_
      · subst hd
        obtain ⟨es, rfl, hs⟩ := he
        match es, hs with
        | [b0, b1], ⟨g0, g1, _⟩ =>
          subst g0
          obtain ⟨n8, rfl, l8, u8⟩ := g1
          refine ⟨_, rd_catT (show 7 + 2 ≤ 1000 by decide), ?_, n8, l8, u8, ?_⟩
          · show (true && (flatL (strsD wsi) && (flatL (strsD wss) && (true && (true && (true && (true && (flatLs ((certP ob op ou).map pvD) && (true && true))))))))) = true
            rw [flat_strLD, flat_strLD, flat_pvs]
            rfl
          · unfold certD
            rw [parts_eq]
            rfl
      · obtain ⟨n8, l8, u8, rfl⟩ := s9
        have y9 := y8.step x9 c9
        refine k v H9 _ (fun b o n h => y9.ex b o n (fun z => fresh o (z ▸ h)) h) c9 ⟨?_, gi, gs, ?_, ?_, ?_, ?_, fun q hq => ?_, ?_⟩ hv9
        · show isWhole (.int n0) 0 1000000 = true
          rw [isWhole_int, decide_eq_true l0, decide_eq_true (by omega)]
          rfl
        · show isWhole (.int n3) 0 4294967295 = true
          rw [isWhole_int, decide_eq_true l3, decide_eq_true (by omega)]
          rfl
        · show isWhole (.int n4) 0 4294967295 = true
          rw [isWhole_int, decide_eq_true l4, decide_eq_true (by omega)]
          rfl
        · show isWhole (.int since) 0 1000000000 = true
          rw [isWhole_int, decide_eq_true since0, decide_eq_true (by omega)]
          rfl
        · show isWhole (.int til) since 1000000000 = true
          rw [isWhole_int, decide_eq_true til0, decide_eq_true (by omega)]
          rfl
        · rw [parts_eq] at hq
          rcases List.mem_append.mp hq with hq | hq
          · exact gb q hq
          · rcases List.mem_append.mp hq with hq | hq
            · exact gp q hq
            · exact gu q hq
        · show isWhole (.int n8) 0 4294967295 = true
          rw [isWhole_int, decide_eq_true l8, decide_eq_true (by omega)]
          rfl
end
end DL
/-! a drawn chain -/
namespace DL
open PySem PySem.Spec PyProof.Rows L2
theorem flat_certD (c : Cert) : flatL (certD c) = true := by
  show (true && (flatL (strsD c.issuer) && (flatL (strsD c.subject) && (true && (true && (true && (true && (flatLs (c.parts.map pvD) && (true && true))))))))) = true
  rw [flat_strLD, flat_strLD, flat_pvs]
  rfl
theorem flat_certs : ∀ cs : List Cert, flatLs (cs.map certD) = true
  | [] => rfl
  | c :: cs => by
    show (flatL (certD c) && flatLs (cs.map certD)) = true
    rw [flat_certD, flat_certs cs]
    rfl
theorem flat_chainD (cs : List Cert) : flatL (chainD cs) = true := flat_certs cs
def SpChain (K : PySem.W.Frag) : Sp := fun vs H Q _ => ∃ L m, vs = [.ref L, .int m] ∧ CupAt H L ∧ 1 ≤ m ∧ m ≤ 6 ∧ ∀ v H' (cs : List Cert), ExC L H H' → CupAt H' L → chainOk cs → (cs.length : Int) ≤ m → Da K H' v (chainD cs) → Q v H'
section
variable {K : PySem.W.Frag} {σ : L2.St} {H : Hp} {L : Addr} {tl : TE} {E : XK}
theorem c_rollE {i : Nat} {m : Int} (h : σ[i]? = some (some (.ref L))) (ht : ∀ H1, ExC L H H1 → CupAt H1 L → EvD K tl σ H1 (.int m)) (h1 : 1 ≤ m) (h2 : m ≤ 1000) : EvC K L (tCall (SpRoll K) [] E (tCons (tVar i) (tCons tl tNil))) σ H (IsInt 0 m) := fun H1 e c Q q =>
  ⟨.ref L, h, ht H1 e c H1 (Evl.Ex.refl _) _ fun v H2 e2 hv => by
    cases hv
    exact ⟨L, m, rfl, c.mono e2, h1, h2, fun r H' x c' r0 r1 => q _ H' (.int r) ((ExC.of e2).trans x) c' (.int r) rfl ⟨r, rfl, r0, r1⟩⟩⟩
end
/-- the drawn so far -/
structure Drn (K : PySem.W.Frag) (H0 : Hp) (L D : Addr) (i : Nat) (H : Hp) : Prop where
  cup : CupAt H L
  ex : ∀ b o, b ≠ L → H0 b = some o → H b = some o
  lst : ∃ (cs : List Cert) (xs : List V), H D = some (.lst xs) ∧ DaAll K H xs (cs.map certD) ∧ cs.length = i ∧ ∀ c ∈ cs, c.ok
section
variable {P : Program} {w : World} {K : PySem.W.Frag} {mg : Str → Option Value} {base : Heap} {A : Ad}
theorem ok_law_drawn_chain (T : Txt K mg A) : FnOk P w K mg base CX0 4 A.a_law_drawn_chain A.f_law_drawn_chain ["_law_cup_here", "_law_most"] (SpChain K) := by
  refine T.d_law_drawn_chain.fn.ok sc_law_drawn_chain (fun vs H Q E h => ?_) (fun cdv AA outer s H vs Q E hr h => ?_)
  · obtain ⟨L, m, rfl, _⟩ := h
    rfl
  · obtain ⟨L, m, rfl, c0, h1, h6, k⟩ := h
    refine ⟨_, (pss_one (ps_ret (pe_T (k_tupof (K := K) rfl) T.b_tuple (pa_cons (pe_lc (own := [("_law_at", 2)]) (by rfl) sc_law_drawn_chain.nd (pi_range1 rfl T.b_range (pa_cons (pe_op (k_add (K := K) rfl) pe_int (pe_cl T.d_law_roll (ok_law_roll T) (hr.mono (by decide)) pass0 (pa_cons (pv 0) (pa_cons (pv 1) pa_nil)))) pa_nil)) (blkOk_by (own := [("_law_at", 2)]) (N := ["_law_cup_here", "_law_most", "_law_at"]) (sc := defScope s_law_drawn_chain) (by decide +kernel)) (fun _ _ _ _ _ => (pg_name (i := 2) sc_law_drawn_chain.nd rfl (Or.inl rfl))) (fun _ _ _ _ _ => pts_nil) (fun _ _ _ _ _ => (pe_cl T.d_law_certificate (ok_law_certificate T) (hr.mono (by decide)) pass0 (pa_cons (pv 0) pa_nil)))) pa_nil)))), ?_⟩
    refine c_op (K := K) (L := L) (S := fun d => ∃ r, d = .int (1 + r) ∧ 0 ≤ r ∧ r < m) c_int (c_rollE rfl (fun _ _ _ => d_var rfl (.int m)) h1 (by omega)) (fun d e hd he => ?_) H (.refl _ _) c0 _ fun v H1 d x1 c1 hv _ hd => ?_
    · obtain ⟨r, hr, r0, r1⟩ := he
      subst hd hr
      exact ⟨_, rd_add, rfl, r, rfl, r0, r1⟩
    obtain ⟨r, rfl, r0, r1⟩ := hd
    cases hv
    refine ⟨1 + r, rfl, by omega, by omega, fun D hD => ?_⟩
    have nL : D ≠ L := fun z => by
      obtain ⟨a, b, hL, _⟩ := c1
      rw [z, hL] at hD
      cases hD
    refine lc_it walk_range (Drn K H1 L D) ⟨c1.mono (Evl.Ex.new hD), fun b o _ h => Evl.Ex.new hD _ _ h, [], [], upd_same, .nil, rfl, fun c hc => by simp at hc⟩ (fun _ _ _ _ => trivial) (fun i x H2 H3 hi p y => ?_) (fun H2 p => ?_)
    · obtain ⟨rfl, rfl⟩ := y
      refine ⟨rfl, ?_⟩
      unfold tYes
      show ite (true = true) _ _
      rw [if_pos rfl]
      obtain ⟨p1, p2, cs, xs, p3, p4, p5, p6⟩ := p
      refine ⟨.ref L, rfl, L, rfl, p1, fun v H4 c x4 c4 hc hv => ?_⟩
      have hD4 := x4 _ _ nL p3
      have a4 := p4.cup (flat_certs cs) p1 x4
      have hl := p4.length
      rw [List.length_map] at hl
      refine ⟨xs, hD4, Evl.sz_lt (by omega), ?_⟩
      obtain ⟨a, b, hL, hr⟩ := c4
      refine ⟨⟨a, b, by rw [upd_ne (Ne.symm nL)]; exact hL, hr⟩, fun b o n h => ?_, cs ++ [c], xs ++ [v], upd_same, ?_, by rw [List.length_append, p5]; rfl, fun c' hc' => ?_⟩
      · rw [upd_ne (fun z => by rw [z, hD] at h; cases h)]
        exact x4 b o n (p2 b o n h)
      · rw [List.map_append]
        exact (a4.updL (flat_certs cs) hD4).append (.one (hv.updL (flat_certD c) hD4))
      · rcases List.mem_append.mp hc' with hc' | hc'
        · exact p6 c' hc'
        · rw [List.mem_singleton.mp hc']
          exact hc
    · obtain ⟨p1, p2, cs, xs, p3, p4, p5, p6⟩ := p
      refine ⟨D, xs, rfl, .inl ⟨SqL.of p3, fun l hl => ?_⟩⟩
      refine k _ _ cs (fun b o n h => Evl.Ex.new hl _ _ (p2 b o n (x1 b o n h))) (p1.mono (Evl.Ex.new hl)) ⟨by omega, by omega, p6⟩ (by omega) (.tup (SqT.of upd_same) (p4.mono (Evl.Ex.new hl)))
end
end DL
/-! what is refused: the lambdas -/
namespace DL
open PySem PySem.Spec PyProof.Rows L2
abbrev ExtN := LamX.ExtN
section
variable {K : PySem.W.Frag} {H H' : Hp}
theorem sqt_en {a : Addr} {xs : List V} (e : ExtN H H') (h : SqT K H a xs) : SqT K H' a xs := by
  rcases h with (h | ⟨o, h⟩) | h
  · exact .inl (.inl (e _ _ h fun _ z => nomatch z))
  · exact .inl (.inr ⟨o, e _ _ h fun _ z => nomatch z⟩)
  · exact .inr h
mutual
theorem Da.en (e : ExtN H H') : ∀ (d : PyData) (v : V), Da K H v d → Da K H' v d
  | .none, _, h => by cases h; exact .non
  | .bool b, _, h => by cases h; exact .bl b
  | .int i, _, h => by cases h; exact .int i
  | .str x, _, h => by cases h; exact .str x
  | .list ds, _, h => by
    cases h with
    | lst hs ha => exact .lst (e _ _ hs fun _ z => nomatch z) (DaAll.en e ds _ ha)
  | .tuple ds, _, h => by
    cases h with
    | tup hs ha => exact .tup (sqt_en e hs) (DaAll.en e ds _ ha)
  | .dict _, _, h => by cases h
theorem DaAll.en (e : ExtN H H') : ∀ (ds : List PyData) (vs : List V), DaAll K H vs ds → DaAll K H' vs ds
  | [], _, h => by cases h; exact .nil
  | d :: ds, _, h => by
    cases h with
    | cons h1 h2 => exact .cons (Da.en e d _ h1) (DaAll.en e ds _ h2)
end
theorem Da.monoN {v : V} {d : PyData} (h : Da K H v d) (e : ExtN H H') : Da K H' v d := Da.en e d v h
end
theorem ex_en {H H' : Hp} (e : Ex H H') : ExtN H H' := fun b o h _ => e b o h
/-- told by its word: try: a() / except .. -/
def TTerr (CC CN : Addr) : (XK → Hp → VK → Prop) → Hp → VK → Prop := fun tl H Q =>
  ∀ Q' : VK, tl (fun cls _ H' => (cls = .ref CC ∧ Q (.str "chain") H') ∨ (cls = .ref CN ∧ Q (.str "number") H')) H Q'
theorem err_gives {X : Cx} {A : Ad} {cdg : Value} {q : Str} (T : Txt X.K X.mg A) : LamX.GivesTo X ["_law_call"] "_law_error" (defScope s_law_error) A.a_law_error cdg (defBody s_law_error) "_law_call" q (TTerr A.a_InvalidChain A.a_InvalidNumber) := by
  intro f c' s H Q tl act hc h
  refine ⟨_, pss_cons (ps_try_many (X := (cxOf C8.CX0 X.prog X.w X.K X.mg X.base ["_law_call"] "_law_error" (defScope s_law_error) A.a_law_error cdg X.A X.stack s H C8.E0).nox)
      (tb := fun W D σ H => ∃ Ech : XK, (∀ cls d σ' H', Ech cls d H' → W cls d σ' H') ∧ σ[0]? = some (some (.ref f)) ∧ H c' = some (LamX.CodeO c' q) ∧ ∀ Q', tl Ech H Q') rfl rfl LamX.takes0 (fun W pn xe tk _ => ?_)
      (.cons ⟨rfl, by decide, .inl T.e_InvalidCertificate.g⟩ (fun a oe cls d pn _ _ => pss_one (ps_ret pe_str))
      (.cons ⟨rfl, by decide, .inl T.e_InvalidChain.g⟩ (fun a oe cls d pn _ _ => pss_one (ps_ret pe_str))
      (.cons ⟨rfl, by decide, .inl T.e_InvalidLimits.g⟩ (fun a oe cls d pn _ _ => pss_one (ps_ret pe_str))
      (.cons ⟨rfl, by decide, .inl T.e_InvalidNumber.g⟩ (fun a oe cls d pn _ _ => pss_one (ps_ret pe_str))
      (.cons ⟨rfl, by decide, .inl T.e_InvalidPurposes.g⟩ (fun a oe cls d pn _ _ => pss_one (ps_ret pe_str))
      (.cons ⟨rfl, by decide, .inl T.e_InvalidTimes.g⟩ (fun a oe cls d pn _ _ => pss_one (ps_ret pe_str))
      (.cons ⟨rfl, by decide, .inl T.e_InvalidUses.g⟩ (fun a oe cls d pn _ _ => pss_one (ps_ret pe_str))
      (.cons ⟨rfl, by decide, .inl T.e_ChainError.g⟩ (fun a oe cls d pn _ _ => pss_one (ps_ret pe_str)) .nil))))))))) (pss_one (ps_ret pe_str)), ?_⟩
  · refine ⟨fun pins s' σ H' D I h' => ?_⟩
    obtain ⟨Ech, hW, h1, h2, h3⟩ := h'
    exact (pss_one (ps_expr (act W pn xe Ech _ _ tk hW))).run pins s' σ H' D I ⟨h1, h2, h3 _⟩
  · refine ⟨fun cls _ H' => (cls = .ref A.a_InvalidChain ∧ Q (.str "chain") H') ∨ (cls = .ref A.a_InvalidNumber ∧ Q (.str "number") H'), fun cls d σ' H' hh => ?_, rfl, hc, h⟩
    rcases hh with ⟨rfl, q⟩ | ⟨rfl, q⟩
    · exact ⟨false, T.x_InvalidChain_InvalidCertificate, (fun z => nomatch z), fun _ => ⟨true, T.x_InvalidChain_self, fun _ a _ => q, (fun z => nomatch z)⟩⟩
    · exact ⟨false, T.x_InvalidNumber_InvalidCertificate, (fun z => nomatch z), fun _ => ⟨false, T.x_InvalidNumber_InvalidChain, (fun z => nomatch z), fun _ => ⟨false, T.x_InvalidNumber_InvalidLimits, (fun z => nomatch z), fun _ => ⟨true, T.x_InvalidNumber_self, fun _ a _ => q, (fun z => nomatch z)⟩⟩⟩⟩
section
variable {K : PySem.W.Frag} {σ : L2.St} {H : Hp} {tl : TE}
/-- [error(lambda: ..) for x in t] -/
theorem lam_lc {ds : List PyData} {j : Nat} {T : List (Addr × Str)} {CC CN : Addr} {t : XK → TE} {Q : VK} {cls : Value} {word : Str} (h : EvD K tl σ H (.tuple ds)) (hn : ds.length ≤ 1000) (hT : LamX.Tabs T H)
    (hc : (cls = .ref CC ∧ word = "chain") ∨ (cls = .ref CN ∧ word = "number"))
    (he : ∀ d x H', d ∈ ds → ExtN H H' → Da K H' x d → ∀ E : XK, (∀ H2, Ex H' H2 → E cls none H2) → ∀ Q', t E ((wipe σ [j]).set j (some x)) H' Q')
    (k : ∀ D H', ExtN H H' → LamX.Tabs T H' → Da K H' (.ref D) (.list ((List.replicate ds.length word).map PyData.str)) → Q (.ref D) H') : tLc (iTup K tl) (gName j) tYes (LamX.tLam T (TTerr CC CN) t) [j] σ H Q := by
  refine h H (Evl.Ex.refl H) _ fun v H1 e1 hv => ?_
  cases hv with
  | @tup a xs _ hs ha =>
    refine ⟨a, rfl, ⟨xs, hs⟩, fun D hD => ?_⟩
    refine lc_it walk_tup (fun i H' => ExtN H1 H' ∧ LamX.Tabs T H' ∧ H' D = some (.lst ((List.replicate i word).map V.str))) ⟨ex_en (Evl.Ex.new hD), (hT.ext e1).ext (Evl.Ex.new hD), upd_same⟩ (fun _ _ _ p => sqt_en p.1 hs) (fun i x H2 H3 hi p y => ?_) (fun H2 p => ?_)
    · obtain ⟨rfl, hx⟩ := y
      obtain ⟨p1, p2, p3⟩ := p
      refine ⟨wipe_set1, ?_⟩
      unfold tYes
      show ite (true = true) _ _
      rw [if_pos rfl]
      refine ⟨p2, fun H4 e4 T4 Q' => ?_⟩
      have hl := ha.length
      obtain ⟨d, hd, hxd⟩ := ha.get hx
      refine he d x H4 (List.mem_of_getElem? hd) (((ex_en e1).trans p1).trans e4) (hxd.monoN (p1.trans e4)) _ (fun H5 e5 => ?_) Q'
      have fin : ∃ acc, H5 D = some (.lst acc) ∧ acc.length < sizeLine ∧ (fun i H' => ExtN H1 H' ∧ LamX.Tabs T H' ∧ H' D = some (.lst ((List.replicate i word).map V.str))) (i + 1) (upd H5 D (.lst (acc ++ [.str word]))) := by
        have p5 := e5 _ _ (e4 _ _ p3 fun _ z => nomatch z)
        refine ⟨_, p5, Evl.sz_lt (by rw [List.length_map, List.length_replicate]; omega), fun b o hb n => ?_, fun p hp => ?_, ?_⟩
        · rw [upd_ne (fun z => by rw [z, hD] at hb; cases hb)]
          exact e5 _ _ (e4 _ _ (p1 _ _ hb n) n)
        · obtain ⟨ps, a1, a2, a3⟩ := (T4.ext e5) p hp
          refine ⟨ps, by rw [upd_ne (fun z => by rw [z, p5] at a1; cases a1)]; exact a1, a2, fun pos cv hcv => ?_⟩
          obtain ⟨c, b1, b2⟩ := a3 pos cv hcv
          exact ⟨c, b1, by rw [upd_ne (fun z => by rw [z, p5] at b2; unfold LamX.CodeO at b2; cases b2)]; exact b2⟩
        · rw [upd_same, List.replicate_succ', List.map_append]
          rfl
      rcases hc with ⟨rfl, rfl⟩ | ⟨rfl, rfl⟩
      · exact .inl ⟨rfl, fin⟩
      · exact .inr ⟨rfl, fin⟩
    · obtain ⟨p1, p2, p3⟩ := p
      have hl := ha.length
      rw [hl] at p3
      exact k D H2 ((ex_en e1).trans p1) p2 (.lst p3 (da_strs _))
end
end DL
/-! what law needs -/
namespace DL
open PySem PySem.Spec PyProof.Rows L2
theorem passL {X : Cx} {P : Program} {w : World} : Passes (L2.CX P w) X E0 := fun _ _ _ _ _ _ _ h => by
  obtain ⟨_, _, _, _, _, _, _, _, _, _, _, _, z⟩ := h
  exact z.elim
theorem pe_err {X : Cx} {A : Ad} {q : Str} {c P : Addr} {k : Nat} {params : Arguments} {body : Expr} {scope : Scope} {t : XK → TE} {p lpos pos : Pos} (T : Txt X.K X.mg A) (hg : Gl X "_law_error") (TB : LamX.TabB X.base X.mg c P) (hcode : X.env.code = .ref c) (hq : X.env.qual = q)
    (hr : Room (k + 2) X.A) (L : LamX.LamS X.env.scope scope) (hdef : defaultsOf params X.env = ([], []))
    (hbind : ∀ (q : Str) (cl : List (Str × Addr)) (pm cv ctv : Value), bindArgs (PySem.W.kla_fn "<lambda>" q params body scope cl pm cv ctv) ⟨[], []⟩ = pure [])
    (hbody : ∀ (A : Around) (outer : List Env) (s : Shared) (H : Hp) (E : XK) (f c' : Addr), Room k (A.deeper (LamX.lamEnv X scope s.heap.objs.size f c')) → PE (LamX.lamCx X A outer s H E scope f c') body (t E)) :
    PE X (.Call (.Name "_law_error" p) [.Lambda params body scope lpos] [] pos) (LamX.tLam [(P, q ++ "<lambda>")] (TTerr A.a_InvalidChain A.a_InvalidNumber) t) := by
  subst hq
  obtain ⟨oc, od, kV, doc, pm, an, cdv, ct, osl, e, lk, hcd⟩ := T.d_law_error.fn.ex
  have hb := T.d_law_error.bd
  rw [e] at lk hb
  exact LamX.pe_lamcall hg T.d_law_error.m T.d_law_error.fn.kp lk hcd hb sc_law_error rfl (.inl rfl) (err_gives T) TB hcode (.head _) (fun p hp _ => by rw [List.mem_singleton.mp hp]) hr L hdef hbind hbody
section
variable {K : PySem.W.Frag} {σ : L2.St} {H : Hp} {L : Addr} {te tl : TE} {S : PyData → Prop} {D : Ends} {tz tb : TS} {E : XK}
theorem c_chain {i : Nat} {m : Int} (h : σ[i]? = some (some (.ref L))) (h1 : 1 ≤ m) (h2 : m ≤ 6) : EvC K L (tCall (SpChain K) [] E (tCons (tVar i) (tCons (tC (.int m)) tNil))) σ H (fun d => ∃ cs, d = chainD cs ∧ chainOk cs ∧ (cs.length : Int) ≤ m) := fun H1 e c Q q =>
  ⟨.ref L, h, L, m, rfl, c, h1, h2, fun v H' cs x c' hc hl hv => q v H' (chainD cs) x c' hv (flat_chainD cs) ⟨cs, rfl, hc, hl⟩⟩
/-- for x in range(n) -/
theorem q_forC {n : Int} {j : Nat} (h1 : -(2 ^ 62) ≤ n) (h2 : n < 2 ^ 62) (Pv : Nat → L2.St → Hp → Prop) (h0 : Pv 0 σ H) (hs : ∀ i σ' H', i < n.toNat → Pv i σ' H' → tb { D with nx := Pv (i + 1), ct := Pv (i + 1), bk := tz D } (σ'.set j (some (.int (i : Int)))) H')
    (hd : ∀ σ' H', Pv n.toNat σ' H' → tz D σ' H') : tSeq (tFor (iRng1 (tCons (tC (.int n)) tNil)) (gName j) tb) tz D σ H :=
  ⟨n, rfl, h1, h2, for_it (D := { D with nx := tz D }) walk_range Pv h0 (fun _ _ _ _ _ => trivial) (fun i x σ' H' H'' hi p y => by
    obtain ⟨rfl, rfl⟩ := y
    have e : (0 : Int) + (i : Int) = (i : Int) := Int.zero_add _
    show tb _ (σ'.set j (some (.int (0 + (i : Int))))) _
    rw [e]
    exact hs i σ' _ hi p) hd⟩
/-- x, y = a, b -/
theorem q_asg2 {i j : Nat} {d e : PyData} (h : EvD K te σ H (.tuple [d, e])) (k : ∀ a b H1, Ex H H1 → Da K H1 a d → Da K H1 b e → tz D ((σ.set i (some a)).set j (some b)) H1) :
    tSeq (tAsg te (gTup K 2 (gCons (gName i) (gCons (gName j) gNil)))) tz D σ H := h H (Evl.Ex.refl H) _ fun v H1 e1 hv => g_pair (vs := []) hv _ fun a b ha hb => k a b H1 e1 ha hb
theorem qc_asg2 {i j : Nat} {S1 S2 : PyData → Prop} (h : EvC K L te σ H (fun d => ∃ ds, d = .tuple ds ∧ SAll [S1, S2] ds)) (c : CupAt H L) (k : ∀ a b d e H1, ExC L H H1 → CupAt H1 L → Da K H1 a d → Da K H1 b e → S1 d → S2 e → tz D ((σ.set i (some a)).set j (some b)) H1) :
    tSeq (tAsg te (gTup K 2 (gCons (gName i) (gCons (gName j) gNil)))) tz D σ H := h H (.refl _ _) c _ fun v H1 d x1 c1 hv _ s => by
  obtain ⟨ds, rfl, s⟩ := s
  match ds, s with
  | [d, e], ⟨s1, s2, _⟩ => exact g_pair (vs := []) hv _ fun a b ha hb => k a b d e H1 x1 c1 ha hb s1 s2
/-- xs = xs + [error(lambda: ..) for x in t] -/
theorem q_lamAdd {i : Nat} {v : V} {ws : List Str} {ds : List PyData} {j : Nat} {T : List (Addr × Str)} {CC CN : Addr} {t : XK → TE} {cls : Value} {word : Str} (hv : σ[i]? = some (some v)) (hvd : Da K H v (.list (ws.map PyData.str))) (h : EvD K tl σ H (.tuple ds)) (hn : ds.length ≤ 100) (hw : ws.length ≤ 100)
    (hT : LamX.Tabs T H) (hc : (cls = .ref CC ∧ word = "chain") ∨ (cls = .ref CN ∧ word = "number"))
    (he : ∀ d x H', d ∈ ds → ExtN H H' → Da K H' x d → ∀ E : XK, (∀ H2, Ex H' H2 → E cls none H2) → ∀ Q', t E ((wipe σ [j]).set j (some x)) H' Q')
    (k : ∀ v' H', ExtN H H' → LamX.Tabs T H' → Da K H' v' (.list ((ws ++ List.replicate ds.length word).map PyData.str)) → tz D (σ.set i (some v')) H') :
    tSeq (tAsg (tOp (rAddX K) (tVar i) (tLc (iTup K tl) (gName j) tYes (LamX.tLam T (TTerr CC CN) t) [j])) (gName i)) tz D σ H := by
  refine ⟨v, hv, lam_lc h (by omega) hT hc he fun B H1 e1 T1 hB => ?_⟩
  refine rd_cat (by rw [List.length_map, List.length_map, List.length_replicate]; omega) H1 v (.ref B) (hvd.monoN e1) hB _ fun u H2 e2 hu => ?_
  rw [List.map_append] at k
  exact k u H2 (e1.trans (ex_en e2)) (T1.ext e2) hu
end
/-! ### the law's own chains -/
def cHead : Cert := ⟨1, ["r"], ["r", "a"], 11, 5, 10, 90, some (true, 0), some ["call", "serve"], none, 0⟩
def cOwn : Cert := ⟨2, ["r", "a"], ["r", "a"], 12, 11, 0, 60, some (true, -1), none, none, 0⟩
def cLast : Cert := ⟨3, ["r", "a"], ["r", "b"], 13, 12, 20, 70, none, none, some ["sign"], 0⟩
def cTwo : Cert := ⟨1, ["r"], ["r", "a"], 11, 5, 10, 90, some (true, 2), none, none, 0⟩
theorem ok_of {c : Cert} (h1 : isWhole (.int c.serial) 0 1000000 = true) (h2 : goodWords c.issuer 1 4 = true) (h3 : goodWords c.subject 1 4 = true) (h4 : isWhole (.int c.key) 0 4294967295 = true) (h5 : isWhole (.int c.sealer) 0 4294967295 = true) (h6 : isWhole (.int c.since) 0 1000000000 = true)
    (h7 : isWhole (.int c.til) c.since 1000000000 = true) (h8 : c.parts.all PV.ok = true) (h9 : isWhole (.int c.stampN) 0 4294967295 = true) : c.ok := ⟨h1, h2, h3, h4, h5, h6, h7, List.all_eq_true.mp h8, h9⟩
theorem okHead : cHead.ok := ok_of (by decide +kernel) (by decide +kernel) (by decide +kernel) (by decide +kernel) (by decide +kernel) (by decide +kernel) (by decide +kernel) (by decide +kernel) (by decide +kernel)
theorem okOwn : cOwn.ok := ok_of (by decide +kernel) (by decide +kernel) (by decide +kernel) (by decide +kernel) (by decide +kernel) (by decide +kernel) (by decide +kernel) (by decide +kernel) (by decide +kernel)
theorem okLast : cLast.ok := ok_of (by decide +kernel) (by decide +kernel) (by decide +kernel) (by decide +kernel) (by decide +kernel) (by decide +kernel) (by decide +kernel) (by decide +kernel) (by decide +kernel)
theorem okTwo : cTwo.ok := ok_of (by decide +kernel) (by decide +kernel) (by decide +kernel) (by decide +kernel) (by decide +kernel) (by decide +kernel) (by decide +kernel) (by decide +kernel) (by decide +kernel)
def isOurs (c : Cert) : Prop := c = cHead ∨ c = cOwn ∨ c = cLast ∨ c = cTwo
theorem ours_ok {c : Cert} (h : isOurs c) : c.ok := by
  rcases h with rfl | rfl | rfl | rfl
  · exact okHead
  · exact okOwn
  · exact okLast
  · exact okTwo
theorem ours_chain {cs : List Cert} (h1 : 1 ≤ cs.length) (h2 : cs.length ≤ 8) (h : ∀ c ∈ cs, isOurs c) : chainOk cs := ⟨h1, h2, fun c hc => ours_ok (h c hc)⟩
theorem v_row1 : countsL [cHead, cOwn, cLast] (-1) 2 = [0] := by decide +kernel
theorem v_row2 : leftL (-1) [cHead, cOwn, cLast] = [0, 0] := by decide +kernel
theorem v_row3 : leftL 0 [cHead, cOwn, cLast] = [-2] := by decide +kernel
theorem v_row4 : leftL 0 [cLast] = [] := by decide +kernel
theorem v_two5 : leftL 8 [cTwo, cTwo, cTwo, cTwo, cTwo] = [2, 1, 0, -2] := by decide +kernel
theorem v_two3 : leftL 1 [cTwo, cTwo, cTwo] = [0, -2] := by decide +kernel
theorem v_own8 : leftL (-1) [cOwn, cOwn, cOwn, cOwn, cOwn, cOwn, cOwn, cOwn] = [-1, -1, -1, -1, -1, -1, -1] := by decide +kernel
theorem v_mix : leftL 3 [cTwo, cOwn, cTwo, cLast] = [2, 2, 1] := by decide +kernel
/-- lists of lists of ints, lists of texts -/
def rowsD (nss : List (List Int)) : PyData := .list (nss.map intsD)
theorem lay_rows : ∀ nss : List (List Int), PyData.canLayAll0 (nss.map intsD) = true
  | [] => by simp [PyData.canLayAll0]
  | ns :: nss => by
    simp only [List.map_cons, PyData.canLayAll0, Bool.and_eq_true]
    exact ⟨by simp only [intsD, PyData.canLay0]; exact lay_ints ns, lay_rows nss⟩
theorem depth_rows : ∀ nss : List (List Int), PyData.depthAll (nss.map intsD) ≤ 1
  | [] => by simp [PyData.depthAll]
  | ns :: nss => by
    have := depth_rows nss
    simp only [List.map_cons, PyData.depthAll, intsD, PyData.depth, depth_ints]
    simp [intsD] at this ⊢
    omega
theorem shaped_rows (nss : List (List Int)) : SeqAt.shaped (rowsD nss) = true := by
  have h := depth_rows nss
  unfold SeqAt.shaped
  rw [show PyData.canLay0 (rowsD nss) = true by simp only [rowsD, PyData.canLay0]; exact lay_rows nss]
  simp [rowsD, PyData.depth]
  omega
theorem eqv_rows : ∀ a : List (List Int), PyData.eqv (rowsD a) (rowsD a) = true := by
  have key : ∀ a : List (List Int), PyData.eqvAll (a.map intsD) (a.map intsD) = true := by
    intro a
    induction a with
    | nil => simp [PyData.eqvAll]
    | cons x a ih =>
      simp only [List.map_cons, PyData.eqvAll, ih, eqv_ints, decide_true, Bool.and_self]
  intro a
  simp only [rowsD, PyData.eqv]
  exact key a
def wordsD (ws : List Str) : PyData := .list (ws.map PyData.str)
theorem shaped_words {ws : List Str} (h : ∀ x ∈ ws, PyData.strOk x = true) : SeqAt.shaped (wordsD ws) = true := by
  unfold SeqAt.shaped
  rw [show PyData.canLay0 (wordsD ws) = true by simp only [wordsD, PyData.canLay0]; exact lay_strs ws h]
  simp [wordsD, PyData.depth, depth_strs]
theorem eqv_words : ∀ a : List Str, PyData.eqv (wordsD a) (wordsD a) = true := by
  have key : ∀ a : List Str, PyData.eqvAll (a.map PyData.str) (a.map PyData.str) = true := by
    intro a
    induction a with
    | nil => simp [PyData.eqvAll]
    | cons x a ih =>
      simp only [List.map_cons, PyData.eqvAll, ih, eqv_str, beq_self_eq_true, Bool.and_self]
  intro a
  simp only [wordsD, PyData.eqv]
  exact key a
end DL
/-! law -/
namespace DL
open PySem PySem.Spec PyProof.Rows L2
/-- a def whose code object is known -/
structure FunC (K : PySem.W.Frag) (x : Str) (st : Stmt) (f : Addr) (fd : FuncData) (c : Addr) : Prop where
  ex : ∃ (oc : Value) (od : Option Addr) (kV doc pm : Value) (an : Option Addr) (ct : Value) (osl : Array (Option Value)),
    fd = PySem.W.fnOf x x (defArgs st) (defBody st) (defScope st) .none kV doc pm an (.ref c) ct ∧ K.lookup f = some ⟨oc, od, .func fd, osl⟩ ∧ PySem.W.codeIn K (.ref c) x = true
theorem FunC.ok {P : Program} {w : World} {K : PySem.W.Frag} {mg : Str → Option Value} {base : Heap} {x : Str} {st : Stmt} {f c : Addr} {fd : FuncData} {N ps : List Str} {k : Nat} {sp : Sp} (F : FunC K x st f fd c) (S : FnScope N ps (defScope st)) (len : ∀ vs H Q E, sp vs H Q E → vs.length = ps.length)
    (hbody : ∀ (A : Around) (outer : List Env) (s : Shared) (H : Hp) (vs : List V) (Q : VK) (E : XK), Room k (A.deeper (envOfC x (defScope st) s.heap.objs.size f (.ref c))) → sp vs H Q E →
      ∃ t, PSs (cxOf CX0 P w K mg base N x (defScope st) f (.ref c) A outer s H E).nox (defBody st) t ∧ t { nx := fun _ H' => Q .non H', rt := Q } (start N vs) H) : FnOk P w K mg base CX0 (k + 1) f fd ps sp := by
  obtain ⟨oc, od, kV, doc, pm, an, ct, osl, rfl, lk, hcd⟩ := F.ex
  refine fn_of lk hcd S len fun A outer s H vs Q E hr hsp => ?_
  obtain ⟨t, h, q⟩ := hbody A outer s H vs Q E hr hsp
  exact ⟨t, h.nox, q⟩
def SpLaw (K : PySem.W.Frag) (B : Addr) : Sp := fun vs H Q _ => ∃ (a : Addr) (ns : List Int), vs = [.ref a] ∧ SqL K H a (ns.map V.int) ∧ ns.length ≤ 63 ∧ H B = some (.tbl #[]) ∧ ∀ H', Q (.bl true) H'
def LInv (a L B : Addr) : Nat → L2.St → Hp → Prop := fun _ σ' H' => ∃ c2 c3 c4 c5 c6 c7 c8 c9 : Option V,
  σ' = [some (.ref a), some (.ref L), c2, c3, c4, c5, c6, c7, c8, c9, none, none, none, none, none, none, none, none, none] ∧ CupAt H' L ∧ H' B = some (.tbl #[])
theorem tbl_cup {H H' : Hp} {L B : Addr} {ps : Array Value} (c : CupAt H L) (e : ExC L H H') (h : H B = some (.tbl ps)) : H' B = some (.tbl ps) := by
  obtain ⟨a, b, hL, _⟩ := c
  exact e _ _ (fun z => by rw [z, hL] at h; cases h) h
theorem eqv_bools (b : Bool) : PyData.eqv (.bool b) (.bool b) = true := by cases b <;> simp [PyData.eqv]
theorem passed_eq {l : Int} {cs : List Cert} (hl : -1 ≤ l) (hcs : chainOk cs) : (!PyData.eqv (.list (((pairsL l cs).filter fun p => decide (p.2 < cN cs p.1 ((cs.length : Int) - 1))).map fun _ => PyData.int 1)) (.list [])) = decide (-2 ∈ leftL l cs) := by
  have e : PyData.list (((pairsL l cs).filter fun p => decide (p.2 < cN cs p.1 ((cs.length : Int) - 1))).map fun _ => PyData.int 1) = intsD (((pairsL l cs).filter fun p => decide (p.2 < cN cs p.1 ((cs.length : Int) - 1))).map fun _ => (1 : Int)) := by
    unfold intsD
    rw [List.map_map]
    rfl
  rw [e, ints_nil]
  have hp := law_passed hl (fun c hc => depth_ge (hcs.all c hc))
  by_cases h : -2 ∈ leftL l cs
  · rw [decide_eq_true h]
    obtain ⟨p, h1, h2⟩ := hp.mp h
    rw [decide_eq_false]
    · rfl
    · intro z
      have hm : p ∈ (pairsL l cs).filter fun p => decide (p.2 < cN cs p.1 ((cs.length : Int) - 1)) := List.mem_filter.mpr ⟨h1, decide_eq_true h2⟩
      rw [List.map_eq_nil_iff.mp z] at hm
      simp at hm
  · rw [decide_eq_false h, decide_eq_true]
    · rfl
    · rw [List.map_eq_nil_iff, List.filter_eq_nil_iff]
      intro p hp1 hp2
      exact h (hp.mpr ⟨p, hp1, of_decide_eq_true hp2⟩)
theorem filter_none (ns : List Int) : PyData.list ((ns.filter fun _ => false).map fun n => PyData.int n) = intsD [] := by
  rw [List.filter_eq_nil_iff.mpr (fun _ _ => Bool.false_ne_true)]
theorem leftL_len (l : Int) {cs : List Cert} (h : chainOk cs) : (leftL l cs).length ≤ 40000 := by
  have h1 := leftGo_len cs.dropLast l
  rw [List.length_dropLast] at h1
  have h2 := h.hi
  show (leftGo l cs.dropLast).length ≤ 40000
  omega
def words18 : List Str := List.replicate 5 ("number" : Str) ++ List.replicate 5 ("chain" : Str) ++ List.replicate 4 ("chain" : Str) ++ List.replicate 4 ("number" : Str)
theorem q_lam {K : PySem.W.Frag} {σ : L2.St} {H : Hp} {tl : TE} {D : Ends} {tz : TS} {i : Nat} {ds : List PyData} {j : Nat} {T : List (Addr × Str)} {CC CN : Addr} {t : XK → TE} {cls : Value} {word : Str} (h : EvD K tl σ H (.tuple ds)) (hn : ds.length ≤ 100)
    (hT : LamX.Tabs T H) (hc : (cls = .ref CC ∧ word = "chain") ∨ (cls = .ref CN ∧ word = "number"))
    (he : ∀ d x H', d ∈ ds → ExtN H H' → Da K H' x d → ∀ E : XK, (∀ H2, Ex H' H2 → E cls none H2) → ∀ Q', t E ((wipe σ [j]).set j (some x)) H' Q')
    (k : ∀ v' H', ExtN H H' → LamX.Tabs T H' → Da K H' v' (.list ((List.replicate ds.length word).map PyData.str)) → tz D (σ.set i (some v')) H') :
    tSeq (tAsg (tLc (iTup K tl) (gName j) tYes (LamX.tLam T (TTerr CC CN) t) [j]) (gName i)) tz D σ H :=
  lam_lc (Q := fun x H1 => gName i x σ H1 (tz D)) h (by omega) hT hc he fun B H1 e1 T1 hB => k (.ref B) H1 e1 T1 hB
section
variable {P : Program} {w : World} {K : PySem.W.Frag} {mg : Str → Option Value} {base : Heap} {A : Ad}
theorem ok_law {c B : Addr} (T : Txt K mg A) (F : FunC K "law" s_law A.a_law A.f_law c) (TB : LamX.TabB base mg c B) : FnOk P w K mg base CX0 11 A.a_law A.f_law ["_law_script"] (SpLaw K B) := by
  refine F.ok sc_law (fun vs H Q E h => ?_) (fun AA outer s H vs Q E hr h => ?_)
  · obtain ⟨a, ns, rfl, _⟩ := h
    rfl
  · obtain ⟨a, ns, rfl, hs, hns, hB, k⟩ := h
    have hu64 := hr.units
    refine ⟨_, (pss_cons (ps_set (i := 1) sc_law.nd rfl (Or.inl rfl) (pe_cl T.d_law_cup (ok_law_cup T) (hr.mono (by decide)) pass0 (pa_cons (pv 0) pa_nil)))
    (pss_cons (ps_for PassesOwn.never rfl (pi_range1 rfl T.b_range (pa_cons pe_int pa_nil)) (pg_name (i := 2) sc_law.nd rfl (Or.inl rfl))
    (pss_cons (ps_asg (pe_tup (pa_cons (pe_cl T.d_law_drawn_chain (ok_law_drawn_chain T) (hr.mono (by decide)) pass0 (pa_cons (pv 1) (pa_cons pe_int pa_nil))) (pa_cons (pe_cl T.d_law_some (ok_law_some T) (hr.mono (by decide)) pass0 (pa_cons (pv 1) (pa_cons (pe_lst (pa_cons (pe_un un_neg pe_int) (pa_cons (pe_un un_neg pe_int) (pa_cons pe_int (pa_cons pe_int (pa_cons pe_int (pa_cons pe_int (pa_cons pe_int pa_nil)))))))) pa_nil))) pa_nil))) (k_pgt (K := K) (n := 2) rfl rfl (pgs_cons (pg_name (i := 3) sc_law.nd rfl (Or.inr rfl)) (pgs_cons (pg_name (i := 4) sc_law.nd rfl (Or.inl rfl)) pgs_nil))))
    (pss_cons (ps_set (i := 5) sc_law.nd rfl (Or.inl rfl) (pe_cl T.d_left_row (ok_left_row T) (hr.mono (by decide)) passL (pa_cons (pv 4) (pa_cons (pv 3) pa_nil))))
    (pss_cons (ps_if (PW.pt (pw_or (pt_not (pt_val (pe_B (k_isi (K := K) rfl) T.b_isinstance (pa_cons (pv 5) (pa_cons (pe_ty (n := "list") T.b_list) pa_nil))))) (pw_or1 (pt_cmpR (k_ne (K := K) rfl hu64) (pe_lc (own := [("_law_one", 17)]) (by rfl) sc_law.nd (k_plist (K := K) rfl (pv 5)) (blkOk_by (own := [("_law_one", 17)]) (N := ["_law_script", "_law_cup_here", "_law_turn", "_law_chain", "_law_depth_here", "_law_told", "_law_pairs", "_law_end", "_law_passed", "_law_place", "_law_head", "_law_own", "_law_last", "_law_row", "_law_two", "_law_some_here", "_law_words_here", "_law_one", "_law_odd"]) (sc := defScope s_law) (by decide +kernel)) (fun _ _ _ _ _ => (pg_name (i := 17) sc_law.nd rfl (Or.inl rfl))) (fun _ _ _ _ _ => (pts_one (pt_not (pt_val (pe_cl T.d_law_whole (ok_law_whole T) (hr.mono (by decide)) pass0 (pa_cons (pv 17) pa_nil)))))) (fun _ _ _ _ _ => (pv 17))) (pe_lst pa_nil) (nomark _))))) (pss_one (ps_ret pe_bl)) pss_nil)
    (pss_cons (ps_if (pt_cmpR (k_ne (K := K) rfl hu64) (pv 5) (pe_cl T.d_law_left (ok_law_left T) (hr.mono (by decide)) pass0 (pa_cons (pv 4) (pa_cons (pv 3) pa_nil))) (nomark _)) (pss_one (ps_ret pe_bl)) pss_nil)
    (pss_cons (ps_asg (pe_tup (pa_cons (pe_cl T.d_law_all_depths (ok_law_all_depths T) (hr.mono (by decide)) pass0 (pa_cons (pv 4) (pa_cons (pv 3) pa_nil))) (pa_cons (pe_op op_sub (pe_B (k_len (K := K) rfl) T.b_len (pa_cons (pv 3) pa_nil)) pe_int) pa_nil))) (k_pgt (K := K) (n := 2) rfl rfl (pgs_cons (pg_name (i := 6) sc_law.nd rfl (Or.inl rfl)) (pgs_cons (pg_name (i := 7) sc_law.nd rfl (Or.inr rfl)) pgs_nil))))
    (pss_cons (ps_set (i := 8) sc_law.nd rfl (Or.inl rfl) (pe_cmpR (k_ne (K := K) rfl hu64) (pe_lc (own := [("_law_place", 9), ("_law_own", 11)]) (by rfl) sc_law.nd (k_plist (K := K) rfl (pv 6)) (blkOk_by (own := [("_law_place", 9), ("_law_own", 11)]) (N := ["_law_script", "_law_cup_here", "_law_turn", "_law_chain", "_law_depth_here", "_law_told", "_law_pairs", "_law_end", "_law_passed", "_law_place", "_law_head", "_law_own", "_law_last", "_law_row", "_law_two", "_law_some_here", "_law_words_here", "_law_one", "_law_odd"]) (sc := defScope s_law) (by decide +kernel)) (fun _ _ _ _ _ => (k_pgt (K := K) (n := 2) rfl rfl (pgs_cons (pg_name (i := 9) sc_law.nd rfl (Or.inl rfl)) (pgs_cons (pg_name (i := 11) sc_law.nd rfl (Or.inl rfl)) pgs_nil)))) (fun _ _ _ _ _ => (pts_one (pt_cmpR op_gt (pe_B (k_len (K := K) rfl) T.b_len (pa_cons (pe_cl T.d_law_counts (ok_law_counts T) (hr.mono (by decide)) pass0 (pa_cons (pv 3) (pa_cons (pv 9) (pa_cons (pv 7) pa_nil)))) pa_nil)) (pv 11) (nomark _)))) (fun _ _ _ _ _ => pe_int)) (pe_lst pa_nil) (nomark _)))
    (pss_cons (ps_if (pt_cmpR (k_ne (K := K) rfl hu64) (pe_cmpR (k_in (K := K) rfl) (pe_un un_neg pe_int) (pv 5) (by with_unfolding_all rfl)) (pv 8) (nomark _)) (pss_one (ps_ret pe_bl)) pss_nil)
    (pss_cons (ps_set (i := 9) sc_law.nd rfl (Or.inl rfl) (pe_op op_sub (pe_cl T.d_law_roll (ok_law_roll T) (hr.mono (by decide)) pass0 (pa_cons (pv 1) (pa_cons (pe_op (k_add (K := K) rfl) (pe_B (k_len (K := K) rfl) T.b_len (pa_cons (pv 3) pa_nil)) pe_int) pa_nil))) pe_int))
    (pss_cons (ps_if (pt_cmpR (k_ne (K := K) rfl hu64) (pe_cl T.d_counted_behind (ok_counted_behind T) (hr.mono (by decide)) passL (pa_cons (pv 3) (pa_cons (pv 9) pa_nil))) (pe_cl T.d_law_counts (ok_law_counts T) (hr.mono (by decide)) pass0 (pa_cons (pv 3) (pa_cons (pv 9) (pa_cons (pe_op op_sub (pe_B (k_len (K := K) rfl) T.b_len (pa_cons (pv 3) pa_nil)) pe_int) pa_nil)))) (nomark _)) (pss_one (ps_ret pe_bl)) pss_nil)
    (pss_one (ps_if (pt_not (pt_val (pe_B (k_isi (K := K) rfl) T.b_isinstance (pa_cons (pe_cl T.d_counted_behind (ok_counted_behind T) (hr.mono (by decide)) passL (pa_cons (pv 3) (pa_cons (pv 9) pa_nil))) (pa_cons (pe_ty (n := "list") T.b_list) pa_nil))))) (pss_one (ps_ret pe_bl)) pss_nil))))))))))))
    (pss_cons (ps_set (i := 10) sc_law.nd rfl (Or.inl rfl) (pe_tup (pa_cons pe_int (pa_cons (pe_tup (pa_cons pe_str pa_nil)) (pa_cons (pe_tup (pa_cons pe_str (pa_cons pe_str pa_nil))) (pa_cons pe_int (pa_cons pe_int (pa_cons pe_int (pa_cons pe_int (pa_cons (pe_tup (pa_cons (pe_tup (pa_cons pe_str (pa_cons (pe_tup (pa_cons pe_bl (pa_cons pe_int pa_nil))) pa_nil))) (pa_cons (pe_tup (pa_cons pe_str (pa_cons (pe_tup (pa_cons pe_str (pa_cons pe_str pa_nil))) pa_nil))) pa_nil))) (pa_cons pe_int pa_nil)))))))))))
    (pss_cons (ps_set (i := 11) sc_law.nd rfl (Or.inr rfl) (pe_tup (pa_cons pe_int (pa_cons (pe_tup (pa_cons pe_str (pa_cons pe_str pa_nil))) (pa_cons (pe_tup (pa_cons pe_str (pa_cons pe_str pa_nil))) (pa_cons pe_int (pa_cons pe_int (pa_cons pe_int (pa_cons pe_int (pa_cons (pe_tup (pa_cons (pe_tup (pa_cons pe_str (pa_cons (pe_tup (pa_cons pe_bl (pa_cons (pe_un un_neg pe_int) pa_nil))) pa_nil))) pa_nil)) (pa_cons pe_int pa_nil)))))))))))
    (pss_cons (ps_set (i := 12) sc_law.nd rfl (Or.inl rfl) (pe_tup (pa_cons pe_int (pa_cons (pe_tup (pa_cons pe_str (pa_cons pe_str pa_nil))) (pa_cons (pe_tup (pa_cons pe_str (pa_cons pe_str pa_nil))) (pa_cons pe_int (pa_cons pe_int (pa_cons pe_int (pa_cons pe_int (pa_cons (pe_tup (pa_cons (pe_tup (pa_cons pe_str (pa_cons (pe_tup (pa_cons pe_str pa_nil)) pa_nil))) pa_nil)) (pa_cons pe_int pa_nil)))))))))))
    (pss_cons (ps_set (i := 13) sc_law.nd rfl (Or.inl rfl) (pe_tup (pa_cons (pv 10) (pa_cons (pv 11) (pa_cons (pv 12) pa_nil)))))
    (pss_cons (ps_if (pt_cmpR (k_ne (K := K) rfl hu64) (pe_lst (pa_cons (pe_cl T.d_counted_behind (ok_counted_behind T) (hr.mono (by decide)) passL (pa_cons (pv 13) (pa_cons (pe_un un_neg pe_int) pa_nil))) (pa_cons (pe_cl T.d_left_row (ok_left_row T) (hr.mono (by decide)) passL (pa_cons (pe_un un_neg pe_int) (pa_cons (pv 13) pa_nil))) (pa_cons (pe_cl T.d_left_row (ok_left_row T) (hr.mono (by decide)) passL (pa_cons pe_int (pa_cons (pv 13) pa_nil))) (pa_cons (pe_cl T.d_left_row (ok_left_row T) (hr.mono (by decide)) passL (pa_cons pe_int (pa_cons (pe_tup (pa_cons (pv 12) pa_nil)) pa_nil))) pa_nil))))) (pe_lst (pa_cons (pe_lst (pa_cons pe_int pa_nil)) (pa_cons (pe_lst (pa_cons pe_int (pa_cons pe_int pa_nil))) (pa_cons (pe_lst (pa_cons (pe_un un_neg pe_int) pa_nil)) (pa_cons (pe_lst pa_nil) pa_nil))))) (nomark _)) (pss_one (ps_ret pe_bl)) pss_nil)
    (pss_cons (ps_set (i := 14) sc_law.nd rfl (Or.inl rfl) (pe_op (k_add (K := K) rfl) (pe_op (k_add (K := K) rfl) (pe_slice (k_sl (K := K) rfl) (pv 10) po_none (po_some pe_int)) (pe_tup (pa_cons (pe_tup (pa_cons (pe_tup (pa_cons pe_str (pa_cons (pe_tup (pa_cons pe_bl (pa_cons pe_int pa_nil))) pa_nil))) pa_nil)) pa_nil))) (pe_slice (k_sl (K := K) rfl) (pv 10) (po_some pe_int) po_none)))
    (pss_cons (ps_if (PW.pt (pw_or (pt_cmpR (k_ne (K := K) rfl hu64) (pe_cl T.d_left_row (ok_left_row T) (hr.mono (by decide)) passL (pa_cons pe_int (pa_cons (pe_op (k_mul (K := K) rfl) (pe_tup (pa_cons (pv 14) pa_nil)) pe_int) pa_nil))) (pe_lst (pa_cons pe_int (pa_cons pe_int (pa_cons pe_int (pa_cons (pe_un un_neg pe_int) pa_nil))))) (nomark _)) (pw_or1 (pt_cmpR (k_ne (K := K) rfl hu64) (pe_cl T.d_left_row (ok_left_row T) (hr.mono (by decide)) passL (pa_cons pe_int (pa_cons (pe_op (k_mul (K := K) rfl) (pe_tup (pa_cons (pv 14) pa_nil)) pe_int) pa_nil))) (pe_lst (pa_cons pe_int (pa_cons (pe_un un_neg pe_int) pa_nil))) (nomark _))))) (pss_one (ps_ret pe_bl)) pss_nil)
    (pss_cons (ps_if (PW.pt (pw_or (pt_cmpR (k_ne (K := K) rfl hu64) (pe_cl T.d_left_row (ok_left_row T) (hr.mono (by decide)) passL (pa_cons (pe_un un_neg pe_int) (pa_cons (pe_op (k_mul (K := K) rfl) (pe_tup (pa_cons (pv 11) pa_nil)) pe_int) pa_nil))) (pe_op (k_mul (K := K) rfl) (pe_lst (pa_cons (pe_un un_neg pe_int) pa_nil)) pe_int) (nomark _)) (pw_or1 (pt_cmpR (k_ne (K := K) rfl hu64) (pe_cl T.d_left_row (ok_left_row T) (hr.mono (by decide)) passL (pa_cons pe_int (pa_cons (pe_tup (pa_cons (pv 14) (pa_cons (pv 11) (pa_cons (pv 14) (pa_cons (pv 12) pa_nil))))) pa_nil))) (pe_lst (pa_cons pe_int (pa_cons pe_int (pa_cons pe_int pa_nil)))) (nomark _))))) (pss_one (ps_ret pe_bl)) pss_nil)
    (pss_cons (ps_set (i := 15) sc_law.nd rfl (Or.inl rfl) (pe_tup (pa_cons pe_non (pa_cons (pe_un un_neg pe_int) (pa_cons pe_int (pa_cons pe_bl (pa_cons pe_str pa_nil)))))))
    (pss_cons (ps_setLc (i := 16) (own := [("_law_odd", 18)]) (by rfl) sc_law.nd rfl rfl (sw_true rfl rfl rfl (by decide +kernel)) (k_ptup (K := K) rfl (pv 15)) (blkOk_by (own := [("_law_odd", 18)]) (N := ["_law_script", "_law_cup_here", "_law_turn", "_law_chain", "_law_depth_here", "_law_told", "_law_pairs", "_law_end", "_law_passed", "_law_place", "_law_head", "_law_own", "_law_last", "_law_row", "_law_two", "_law_some_here", "_law_words_here", "_law_one", "_law_odd"]) (sc := defScope s_law) (by decide +kernel)) (fun _ _ _ _ _ => (pg_name (i := 18) sc_law.nd rfl (Or.inr rfl))) (fun _ _ _ _ _ => pts_nil) (fun _ _ _ _ _ => (pe_err (q := ("law" : Str) ++ ".<locals>.") T (by rfl) TB rfl rfl hr (LamX.lamS_by (by with_unfolding_all rfl)) rfl (fun _ _ _ _ _ => rfl) (fun A2 outer2 s2 H2 E2 f2 c2 hr2 => (pe_cl T.d_left_row (ok_left_row T) hr2 (passes_call (takes_of rfl rfl rfl rfl) (fun _ _ _ _ h => h)) (pa_cons (pv 18) (pa_cons pe_non pa_nil)))))))
    (pss_cons (ps_set (i := 16) sc_law.nd rfl (Or.inl rfl) (pe_op (k_add (K := K) rfl) (pv 16) (pe_lc (own := [("_law_odd", 18)]) (by rfl) sc_law.nd (k_ptup (K := K) rfl (pe_tup (pa_cons pe_non (pa_cons (pe_tup pa_nil) (pa_cons (pe_lst (pa_cons (pv 11) pa_nil)) (pa_cons (pv 11) (pa_cons (pe_op (k_mul (K := K) rfl) (pe_tup (pa_cons (pv 11) pa_nil)) pe_int) pa_nil))))))) (blkOk_by (own := [("_law_odd", 18)]) (N := ["_law_script", "_law_cup_here", "_law_turn", "_law_chain", "_law_depth_here", "_law_told", "_law_pairs", "_law_end", "_law_passed", "_law_place", "_law_head", "_law_own", "_law_last", "_law_row", "_law_two", "_law_some_here", "_law_words_here", "_law_one", "_law_odd"]) (sc := defScope s_law) (by decide +kernel)) (fun _ _ _ _ _ => (pg_name (i := 18) sc_law.nd rfl (Or.inr rfl))) (fun _ _ _ _ _ => pts_nil) (fun _ _ _ _ _ => (pe_err (q := ("law" : Str) ++ ".<locals>.") T (by rfl) TB rfl rfl hr (LamX.lamS_by (by with_unfolding_all rfl)) rfl (fun _ _ _ _ _ => rfl) (fun A2 outer2 s2 H2 E2 f2 c2 hr2 => (pe_cl T.d_left_row (ok_left_row T) hr2 (passes_call (takes_of rfl rfl rfl rfl) (fun _ _ _ _ h => h)) (pa_cons pe_int (pa_cons (pv 18) pa_nil)))))))))
    (pss_cons (ps_set (i := 16) sc_law.nd rfl (Or.inl rfl) (pe_op (k_add (K := K) rfl) (pv 16) (pe_lc (own := [("_law_odd", 18)]) (by rfl) sc_law.nd (k_ptup (K := K) rfl (pe_tup (pa_cons pe_non (pa_cons (pe_tup pa_nil) (pa_cons (pe_lst (pa_cons (pv 11) pa_nil)) (pa_cons (pe_tup (pa_cons (pv 11) (pa_cons (pe_slice (k_sl (K := K) rfl) (pv 11) po_none (po_some pe_int)) pa_nil))) pa_nil)))))) (blkOk_by (own := [("_law_odd", 18)]) (N := ["_law_script", "_law_cup_here", "_law_turn", "_law_chain", "_law_depth_here", "_law_told", "_law_pairs", "_law_end", "_law_passed", "_law_place", "_law_head", "_law_own", "_law_last", "_law_row", "_law_two", "_law_some_here", "_law_words_here", "_law_one", "_law_odd"]) (sc := defScope s_law) (by decide +kernel)) (fun _ _ _ _ _ => (pg_name (i := 18) sc_law.nd rfl (Or.inr rfl))) (fun _ _ _ _ _ => pts_nil) (fun _ _ _ _ _ => (pe_err (q := ("law" : Str) ++ ".<locals>.") T (by rfl) TB rfl rfl hr (LamX.lamS_by (by with_unfolding_all rfl)) rfl (fun _ _ _ _ _ => rfl) (fun A2 outer2 s2 H2 E2 f2 c2 hr2 => (pe_cl T.d_counted_behind (ok_counted_behind T) hr2 (passes_call (takes_of rfl rfl rfl rfl) (fun _ _ _ _ h => h)) (pa_cons (pv 18) (pa_cons pe_non pa_nil)))))))))
    (pss_cons (ps_set (i := 16) sc_law.nd rfl (Or.inl rfl) (pe_op (k_add (K := K) rfl) (pv 16) (pe_lc (own := [("_law_odd", 18)]) (by rfl) sc_law.nd (k_ptup (K := K) rfl (pe_tup (pa_cons pe_non (pa_cons (pe_un un_neg pe_int) (pa_cons pe_int (pa_cons pe_bl pa_nil)))))) (blkOk_by (own := [("_law_odd", 18)]) (N := ["_law_script", "_law_cup_here", "_law_turn", "_law_chain", "_law_depth_here", "_law_told", "_law_pairs", "_law_end", "_law_passed", "_law_place", "_law_head", "_law_own", "_law_last", "_law_row", "_law_two", "_law_some_here", "_law_words_here", "_law_one", "_law_odd"]) (sc := defScope s_law) (by decide +kernel)) (fun _ _ _ _ _ => (pg_name (i := 18) sc_law.nd rfl (Or.inr rfl))) (fun _ _ _ _ _ => pts_nil) (fun _ _ _ _ _ => (pe_err (q := ("law" : Str) ++ ".<locals>.") T (by rfl) TB rfl rfl hr (LamX.lamS_by (by with_unfolding_all rfl)) rfl (fun _ _ _ _ _ => rfl) (fun A2 outer2 s2 H2 E2 f2 c2 hr2 => (pe_cl T.d_counted_behind (ok_counted_behind T) hr2 (passes_call (takes_of rfl rfl rfl rfl) (fun _ _ _ _ h => h)) (pa_cons (pe_tup (pa_cons (pv 11) (pa_cons (pv 11) pa_nil))) (pa_cons (pv 18) pa_nil)))))))))
    (pss_one (ps_ret (pe_cmpR (k_eq (K := K) rfl hu64) (pv 16) (pe_op (k_add (K := K) rfl) (pe_op (k_add (K := K) rfl) (pe_op (k_mul (K := K) rfl) (pe_lst (pa_cons pe_str pa_nil)) pe_int) (pe_op (k_mul (K := K) rfl) (pe_lst (pa_cons pe_str pa_nil)) pe_int)) (pe_op (k_mul (K := K) rfl) (pe_lst (pa_cons pe_str pa_nil)) pe_int)) (nomark _))))))))))))))))))), ?_⟩
    refine ⟨.ref a, rfl, a, ns, rfl, hs, hns, fun L H1 e1 c1 => ?_⟩
    have hB1 : H1 B = some (.tbl #[]) := e1 _ _ hB
    refine q_forC (by decide) (by decide) (LInv a L B) ⟨none, none, none, none, none, none, none, none, rfl, c1, hB1⟩ (fun i σ' Hx _ hp => ?_) (fun σ' Hx hp => ?_)
    · obtain ⟨c2, c3, c4, c5, c6, c7, c8, c9, rfl, cc, hBx⟩ := hp
      refine qc_asg2 (c_tup (ca_cons (c_chain rfl (by decide) (by decide)) (ca_cons (c_some (ds := ([-1, -1, 0, 1, 2, 3, 8] : List Int).map PyData.int) rfl (fun H1 _ _ => (d_lst (da_cons (d_neg d_int) (da_cons (d_neg d_int) (da_cons d_int (da_cons d_int (da_cons d_int (da_cons d_int (da_cons d_int da_nil))))))) (show 7 ≤ 1000 by decide))) (by decide +kernel) (by decide) (by decide) (by intro _ _ z; simp at z)) ca_nil)) (show 2 ≤ 1000 by decide)) cc fun v3 v4 d3 d4 H2 x2 cc2 h3 h4 s3 s4 => ?_
      obtain ⟨cs, rfl, hcs, hcl6⟩ := s3
      obtain ⟨l, rfl, l1, l2⟩ := is_ints (lo := -1) (hi := 9) (by decide +kernel) _ s4
      have hB2 := tbl_cup cc x2 hBx
      have hlo := hcs.lo
      have hcl := chain_len cs
      have hdep : ∀ c ∈ cs, -1 ≤ c.depth := fun c hc => depth_ge (hcs.all c hc)
      have hpl := pairsL_len l cs
      -- told
      refine q_asg (d_callX (da_cons (d_var rfl h4) (da_cons (d_var rfl h3) da_nil)) ⟨l, cs, by omega, by omega, hcs, rfl, rfl⟩) fun v5 H3 e3 h5 => ?_
      have hll := leftL_len l hcs
      refine q_when (b := false) (t_is (Evl.et_or (Evl.et_not (t_B (d_isi (d_var rfl h5) kit_ll))) fun _ => t_test (d_op (d_lcI (fun _ => false) (fun n => .int n) (i_ints (d_var rfl h5)) hll (fun n H' e hn => t_is (Evl.et_not (t_B (d_call (da_cons (d_var rfl (.int n)) da_nil) ⟨n, rfl, rfl⟩))) rfl) (fun n H' e hn hb => nomatch hb) (fun _ _ hb => nomatch hb)) (d_lst da_nil (by decide)) (rd_ne ?_ shaped_nil))) ?_) (fun hb => nomatch hb) (fun _ H4 e4 => ?_)
      · rw [filter_none]
        exact shaped_nil
      · rw [filter_none]
        exact congrArg (fun b => (!true || !b)) (ints_nil (ns := []))
      -- beside the law's own
      refine q_when (b := false) (t_is (t_test (d_op (d_var rfl (h5.mono e4)) (d_call (da_cons (d_var rfl (h4.mono (e3.trans e4))) (da_cons (d_var rfl (h3.mono (e3.trans e4))) da_nil)) ⟨l, cs, hcs, rfl, rfl⟩) (rd_ne (shaped_ints _) (shaped_ints _)))) ?_) (fun hb => nomatch hb) (fun _ H5 e5 => ?_)
      · rw [law_left_eq l1 hdep, eqv_ints, decide_eq_true rfl]
        rfl
      have e35 := (e3.trans e4).trans e5
      refine q_asg2 (d_tup (da_cons (d_call (da_cons (d_var rfl (h4.mono e35)) (da_cons (d_var rfl (h3.mono e35)) da_nil)) ⟨l, cs, hcs, rfl, rfl⟩) (da_cons (d_op (d_lenT (d_var rfl (h3.mono e35))) d_int rd_sub) da_nil)) (show 2 ≤ 1000 by decide)) fun v6 v7 H6 e6 h6 h7 => ?_
      rw [hcl] at h7
      have e36 := e35.trans e6
      refine q_asg (d := .bool (decide (-2 ∈ leftL l cs))) (d_is (d_op (d_lcPr (ps := pairsL l cs) (j1 := 9) (j2 := 11) (by decide) (fun p => decide (p.2 < cN cs p.1 ((cs.length : Int) - 1))) (fun _ => .int 1) (i_prs (d_var rfl h6)) (by omega) (fun p H' e hp => ?_) (fun p H' e hp hb => d_int) (fun _ _ _ => rfl)) (d_lst da_nil (by decide)) (rd_ne ?_ shaped_nil)) (congrArg PyData.bool (passed_eq l1 hcs))) fun v8 H7 e7 h8 => ?_
      · obtain ⟨p0, hpp⟩ := mem_pairs.mp hp
        have hp1 : -1 ≤ p.1 ∧ p.1 ≤ 8 := by
          rcases hpp with rfl | ⟨i, hi, rfl⟩
          · exact ⟨show (-1 : Int) ≤ -1 by decide, show (-1 : Int) ≤ 8 by decide⟩
          · exact ⟨by show (-1 : Int) ≤ (i : Int); omega, by show (i : Int) ≤ 8; omega⟩
        refine t_is (t_test (d_op (d_lenL (d_call (da_cons (d_var rfl ((h3.mono e36).mono e)) (da_cons (d_var rfl (.int p.1)) (da_cons (d_var rfl (h7.mono e)) da_nil))) ⟨cs, p.1, (cs.length : Int) - 1, hcs, hp1.1, hp1.2, by omega, by omega, rfl, rfl⟩)) (d_var rfl (.int p.2)) rd_gt)) ?_
        unfold cN
        rw [List.length_map, Int.min_self]
      · have e : PyData.list (((pairsL l cs).filter fun p => decide (p.2 < cN cs p.1 ((cs.length : Int) - 1))).map fun _ => PyData.int 1) = intsD (((pairsL l cs).filter fun p => decide (p.2 < cN cs p.1 ((cs.length : Int) - 1))).map fun _ => (1 : Int)) := by
          unfold intsD
          rw [List.map_map]
          rfl
        rw [e]
        exact shaped_ints _
      have e37 := e36.trans e7
      refine q_when (b := false) (t_is (t_test (d_op (d_op (d_neg d_int) (d_var rfl (h5.mono (((e4.trans e5).trans e6).trans e7))) rd_inL) (d_var rfl h8) (rd_ne (shaped_bool _) (shaped_bool _)))) ?_) (fun hb => nomatch hb) (fun _ H8 e8 => ?_)
      · exact congrArg Bool.not (eqv_bools _)
      have e38 := e37.trans e8
      have cc8 := cc2.mono e38
      have h38 := h3.mono e38
      -- a place
      refine qc_asg (c_op (S := IsInt (-1) (cs.length : Int)) (c_rollE (m := (cs.length : Int) + 1) rfl (fun Hy xy cy => d_is (d_op (d_lenT (d_var rfl (h38.cup (flat_chainD cs) cc8 xy))) d_int rd_add) (by rw [hcl])) (by omega) (by omega)) c_int (fun d e hd he => ?_)) cc8 fun v9 d9 H9 x9 cc9 h9 _ s9 => ?_
      · obtain ⟨r, rfl, r0, r1⟩ := hd
        subst he
        exact ⟨_, rd_sub, rfl, r - 1, rfl, by omega, by omega⟩
      obtain ⟨p, rfl, p1, p2⟩ := s9
      have h39 := h38.cup (flat_chainD cs) cc8 x9
      have hB9 := tbl_cup cc8 x9 (e38 _ _ hB2)
      refine q_when (b := false) (t_is (t_test (d_op (d_callX (da_cons (d_var rfl h39) (da_cons (d_var rfl h9) da_nil)) ⟨cs, p, hcs, p1, by omega, rfl, rfl⟩) (d_call (da_cons (d_var rfl h39) (da_cons (d_var rfl h9) (da_cons (d_op (d_lenT (d_var rfl h39)) d_int rd_sub) da_nil))) ⟨cs, p, (cs.length : Int) - 1, hcs, p1, by omega, by omega, by omega, by rw [hcl], rfl⟩) (rd_ne (shaped_ints _) (shaped_ints _)))) ?_) (fun hb => nomatch hb) (fun _ H10 e10 => ?_)
      · rw [Int.min_self, eqv_ints, decide_eq_true rfl]
        rfl
      refine s_if (b := false) (t_is (Evl.et_not (t_B (d_isi (d_callX (da_cons (d_var rfl (h39.mono e10)) (da_cons (d_var rfl (h9.mono e10)) da_nil)) ⟨cs, p, hcs, p1, by omega, rfl, rfl⟩) kit_ll))) rfl) (fun hb => nomatch hb) (fun _ H11 e11 => ?_)
      exact ⟨_, _, _, _, _, _, _, _, rfl, cc9.mono (e10.trans e11), (e10.trans e11) _ _ hB9⟩
    · obtain ⟨c2, c3, c4, c5, c6, c7, c8, c9, rfl, cc, hBx⟩ := hp
      -- the law's own chains
      refine q_asg (K := K) (d := certD cHead) (d_tup (da_cons d_int (da_cons (d_tup (da_cons d_str da_nil) (show 1 ≤ 1000 by decide)) (da_cons (d_tup (da_cons d_str (da_cons d_str da_nil)) (show 2 ≤ 1000 by decide)) (da_cons d_int (da_cons d_int (da_cons d_int (da_cons d_int (da_cons (d_tup (da_cons (d_tup (da_cons d_str (da_cons (d_tup (da_cons d_bl (da_cons d_int da_nil)) (show 2 ≤ 1000 by decide)) da_nil)) (show 2 ≤ 1000 by decide)) (da_cons (d_tup (da_cons d_str (da_cons (d_tup (da_cons d_str (da_cons d_str da_nil)) (show 2 ≤ 1000 by decide)) da_nil)) (show 2 ≤ 1000 by decide)) da_nil)) (show 2 ≤ 1000 by decide)) (da_cons d_int da_nil))))))))) (show 9 ≤ 1000 by decide)) fun v10 H1 e1 h10 => ?_
      refine q_asg (K := K) (d := certD cOwn) (d_tup (da_cons d_int (da_cons (d_tup (da_cons d_str (da_cons d_str da_nil)) (show 2 ≤ 1000 by decide)) (da_cons (d_tup (da_cons d_str (da_cons d_str da_nil)) (show 2 ≤ 1000 by decide)) (da_cons d_int (da_cons d_int (da_cons d_int (da_cons d_int (da_cons (d_tup (da_cons (d_tup (da_cons d_str (da_cons (d_tup (da_cons d_bl (da_cons (d_neg d_int) da_nil)) (show 2 ≤ 1000 by decide)) da_nil)) (show 2 ≤ 1000 by decide)) da_nil) (show 1 ≤ 1000 by decide)) (da_cons d_int da_nil))))))))) (show 9 ≤ 1000 by decide)) fun v11 H2 e2 h11 => ?_
      refine q_asg (K := K) (d := certD cLast) (d_tup (da_cons d_int (da_cons (d_tup (da_cons d_str (da_cons d_str da_nil)) (show 2 ≤ 1000 by decide)) (da_cons (d_tup (da_cons d_str (da_cons d_str da_nil)) (show 2 ≤ 1000 by decide)) (da_cons d_int (da_cons d_int (da_cons d_int (da_cons d_int (da_cons (d_tup (da_cons (d_tup (da_cons d_str (da_cons (d_tup (da_cons d_str da_nil) (show 1 ≤ 1000 by decide)) da_nil)) (show 2 ≤ 1000 by decide)) da_nil) (show 1 ≤ 1000 by decide)) (da_cons d_int da_nil))))))))) (show 9 ≤ 1000 by decide)) fun v12 H3 e3 h12 => ?_
      have h10 := h10.mono (e2.trans e3)
      have h11 := h11.mono e3
      have okRow : chainOk [cHead, cOwn, cLast] := ours_chain (by decide) (by decide) (by intro c hc; simp only [List.mem_cons, List.not_mem_nil, or_false] at hc; unfold isOurs; rcases hc with rfl | rfl | rfl <;> simp)
      have okL : chainOk [cLast] := ours_chain (by decide) (by decide) (by intro c hc; simp only [List.mem_cons, List.not_mem_nil, or_false] at hc; unfold isOurs; rcases hc with rfl <;> simp)
      refine q_asg (d := chainD [cHead, cOwn, cLast]) (d_tup (da_cons (d_var rfl h10) (da_cons (d_var rfl h11) (da_cons (d_var rfl h12) da_nil))) (show 3 ≤ 1000 by decide)) fun v13 H4 e4 h13 => ?_
      refine q_when (b := false) (t_is (t_test (d_op (d := rowsD [[0], [0, 0], [-2], []]) (e := rowsD [[0], [0, 0], [-2], []]) (d_is (d_lst (da_cons (d_callX (da_cons (d_var rfl h13) (da_cons (d_neg d_int) da_nil)) ⟨[cHead, cOwn, cLast], -1, okRow, by decide, by decide, rfl, rfl⟩)
        (da_cons (d_callX (da_cons (d_neg d_int) (da_cons (d_var rfl h13) da_nil)) ⟨-1, [cHead, cOwn, cLast], by decide, by decide, okRow, rfl, rfl⟩)
        (da_cons (d_callX (da_cons d_int (da_cons (d_var rfl h13) da_nil)) ⟨0, [cHead, cOwn, cLast], by decide, by decide, okRow, rfl, rfl⟩)
        (da_cons (d_callX (da_cons d_int (da_cons (d_tup (da_cons (d_var rfl (h12.mono e4)) da_nil) (show 1 ≤ 1000 by decide)) da_nil)) ⟨0, [cLast], by decide, by decide, okL, rfl, rfl⟩) da_nil)))) (show 4 ≤ 1000 by decide)) ?_) (d_lst (da_cons (d_lst (da_cons d_int da_nil) (show 1 ≤ 1000 by decide)) (da_cons (d_lst (da_cons d_int (da_cons d_int da_nil)) (show 2 ≤ 1000 by decide)) (da_cons (d_lst (da_cons (d_neg d_int) da_nil) (show 1 ≤ 1000 by decide)) (da_cons (d_lst da_nil (show 0 ≤ 1000 by decide)) da_nil)))) (show 4 ≤ 1000 by decide)) (rd_ne (shaped_rows _) (shaped_rows _)))) ?_) (fun hb => nomatch hb) (fun _ H5 e5 => ?_)
      · rw [show ((List.length [cHead, cOwn, cLast] : Nat) : Int) - 1 = 2 from rfl, v_row1, v_row2, v_row3, v_row4]
        rfl
      · exact congrArg Bool.not (eqv_rows _)
      have e45 := e4.trans e5
      refine q_asg (K := K) (d := certD cTwo) (d_is (d_op (d_op (d_cut (d_var rfl (h10.mono e45)) o_none (o_some (K := K) d_int)) (d_tup (da_cons (d_tup (da_cons (d_tup (da_cons d_str (da_cons (d_tup (da_cons d_bl (da_cons d_int da_nil)) (show 2 ≤ 1000 by decide)) da_nil)) (show 2 ≤ 1000 by decide)) da_nil) (show 1 ≤ 1000 by decide)) da_nil) (show 1 ≤ 1000 by decide)) (rd_catT (by decide))) (d_cut (d_var rfl (h10.mono e45)) (o_some (K := K) d_int) o_none) (rd_catT (by decide))) rfl) fun v14 H6 e6 h14 => ?_
      have e46 := e45.trans e6
      have ok1 : chainOk [cTwo, cTwo, cTwo, cTwo, cTwo] := ours_chain (by decide) (by decide) (by intro c hc; simp only [List.mem_cons, List.not_mem_nil, or_false, or_self] at hc; exact .inr (.inr (.inr hc)))
      have ok2 : chainOk [cTwo, cTwo, cTwo] := ours_chain (by decide) (by decide) (by intro c hc; simp only [List.mem_cons, List.not_mem_nil, or_false, or_self] at hc; exact .inr (.inr (.inr hc)))
      have ok3 : chainOk [cOwn, cOwn, cOwn, cOwn, cOwn, cOwn, cOwn, cOwn] := ours_chain (by decide) (by decide) (by intro c hc; simp only [List.mem_cons, List.not_mem_nil, or_false, or_self] at hc; exact .inr (.inl hc))
      have ok4 : chainOk [cTwo, cOwn, cTwo, cLast] := ours_chain (by decide) (by decide) (by intro c hc; simp only [List.mem_cons, List.not_mem_nil, or_false] at hc; unfold isOurs; rcases hc with rfl | rfl | rfl | rfl <;> simp)
      have okO : chainOk [cOwn, cOwn] := ours_chain (by decide) (by decide) (by intro c hc; simp only [List.mem_cons, List.not_mem_nil, or_false, or_self] at hc; exact .inr (.inl hc))
      refine q_when (b := false) (t_is (Evl.et_or (t_test (d_op (d_callX (da_cons d_int (da_cons (d_op (d_tup (da_cons (d_var rfl h14) da_nil) (show 1 ≤ 1000 by decide)) d_int (rd_repT (k := 5) (by decide) (by decide) (by intro z; cases z) (show 1 ≤ 1000 by decide))) da_nil)) ⟨8, [cTwo, cTwo, cTwo, cTwo, cTwo], by decide, by decide, ok1, rfl, rfl⟩) (d_lst (da_cons d_int (da_cons d_int (da_cons d_int (da_cons (d_neg d_int) da_nil)))) (show 4 ≤ 1000 by decide)) (rd_ne (shaped_ints _) (shaped_ints [2, 1, 0, -2]))))
        fun _ => t_test (d_op (d_callX (da_cons d_int (da_cons (d_op (d_tup (da_cons (d_var rfl h14) da_nil) (show 1 ≤ 1000 by decide)) d_int (rd_repT (k := 3) (by decide) (by decide) (by intro z; cases z) (show 1 ≤ 1000 by decide))) da_nil)) ⟨1, [cTwo, cTwo, cTwo], by decide, by decide, ok2, rfl, rfl⟩) (d_lst (da_cons d_int (da_cons (d_neg d_int) da_nil)) (show 2 ≤ 1000 by decide)) (rd_ne (shaped_ints _) (shaped_ints [0, -2])))) ?_) (fun hb => nomatch hb) (fun _ H7 e7 => ?_)
      · rw [v_two5, v_two3]
        show (!PyData.eqv (intsD [2, 1, 0, -2]) (intsD [2, 1, 0, -2]) || !PyData.eqv (intsD [0, -2]) (intsD [0, -2])) = false
        rw [eqv_ints, eqv_ints]
        rfl
      have e47 := e46.trans e7
      refine q_when (b := false) (t_is (Evl.et_or (t_test (d_op (d_callX (da_cons (d_neg d_int) (da_cons (d_op (d_tup (da_cons (d_var rfl (h11.mono e47)) da_nil) (show 1 ≤ 1000 by decide)) d_int (rd_repT (k := 8) (by decide) (by decide) (by intro z; cases z) (show 1 ≤ 1000 by decide))) da_nil)) ⟨-1, [cOwn, cOwn, cOwn, cOwn, cOwn, cOwn, cOwn, cOwn], by decide, by decide, ok3, rfl, rfl⟩) (d_op (d_lst (da_cons (d_neg d_int) da_nil) (show 1 ≤ 1000 by decide)) d_int (rd_rep (k := 7) (by decide) (show 1 ≤ 1000 by decide))) (rd_ne (shaped_ints _) (shaped_ints [-1, -1, -1, -1, -1, -1, -1]))))
        fun _ => t_test (d_op (d_callX (da_cons d_int (da_cons (d_tup (da_cons (d_var rfl (h14.mono e7)) (da_cons (d_var rfl (h11.mono e47)) (da_cons (d_var rfl (h14.mono e7)) (da_cons (d_var rfl (h12.mono e47)) da_nil)))) (show 4 ≤ 1000 by decide)) da_nil)) ⟨3, [cTwo, cOwn, cTwo, cLast], by decide, by decide, ok4, rfl, rfl⟩) (d_lst (da_cons d_int (da_cons d_int (da_cons d_int da_nil))) (show 3 ≤ 1000 by decide)) (rd_ne (shaped_ints _) (shaped_ints [2, 2, 1])))) ?_) (fun hb => nomatch hb) (fun _ H8 e8 => ?_)
      · rw [v_own8, v_mix]
        show (!PyData.eqv (intsD [-1, -1, -1, -1, -1, -1, -1]) (intsD [-1, -1, -1, -1, -1, -1, -1]) || !PyData.eqv (intsD [2, 2, 1]) (intsD [2, 2, 1])) = false
        rw [eqv_ints, eqv_ints]
        rfl
      have e48 := e47.trans e8
      have h11 := h11.mono e48
      have hB8 : H8 B = some (.tbl #[]) := e48 _ _ (e3 _ _ (e2 _ _ (e1 _ _ hBx)))
      -- what is refused
      refine q_asg (K := K) (d_tup (da_cons d_non (da_cons (d_neg d_int) (da_cons d_int (da_cons d_bl (da_cons d_str da_nil))))) (show 5 ≤ 1000 by decide)) fun v15 H9 e9 h15 => ?_
      have hT : LamX.Tabs [(B, (("law" : Str) ++ ".<locals>.") ++ "<lambda>")] H9 := fun p hp => by
        rw [List.mem_singleton.mp hp]
        exact LamX.TabS.nil (e9 _ _ hB8)
      have h11 := h11.mono e9
      refine q_lam (cls := .ref A.a_InvalidNumber) (word := "number") (d_var rfl h15) (show 5 ≤ 100 by decide) hT (.inr ⟨rfl, rfl⟩) ?_ fun D1 HA eA TA hA => ?_
      · intro d x H' hd e hx E hE Q'
        refine x_call (da_cons (d_var rfl hx) (da_cons d_non da_nil)) (.inl ⟨d, .none, ?_, rfl, rfl⟩) hE Q'
        simp only [List.mem_cons, List.not_mem_nil, or_false] at hd
        rcases hd with rfl | rfl | rfl | rfl | rfl <;> rfl
      have h11 := h11.monoN eA
      have bad9 : badChain (.tuple (List.replicate 9 [certD cOwn]).flatten) := .inl rfl
      refine q_lamAdd (i := 16) (ws := List.replicate 5 "number") (cls := .ref A.a_InvalidChain) (word := "chain") rfl hA (d_tup (da_cons d_non (da_cons (d_tup da_nil (show 0 ≤ 1000 by decide)) (da_cons (d_lst (da_cons (d_var rfl h11) da_nil) (show 1 ≤ 1000 by decide)) (da_cons (d_var rfl h11) (da_cons (d_op (d_tup (da_cons (d_var rfl h11) da_nil) (show 1 ≤ 1000 by decide)) d_int (rd_repT (k := 9) (by decide) (by decide) (by intro z; cases z) (show 1 ≤ 1000 by decide))) da_nil))))) (show 5 ≤ 1000 by decide)) (show 5 ≤ 100 by decide) (by decide) TA (.inl ⟨rfl, rfl⟩)
        ?_ fun v16 HB eB TB2 hB2 => ?_
      · intro d x H' hd e hx E hE Q'
        refine x_call (da_cons d_int (da_cons (d_var rfl hx) da_nil)) (.inr ⟨0, d, by decide, by decide, ?_, rfl, rfl⟩) hE Q'
        simp only [List.mem_cons, List.not_mem_nil, or_false] at hd
        rcases hd with rfl | rfl | rfl | rfl | rfl <;> exact .inl rfl
      have h11 := h11.monoN eB
      refine q_lamAdd (i := 16) (cls := .ref A.a_InvalidChain) (word := "chain") rfl hB2 (d_tup (da_cons d_non (da_cons (d_tup da_nil (show 0 ≤ 1000 by decide)) (da_cons (d_lst (da_cons (d_var rfl h11) da_nil) (show 1 ≤ 1000 by decide)) (da_cons (d_tup (da_cons (d_var rfl h11) (da_cons (d_cut (d_var rfl h11) o_none (o_some (K := K) d_int)) da_nil)) (show 2 ≤ 1000 by decide)) da_nil)))) (show 4 ≤ 1000 by decide)) (show 4 ≤ 100 by decide) (show 10 ≤ 100 by decide) TB2 (.inl ⟨rfl, rfl⟩)
        ?_ fun v17 HC eC TC hC => ?_
      · intro d x H' hd e hx E hE Q'
        refine x_call (da_cons (d_var rfl hx) (da_cons d_non da_nil)) (.inl ⟨d, .none, ?_, rfl, rfl⟩) hE Q'
        simp only [List.mem_cons, List.not_mem_nil, or_false] at hd
        rcases hd with rfl | rfl | rfl | rfl
        · exact .inl rfl
        · exact .inl rfl
        · exact .inl rfl
        · exact .inr ⟨cOwn, _, okOwn, by decide, rfl⟩
      have h11 := h11.monoN eC
      refine q_lamAdd (i := 16) (cls := .ref A.a_InvalidNumber) (word := "number") rfl hC (d_tup (da_cons d_non (da_cons (d_neg d_int) (da_cons d_int (da_cons d_bl da_nil)))) (show 4 ≤ 1000 by decide)) (show 4 ≤ 100 by decide) (show 14 ≤ 100 by decide) TC (.inr ⟨rfl, rfl⟩)
        ?_ fun v18 HD eD TD hD => ?_
      · intro d x H' hd e hx E hE Q'
        refine x_call (da_cons (d_tup (da_cons (d_var rfl (h11.monoN e)) (da_cons (d_var rfl (h11.monoN e)) da_nil)) (show 2 ≤ 1000 by decide)) (da_cons (d_var rfl hx) da_nil)) (.inr ⟨[cOwn, cOwn], d, okO, ?_, rfl, rfl⟩) hE Q'
        simp only [List.mem_cons, List.not_mem_nil, or_false] at hd
        rcases hd with rfl | rfl | rfl | rfl <;> rfl
      refine s_ret (d_is (d := .bool (PyData.eqv (wordsD words18) (wordsD words18))) (d_op (d_var rfl hD) (d_op (d_op (d_op (d_lst (da_cons d_str da_nil) (show 1 ≤ 1000 by decide)) d_int (rd_rep (k := 5) (by decide) (show 1 ≤ 1000 by decide))) (d_op (d_lst (da_cons d_str da_nil) (show 1 ≤ 1000 by decide)) d_int (rd_rep (k := 9) (by decide) (show 1 ≤ 1000 by decide))) (rd_cat (by decide))) (d_op (d_lst (da_cons d_str da_nil) (show 1 ≤ 1000 by decide)) d_int (rd_rep (k := 4) (by decide) (show 1 ≤ 1000 by decide))) (rd_cat (by decide))) (rd_eq (shaped_words (ws := words18) ?_) (shaped_words (ws := words18) ?_))) (congrArg PyData.bool (eqv_words _))) fun v Hz ez hz => ?_
      · decide +kernel
      · decide +kernel
      · cases hz
        exact k Hz
end
end DL
namespace DL
open PySem PySem.Spec PyProof.Rows L2
/-- texts behind values -/
def strsB : List Str → List Value → Bool
  | [], [] => true
  | x :: xs, .str y _ :: us => (x == y) && strsB xs us
  | _, _ => false
theorem vals_of : ∀ {ss : List Str} {us : List Value}, strsB ss us = true → Vals (ss.map V.str) us
  | [], [], _ => .nil
  | [], _ :: _, h => nomatch h
  | _ :: _, [], h => nomatch h
  | x :: xs, u :: us, h => by
    cases u with
    | str y t =>
      have h' : ((x == y) && strsB xs us) = true := h
      rw [Bool.and_eq_true] at h'
      have e : x = y := eq_of_beq h'.1
      subst e
      exact .cons ⟨t, rfl⟩ (vals_of h'.2)
    | _ => exact nomatch h
theorem exm_mk {K : PySem.W.Frag} {S C : Addr} {b : Bool} (h1 : PySem.W.subIn K (.ref C) (.type "BaseException") = some true) (h2 : PySem.W.isClsIn K C = true) (h3 : PySem.W.typeIn K (.ref C) = some (.type "type")) (h4 : PySem.W.subIn K (.ref S) (.ref C) = some b) :
    PySem.W.exmOne K (.ref S) (.ref C) = some b := by
  have e1 : (PySem.W.subIn K (.ref C) (.type "BaseException") == some true) = true := by rw [h1] <;> rfl
  have e2 : ((PySem.W.clsIn K C).isSome && PySem.W.typeIn K (.ref C) == some (.type "type")) = true := by
    have h2' : (PySem.W.clsIn K C).isSome = true := h2
    rw [h2', h3] <;> rfl
  unfold PySem.W.exmOne PySem.W.kitCls
  rw [if_pos e1]
  show (if ((PySem.W.clsIn K C).isSome && PySem.W.typeIn K (.ref C) == some (.type "type")) = true then PySem.W.subIn K (.ref S) (.ref C) else none) = some b
  rw [if_pos e2]
  exact h4
theorem hd_mk {K : PySem.W.Frag} {c B : Addr} {o : Obj} (l : K.lookup c = some o) (e : PySem.W.codeHdIn [(c, o)] c B = true) : PySem.W.codeHdIn K c B = true := by
  have l2 : ([(c, o)] : PySem.W.Frag).lookup c = some o := by
    rw [List.lookup_cons, beq_self_eq_true]
  unfold PySem.W.codeHdIn at e ⊢
  rw [l]
  rw [l2] at e
  exact e
theorem km_none_of {K : Params → PySem.W.Frag} {as : List Addr} {e : ∀ P, as = (K P).map (·.1)} {ts : List Addr} {w : World} {h : Heap} (_ : (PySem.W.kmHook K as e ts).says w h) {a : Addr} (n : as.contains a = false) : (K w.params).lookup a = none := by
  have n' : a ∉ (K w.params).map (·.1) := by
    rw [← e w.params]
    intro z
    rw [List.contains_iff_mem.mpr z] at n
    cases n
  rw [List.lookup_eq_none_iff]
  intro p hp
  rw [bne_iff_ne]
  exact fun z => n' (z ▸ List.mem_map.mpr ⟨p, hp, rfl⟩)
theorem bd_is_whole {K : PySem.W.Frag} {f : Addr} {fd : FuncData} (F : Fun K "is_whole" "is_whole" s_is_whole f fd) : Binds K fd ["value", "low", "high"] [] := F.binds (fun _ _ _ _ _ _ us hl => match us, hl with | [_, _, _], _ => rfl)
theorem bd_is_truth {K : PySem.W.Frag} {f : Addr} {fd : FuncData} (F : Fun K "is_truth" "is_truth" s_is_truth f fd) : Binds K fd ["value"] [] := F.binds (fun _ _ _ _ _ _ us hl => match us, hl with | [_], _ => rfl)
theorem bd_is_tuple_of {K : PySem.W.Frag} {f : Addr} {fd : FuncData} (F : Fun K "is_tuple_of" "is_tuple_of" s_is_tuple_of f fd) : Binds K fd ["value", "low", "high"] [] := F.binds (fun _ _ _ _ _ _ us hl => match us, hl with | [_, _, _], _ => rfl)
theorem bd_fits_word {K : PySem.W.Frag} {f : Addr} {fd : FuncData} (F : Fun K "fits_word" "fits_word" s_fits_word f fd) : Binds K fd ["value"] [] := F.binds (fun _ _ _ _ _ _ us hl => match us, hl with | [_], _ => rfl)
theorem bd_fits_words {K : PySem.W.Frag} {f : Addr} {fd : FuncData} (F : Fun K "fits_words" "fits_words" s_fits_words f fd) : Binds K fd ["value", "low", "high"] [] := F.binds (fun _ _ _ _ _ _ us hl => match us, hl with | [_, _, _], _ => rfl)
theorem bd_is_ascending {K : PySem.W.Frag} {f : Addr} {fd : FuncData} (F : Fun K "is_ascending" "is_ascending" s_is_ascending f fd) : Binds K fd ["values"] [] := F.binds (fun _ _ _ _ _ _ us hl => match us, hl with | [_], _ => rfl)
theorem bd_fits_lot {K : PySem.W.Frag} {f : Addr} {fd : FuncData} (F : Fun K "fits_lot" "fits_lot" s_fits_lot f fd) : Binds K fd ["value", "low", "high", "words"] [] := F.binds (fun _ _ _ _ _ _ us hl => match us, hl with | [_, _, _, _], _ => rfl)
theorem bd_fits_name {K : PySem.W.Frag} {f : Addr} {fd : FuncData} (F : Fun K "fits_name" "fits_name" s_fits_name f fd) : Binds K fd ["value"] [] := F.binds (fun _ _ _ _ _ _ us hl => match us, hl with | [_], _ => rfl)
theorem bd_fits_value {K : PySem.W.Frag} {f : Addr} {fd : FuncData} (F : Fun K "fits_value" "fits_value" s_fits_value f fd) : Binds K fd ["word", "value"] [] := F.binds (fun _ _ _ _ _ _ us hl => match us, hl with | [_, _], _ => rfl)
theorem bd_fits_parts {K : PySem.W.Frag} {f : Addr} {fd : FuncData} (F : Fun K "fits_parts" "fits_parts" s_fits_parts f fd) : Binds K fd ["value"] [] := F.binds (fun _ _ _ _ _ _ us hl => match us, hl with | [_], _ => rfl)
theorem bd_fits_certificate {K : PySem.W.Frag} {f : Addr} {fd : FuncData} (F : Fun K "fits_certificate" "fits_certificate" s_fits_certificate f fd) : Binds K fd ["value"] [] := F.binds (fun _ _ _ _ _ _ us hl => match us, hl with | [_], _ => rfl)
theorem bd_part_in {K : PySem.W.Frag} {f : Addr} {fd : FuncData} (F : Fun K "part_in" "part_in" s_part_in f fd) : Binds K fd ["certificate", "word"] [] := F.binds (fun _ _ _ _ _ _ us hl => match us, hl with | [_, _], _ => rfl)
theorem bd_fits_chain {K : PySem.W.Frag} {f : Addr} {fd : FuncData} (F : Fun K "fits_chain" "fits_chain" s_fits_chain f fd) : Binds K fd ["value"] [] := F.binds (fun _ _ _ _ _ _ us hl => match us, hl with | [_], _ => rfl)
theorem bd_is_own_issuer {K : PySem.W.Frag} {f : Addr} {fd : FuncData} (F : Fun K "is_own_issuer" "is_own_issuer" s_is_own_issuer f fd) : Binds K fd ["certificate"] [] := F.binds (fun _ _ _ _ _ _ us hl => match us, hl with | [_], _ => rfl)
theorem bd_depth_in {K : PySem.W.Frag} {f : Addr} {fd : FuncData} (F : Fun K "depth_in" "depth_in" s_depth_in f fd) : Binds K fd ["certificate"] [] := F.binds (fun _ _ _ _ _ _ us hl => match us, hl with | [_], _ => rfl)
theorem bd_need_chain {K : PySem.W.Frag} {f : Addr} {fd : FuncData} (F : Fun K "need_chain" "need_chain" s_need_chain f fd) : Binds K fd ["value"] [] := F.binds (fun _ _ _ _ _ _ us hl => match us, hl with | [_], _ => rfl)
theorem bd_need_depth {K : PySem.W.Frag} {f : Addr} {fd : FuncData} (F : Fun K "need_depth" "need_depth" s_need_depth f fd) : Binds K fd ["value"] [] := F.binds (fun _ _ _ _ _ _ us hl => match us, hl with | [_], _ => rfl)
theorem bd_counted_in {K : PySem.W.Frag} {f : Addr} {fd : FuncData} (F : Fun K "counted_in" "counted_in" s_counted_in f fd) : Binds K fd ["chain", "place"] [] := F.binds (fun _ _ _ _ _ _ us hl => match us, hl with | [_, _], _ => rfl)
theorem bd_lesser {K : PySem.W.Frag} {f : Addr} {fd : FuncData} (F : Fun K "lesser" "lesser" s_lesser f fd) : Binds K fd ["one", "other"] [] := F.binds (fun _ _ _ _ _ _ us hl => match us, hl with | [_, _], _ => rfl)
theorem bd_left_behind {K : PySem.W.Frag} {f : Addr} {fd : FuncData} (F : Fun K "left_behind" "left_behind" s_left_behind f fd) : Binds K fd ["left", "certificate"] [] := F.binds (fun _ _ _ _ _ _ us hl => match us, hl with | [_, _], _ => rfl)
theorem bd_left_in {K : PySem.W.Frag} {f : Addr} {fd : FuncData} (F : Fun K "left_in" "left_in" s_left_in f fd) : Binds K fd ["depth", "chain"] [] := F.binds (fun _ _ _ _ _ _ us hl => match us, hl with | [_, _], _ => rfl)
theorem bd_counted_behind {K : PySem.W.Frag} {f : Addr} {fd : FuncData} (F : Fun K "counted_behind" "counted_behind" s_counted_behind f fd) : Binds K fd ["chain", "place"] [] := F.binds (fun _ _ _ _ _ _ us hl => match us, hl with | [_, _], _ => rfl)
theorem bd_left_row {K : PySem.W.Frag} {f : Addr} {fd : FuncData} (F : Fun K "left_row" "left_row" s_left_row f fd) : Binds K fd ["depth", "chain"] [] := F.binds (fun _ _ _ _ _ _ us hl => match us, hl with | [_, _], _ => rfl)
theorem bd_law_cup {K : PySem.W.Frag} {f : Addr} {fd : FuncData} (F : Fun K "_law_cup" "_law_cup" s_law_cup f fd) : Binds K fd ["_law_script"] [] := F.binds (fun _ _ _ _ _ _ us hl => match us, hl with | [_], _ => rfl)
theorem bd_law_roll {K : PySem.W.Frag} {f : Addr} {fd : FuncData} (F : Fun K "_law_roll" "_law_roll" s_law_roll f fd) : Binds K fd ["_law_cup_here", "_law_many"] [] := F.binds (fun _ _ _ _ _ _ us hl => match us, hl with | [_, _], _ => rfl)
theorem bd_law_some {K : PySem.W.Frag} {f : Addr} {fd : FuncData} (F : Fun K "_law_some" "_law_some" s_law_some f fd) : Binds K fd ["_law_cup_here", "_law_things"] [] := F.binds (fun _ _ _ _ _ _ us hl => match us, hl with | [_, _], _ => rfl)
theorem bd_law_parts {K : PySem.W.Frag} {f : Addr} {fd : FuncData} (F : Fun K "_law_parts" "_law_parts" s_law_parts f fd) : Binds K fd ["_law_parts_here"] [] := F.binds (fun _ _ _ _ _ _ us hl => match us, hl with | [_], _ => rfl)
theorem bd_law_certificate {K : PySem.W.Frag} {f : Addr} {fd : FuncData} (F : Fun K "_law_certificate" "_law_certificate" s_law_certificate f fd) : Binds K fd ["_law_cup_here"] [] := F.binds (fun _ _ _ _ _ _ us hl => match us, hl with | [_], _ => rfl)
theorem bd_law_drawn_chain {K : PySem.W.Frag} {f : Addr} {fd : FuncData} (F : Fun K "_law_drawn_chain" "_law_drawn_chain" s_law_drawn_chain f fd) : Binds K fd ["_law_cup_here", "_law_most"] [] := F.binds (fun _ _ _ _ _ _ us hl => match us, hl with | [_, _], _ => rfl)
theorem bd_law_depth {K : PySem.W.Frag} {f : Addr} {fd : FuncData} (F : Fun K "_law_depth" "_law_depth" s_law_depth f fd) : Binds K fd ["_law_certificate_here"] [] := F.binds (fun _ _ _ _ _ _ us hl => match us, hl with | [_], _ => rfl)
theorem bd_law_counts {K : PySem.W.Frag} {f : Addr} {fd : FuncData} (F : Fun K "_law_counts" "_law_counts" s_law_counts f fd) : Binds K fd ["_law_chain", "_law_place", "_law_end"] [] := F.binds (fun _ _ _ _ _ _ us hl => match us, hl with | [_, _, _], _ => rfl)
theorem bd_law_all_depths {K : PySem.W.Frag} {f : Addr} {fd : FuncData} (F : Fun K "_law_all_depths" "_law_all_depths" s_law_all_depths f fd) : Binds K fd ["_law_depth_here", "_law_chain"] [] := F.binds (fun _ _ _ _ _ _ us hl => match us, hl with | [_, _], _ => rfl)
theorem bd_law_error {K : PySem.W.Frag} {f : Addr} {fd : FuncData} (F : Fun K "_law_error" "_law_error" s_law_error f fd) : Binds K fd ["_law_call"] [] := F.binds (fun _ _ _ _ _ _ us hl => match us, hl with | [_], _ => rfl)
theorem bd_law_whole {K : PySem.W.Frag} {f : Addr} {fd : FuncData} (F : Fun K "_law_whole" "_law_whole" s_law_whole f fd) : Binds K fd ["_law_value"] [] := F.binds (fun _ _ _ _ _ _ us hl => match us, hl with | [_], _ => rfl)
theorem bd_law_left {K : PySem.W.Frag} {f : Addr} {fd : FuncData} (F : Fun K "_law_left" "_law_left" s_law_left f fd) : Binds K fd ["_law_depth_here", "_law_chain"] [] := F.binds (fun _ _ _ _ _ _ us hl => match us, hl with | [_, _], _ => rfl)
theorem bd_law {K : PySem.W.Frag} {f : Addr} {fd : FuncData} (F : Fun K "law" "law" s_law f fd) : Binds K fd ["_law_script"] [] := F.binds (fun _ _ _ _ _ _ us hl => match us, hl with | [_], _ => rfl)
theorem fin_mk {l : PySem.W.OpenLaw} {w : World} {K : PySem.W.Frag} {h : Heap} {mg : Str → Option Value} {fa : Addr} (X : K.In h) (G : h.Ns mainGlobals mg) (hfa : mg "law" = some (.ref fa))
    {ad_is_whole : Addr} {od_is_whole an_is_whole : Option Addr} {sl_is_whole : Array (Option Value)} {oc_is_whole kV_is_whole dc_is_whole pm_is_whole ct_is_whole cd_is_whole : Value}
    {ad_is_truth : Addr} {od_is_truth an_is_truth : Option Addr} {sl_is_truth : Array (Option Value)} {oc_is_truth kV_is_truth dc_is_truth pm_is_truth ct_is_truth cd_is_truth : Value}
    {ad_is_tuple_of : Addr} {od_is_tuple_of an_is_tuple_of : Option Addr} {sl_is_tuple_of : Array (Option Value)} {oc_is_tuple_of kV_is_tuple_of dc_is_tuple_of pm_is_tuple_of ct_is_tuple_of cd_is_tuple_of : Value}
    {ad_fits_word : Addr} {od_fits_word an_fits_word : Option Addr} {sl_fits_word : Array (Option Value)} {oc_fits_word kV_fits_word dc_fits_word pm_fits_word ct_fits_word cd_fits_word : Value}
    {ad_fits_words : Addr} {od_fits_words an_fits_words : Option Addr} {sl_fits_words : Array (Option Value)} {oc_fits_words kV_fits_words dc_fits_words pm_fits_words ct_fits_words cd_fits_words : Value}
    {ad_is_ascending : Addr} {od_is_ascending an_is_ascending : Option Addr} {sl_is_ascending : Array (Option Value)} {oc_is_ascending kV_is_ascending dc_is_ascending pm_is_ascending ct_is_ascending cd_is_ascending : Value}
    {ad_fits_lot : Addr} {od_fits_lot an_fits_lot : Option Addr} {sl_fits_lot : Array (Option Value)} {oc_fits_lot kV_fits_lot dc_fits_lot pm_fits_lot ct_fits_lot cd_fits_lot : Value}
    {ad_fits_name : Addr} {od_fits_name an_fits_name : Option Addr} {sl_fits_name : Array (Option Value)} {oc_fits_name kV_fits_name dc_fits_name pm_fits_name ct_fits_name cd_fits_name : Value}
    {ad_fits_value : Addr} {od_fits_value an_fits_value : Option Addr} {sl_fits_value : Array (Option Value)} {oc_fits_value kV_fits_value dc_fits_value pm_fits_value ct_fits_value cd_fits_value : Value}
    {ad_fits_parts : Addr} {od_fits_parts an_fits_parts : Option Addr} {sl_fits_parts : Array (Option Value)} {oc_fits_parts kV_fits_parts dc_fits_parts pm_fits_parts ct_fits_parts cd_fits_parts : Value}
    {ad_fits_certificate : Addr} {od_fits_certificate an_fits_certificate : Option Addr} {sl_fits_certificate : Array (Option Value)} {oc_fits_certificate kV_fits_certificate dc_fits_certificate pm_fits_certificate ct_fits_certificate cd_fits_certificate : Value}
    {ad_part_in : Addr} {od_part_in an_part_in : Option Addr} {sl_part_in : Array (Option Value)} {oc_part_in kV_part_in dc_part_in pm_part_in ct_part_in cd_part_in : Value}
    {ad_fits_chain : Addr} {od_fits_chain an_fits_chain : Option Addr} {sl_fits_chain : Array (Option Value)} {oc_fits_chain kV_fits_chain dc_fits_chain pm_fits_chain ct_fits_chain cd_fits_chain : Value}
    {ad_is_own_issuer : Addr} {od_is_own_issuer an_is_own_issuer : Option Addr} {sl_is_own_issuer : Array (Option Value)} {oc_is_own_issuer kV_is_own_issuer dc_is_own_issuer pm_is_own_issuer ct_is_own_issuer cd_is_own_issuer : Value}
    {ad_depth_in : Addr} {od_depth_in an_depth_in : Option Addr} {sl_depth_in : Array (Option Value)} {oc_depth_in kV_depth_in dc_depth_in pm_depth_in ct_depth_in cd_depth_in : Value}
    {ad_need_chain : Addr} {od_need_chain an_need_chain : Option Addr} {sl_need_chain : Array (Option Value)} {oc_need_chain kV_need_chain dc_need_chain pm_need_chain ct_need_chain cd_need_chain : Value}
    {ad_need_depth : Addr} {od_need_depth an_need_depth : Option Addr} {sl_need_depth : Array (Option Value)} {oc_need_depth kV_need_depth dc_need_depth pm_need_depth ct_need_depth cd_need_depth : Value}
    {ad_counted_in : Addr} {od_counted_in an_counted_in : Option Addr} {sl_counted_in : Array (Option Value)} {oc_counted_in kV_counted_in dc_counted_in pm_counted_in ct_counted_in cd_counted_in : Value}
    {ad_lesser : Addr} {od_lesser an_lesser : Option Addr} {sl_lesser : Array (Option Value)} {oc_lesser kV_lesser dc_lesser pm_lesser ct_lesser cd_lesser : Value}
    {ad_left_behind : Addr} {od_left_behind an_left_behind : Option Addr} {sl_left_behind : Array (Option Value)} {oc_left_behind kV_left_behind dc_left_behind pm_left_behind ct_left_behind cd_left_behind : Value}
    {ad_left_in : Addr} {od_left_in an_left_in : Option Addr} {sl_left_in : Array (Option Value)} {oc_left_in kV_left_in dc_left_in pm_left_in ct_left_in cd_left_in : Value}
    {ad_counted_behind : Addr} {od_counted_behind an_counted_behind : Option Addr} {sl_counted_behind : Array (Option Value)} {oc_counted_behind kV_counted_behind dc_counted_behind pm_counted_behind ct_counted_behind cd_counted_behind : Value}
    {ad_left_row : Addr} {od_left_row an_left_row : Option Addr} {sl_left_row : Array (Option Value)} {oc_left_row kV_left_row dc_left_row pm_left_row ct_left_row cd_left_row : Value}
    {ad_law_cup : Addr} {od_law_cup an_law_cup : Option Addr} {sl_law_cup : Array (Option Value)} {oc_law_cup kV_law_cup dc_law_cup pm_law_cup ct_law_cup cd_law_cup : Value}
    {ad_law_roll : Addr} {od_law_roll an_law_roll : Option Addr} {sl_law_roll : Array (Option Value)} {oc_law_roll kV_law_roll dc_law_roll pm_law_roll ct_law_roll cd_law_roll : Value}
    {ad_law_some : Addr} {od_law_some an_law_some : Option Addr} {sl_law_some : Array (Option Value)} {oc_law_some kV_law_some dc_law_some pm_law_some ct_law_some cd_law_some : Value}
    {ad_law_parts : Addr} {od_law_parts an_law_parts : Option Addr} {sl_law_parts : Array (Option Value)} {oc_law_parts kV_law_parts dc_law_parts pm_law_parts ct_law_parts cd_law_parts : Value}
    {ad_law_certificate : Addr} {od_law_certificate an_law_certificate : Option Addr} {sl_law_certificate : Array (Option Value)} {oc_law_certificate kV_law_certificate dc_law_certificate pm_law_certificate ct_law_certificate cd_law_certificate : Value}
    {ad_law_drawn_chain : Addr} {od_law_drawn_chain an_law_drawn_chain : Option Addr} {sl_law_drawn_chain : Array (Option Value)} {oc_law_drawn_chain kV_law_drawn_chain dc_law_drawn_chain pm_law_drawn_chain ct_law_drawn_chain cd_law_drawn_chain : Value}
    {ad_law_depth : Addr} {od_law_depth an_law_depth : Option Addr} {sl_law_depth : Array (Option Value)} {oc_law_depth kV_law_depth dc_law_depth pm_law_depth ct_law_depth cd_law_depth : Value}
    {ad_law_counts : Addr} {od_law_counts an_law_counts : Option Addr} {sl_law_counts : Array (Option Value)} {oc_law_counts kV_law_counts dc_law_counts pm_law_counts ct_law_counts cd_law_counts : Value}
    {ad_law_all_depths : Addr} {od_law_all_depths an_law_all_depths : Option Addr} {sl_law_all_depths : Array (Option Value)} {oc_law_all_depths kV_law_all_depths dc_law_all_depths pm_law_all_depths ct_law_all_depths cd_law_all_depths : Value}
    {ad_law_error : Addr} {od_law_error an_law_error : Option Addr} {sl_law_error : Array (Option Value)} {oc_law_error kV_law_error dc_law_error pm_law_error ct_law_error cd_law_error : Value}
    {ad_law_whole : Addr} {od_law_whole an_law_whole : Option Addr} {sl_law_whole : Array (Option Value)} {oc_law_whole kV_law_whole dc_law_whole pm_law_whole ct_law_whole cd_law_whole : Value}
    {ad_law_left : Addr} {od_law_left an_law_left : Option Addr} {sl_law_left : Array (Option Value)} {oc_law_left kV_law_left dc_law_left pm_law_left ct_law_left cd_law_left : Value}
    {ad_law : Addr} {od_law an_law : Option Addr} {sl_law : Array (Option Value)} {oc_law kV_law dc_law pm_law ct_law : Value}
    {t_LONGEST_values : Tok}
    {t_DEEP : Tok}
    {t_KEYS : Tok}
    {t_SERIALS : Tok}
    {t_TIMES : Tok}
    {t_DEPTH : Tok}
    {t_MANY_certificates : Tok}
    {t_LONGEST_chains : Tok}
    {t_NONE : Tok}
    {t_PASSED : Tok}
    {t_SIGNS : Tok}
    {ad_USES : Addr} {tod_USES : Option Addr} {its_USES : Array Value} {n_USES : Nat} {tsl_USES : Array (Option Value)}
    {ad_PURPOSES : Addr} {tod_PURPOSES : Option Addr} {its_PURPOSES : Array Value} {n_PURPOSES : Nat} {tsl_PURPOSES : Array (Option Value)}
    {ad_PARTS : Addr} {tod_PARTS : Option Addr} {its_PARTS : Array Value} {n_PARTS : Nat} {tsl_PARTS : Array (Option Value)}
    {ad_ChainError : Addr}
    {ad_InvalidNumber : Addr}
    {ad_InvalidCertificate : Addr}
    {ad_InvalidChain : Addr}
    {ad_InvalidUses : Addr}
    {ad_InvalidPurposes : Addr}
    {ad_InvalidTimes : Addr}
    {ad_InvalidLimits : Addr}
    {cL BT : Addr} {odC : Option Addr} {vsC : Array Value} {slC : Array (Option Value)}
    (a_is_whole : PySem.W.nsIn K mainGlobals "is_whole" = some (some (.ref ad_is_whole)))
    (l_is_whole : K.lookup ad_is_whole = some ⟨oc_is_whole, od_is_whole, .func (PySem.W.fnOf "is_whole" "is_whole" (defArgs s_is_whole) (defBody s_is_whole) (defScope s_is_whole) .none kV_is_whole dc_is_whole pm_is_whole an_is_whole cd_is_whole ct_is_whole), sl_is_whole⟩)
    (c_is_whole : PySem.W.codeIn K cd_is_whole "is_whole" = true)
    (k_is_whole : PySem.W.keepIn K (.ref ad_is_whole) = true)
    (a_is_truth : PySem.W.nsIn K mainGlobals "is_truth" = some (some (.ref ad_is_truth)))
    (l_is_truth : K.lookup ad_is_truth = some ⟨oc_is_truth, od_is_truth, .func (PySem.W.fnOf "is_truth" "is_truth" (defArgs s_is_truth) (defBody s_is_truth) (defScope s_is_truth) .none kV_is_truth dc_is_truth pm_is_truth an_is_truth cd_is_truth ct_is_truth), sl_is_truth⟩)
    (c_is_truth : PySem.W.codeIn K cd_is_truth "is_truth" = true)
    (k_is_truth : PySem.W.keepIn K (.ref ad_is_truth) = true)
    (a_is_tuple_of : PySem.W.nsIn K mainGlobals "is_tuple_of" = some (some (.ref ad_is_tuple_of)))
    (l_is_tuple_of : K.lookup ad_is_tuple_of = some ⟨oc_is_tuple_of, od_is_tuple_of, .func (PySem.W.fnOf "is_tuple_of" "is_tuple_of" (defArgs s_is_tuple_of) (defBody s_is_tuple_of) (defScope s_is_tuple_of) .none kV_is_tuple_of dc_is_tuple_of pm_is_tuple_of an_is_tuple_of cd_is_tuple_of ct_is_tuple_of), sl_is_tuple_of⟩)
    (c_is_tuple_of : PySem.W.codeIn K cd_is_tuple_of "is_tuple_of" = true)
    (k_is_tuple_of : PySem.W.keepIn K (.ref ad_is_tuple_of) = true)
    (a_fits_word : PySem.W.nsIn K mainGlobals "fits_word" = some (some (.ref ad_fits_word)))
    (l_fits_word : K.lookup ad_fits_word = some ⟨oc_fits_word, od_fits_word, .func (PySem.W.fnOf "fits_word" "fits_word" (defArgs s_fits_word) (defBody s_fits_word) (defScope s_fits_word) .none kV_fits_word dc_fits_word pm_fits_word an_fits_word cd_fits_word ct_fits_word), sl_fits_word⟩)
    (c_fits_word : PySem.W.codeIn K cd_fits_word "fits_word" = true)
    (k_fits_word : PySem.W.keepIn K (.ref ad_fits_word) = true)
    (a_fits_words : PySem.W.nsIn K mainGlobals "fits_words" = some (some (.ref ad_fits_words)))
    (l_fits_words : K.lookup ad_fits_words = some ⟨oc_fits_words, od_fits_words, .func (PySem.W.fnOf "fits_words" "fits_words" (defArgs s_fits_words) (defBody s_fits_words) (defScope s_fits_words) .none kV_fits_words dc_fits_words pm_fits_words an_fits_words cd_fits_words ct_fits_words), sl_fits_words⟩)
    (c_fits_words : PySem.W.codeIn K cd_fits_words "fits_words" = true)
    (k_fits_words : PySem.W.keepIn K (.ref ad_fits_words) = true)
    (a_is_ascending : PySem.W.nsIn K mainGlobals "is_ascending" = some (some (.ref ad_is_ascending)))
    (l_is_ascending : K.lookup ad_is_ascending = some ⟨oc_is_ascending, od_is_ascending, .func (PySem.W.fnOf "is_ascending" "is_ascending" (defArgs s_is_ascending) (defBody s_is_ascending) (defScope s_is_ascending) .none kV_is_ascending dc_is_ascending pm_is_ascending an_is_ascending cd_is_ascending ct_is_ascending), sl_is_ascending⟩)
    (c_is_ascending : PySem.W.codeIn K cd_is_ascending "is_ascending" = true)
    (k_is_ascending : PySem.W.keepIn K (.ref ad_is_ascending) = true)
    (a_fits_lot : PySem.W.nsIn K mainGlobals "fits_lot" = some (some (.ref ad_fits_lot)))
    (l_fits_lot : K.lookup ad_fits_lot = some ⟨oc_fits_lot, od_fits_lot, .func (PySem.W.fnOf "fits_lot" "fits_lot" (defArgs s_fits_lot) (defBody s_fits_lot) (defScope s_fits_lot) .none kV_fits_lot dc_fits_lot pm_fits_lot an_fits_lot cd_fits_lot ct_fits_lot), sl_fits_lot⟩)
    (c_fits_lot : PySem.W.codeIn K cd_fits_lot "fits_lot" = true)
    (k_fits_lot : PySem.W.keepIn K (.ref ad_fits_lot) = true)
    (a_fits_name : PySem.W.nsIn K mainGlobals "fits_name" = some (some (.ref ad_fits_name)))
    (l_fits_name : K.lookup ad_fits_name = some ⟨oc_fits_name, od_fits_name, .func (PySem.W.fnOf "fits_name" "fits_name" (defArgs s_fits_name) (defBody s_fits_name) (defScope s_fits_name) .none kV_fits_name dc_fits_name pm_fits_name an_fits_name cd_fits_name ct_fits_name), sl_fits_name⟩)
    (c_fits_name : PySem.W.codeIn K cd_fits_name "fits_name" = true)
    (k_fits_name : PySem.W.keepIn K (.ref ad_fits_name) = true)
    (a_fits_value : PySem.W.nsIn K mainGlobals "fits_value" = some (some (.ref ad_fits_value)))
    (l_fits_value : K.lookup ad_fits_value = some ⟨oc_fits_value, od_fits_value, .func (PySem.W.fnOf "fits_value" "fits_value" (defArgs s_fits_value) (defBody s_fits_value) (defScope s_fits_value) .none kV_fits_value dc_fits_value pm_fits_value an_fits_value cd_fits_value ct_fits_value), sl_fits_value⟩)
    (c_fits_value : PySem.W.codeIn K cd_fits_value "fits_value" = true)
    (k_fits_value : PySem.W.keepIn K (.ref ad_fits_value) = true)
    (a_fits_parts : PySem.W.nsIn K mainGlobals "fits_parts" = some (some (.ref ad_fits_parts)))
    (l_fits_parts : K.lookup ad_fits_parts = some ⟨oc_fits_parts, od_fits_parts, .func (PySem.W.fnOf "fits_parts" "fits_parts" (defArgs s_fits_parts) (defBody s_fits_parts) (defScope s_fits_parts) .none kV_fits_parts dc_fits_parts pm_fits_parts an_fits_parts cd_fits_parts ct_fits_parts), sl_fits_parts⟩)
    (c_fits_parts : PySem.W.codeIn K cd_fits_parts "fits_parts" = true)
    (k_fits_parts : PySem.W.keepIn K (.ref ad_fits_parts) = true)
    (a_fits_certificate : PySem.W.nsIn K mainGlobals "fits_certificate" = some (some (.ref ad_fits_certificate)))
    (l_fits_certificate : K.lookup ad_fits_certificate = some ⟨oc_fits_certificate, od_fits_certificate, .func (PySem.W.fnOf "fits_certificate" "fits_certificate" (defArgs s_fits_certificate) (defBody s_fits_certificate) (defScope s_fits_certificate) .none kV_fits_certificate dc_fits_certificate pm_fits_certificate an_fits_certificate cd_fits_certificate ct_fits_certificate), sl_fits_certificate⟩)
    (c_fits_certificate : PySem.W.codeIn K cd_fits_certificate "fits_certificate" = true)
    (k_fits_certificate : PySem.W.keepIn K (.ref ad_fits_certificate) = true)
    (a_part_in : PySem.W.nsIn K mainGlobals "part_in" = some (some (.ref ad_part_in)))
    (l_part_in : K.lookup ad_part_in = some ⟨oc_part_in, od_part_in, .func (PySem.W.fnOf "part_in" "part_in" (defArgs s_part_in) (defBody s_part_in) (defScope s_part_in) .none kV_part_in dc_part_in pm_part_in an_part_in cd_part_in ct_part_in), sl_part_in⟩)
    (c_part_in : PySem.W.codeIn K cd_part_in "part_in" = true)
    (k_part_in : PySem.W.keepIn K (.ref ad_part_in) = true)
    (a_fits_chain : PySem.W.nsIn K mainGlobals "fits_chain" = some (some (.ref ad_fits_chain)))
    (l_fits_chain : K.lookup ad_fits_chain = some ⟨oc_fits_chain, od_fits_chain, .func (PySem.W.fnOf "fits_chain" "fits_chain" (defArgs s_fits_chain) (defBody s_fits_chain) (defScope s_fits_chain) .none kV_fits_chain dc_fits_chain pm_fits_chain an_fits_chain cd_fits_chain ct_fits_chain), sl_fits_chain⟩)
    (c_fits_chain : PySem.W.codeIn K cd_fits_chain "fits_chain" = true)
    (k_fits_chain : PySem.W.keepIn K (.ref ad_fits_chain) = true)
    (a_is_own_issuer : PySem.W.nsIn K mainGlobals "is_own_issuer" = some (some (.ref ad_is_own_issuer)))
    (l_is_own_issuer : K.lookup ad_is_own_issuer = some ⟨oc_is_own_issuer, od_is_own_issuer, .func (PySem.W.fnOf "is_own_issuer" "is_own_issuer" (defArgs s_is_own_issuer) (defBody s_is_own_issuer) (defScope s_is_own_issuer) .none kV_is_own_issuer dc_is_own_issuer pm_is_own_issuer an_is_own_issuer cd_is_own_issuer ct_is_own_issuer), sl_is_own_issuer⟩)
    (c_is_own_issuer : PySem.W.codeIn K cd_is_own_issuer "is_own_issuer" = true)
    (k_is_own_issuer : PySem.W.keepIn K (.ref ad_is_own_issuer) = true)
    (a_depth_in : PySem.W.nsIn K mainGlobals "depth_in" = some (some (.ref ad_depth_in)))
    (l_depth_in : K.lookup ad_depth_in = some ⟨oc_depth_in, od_depth_in, .func (PySem.W.fnOf "depth_in" "depth_in" (defArgs s_depth_in) (defBody s_depth_in) (defScope s_depth_in) .none kV_depth_in dc_depth_in pm_depth_in an_depth_in cd_depth_in ct_depth_in), sl_depth_in⟩)
    (c_depth_in : PySem.W.codeIn K cd_depth_in "depth_in" = true)
    (k_depth_in : PySem.W.keepIn K (.ref ad_depth_in) = true)
    (a_need_chain : PySem.W.nsIn K mainGlobals "need_chain" = some (some (.ref ad_need_chain)))
    (l_need_chain : K.lookup ad_need_chain = some ⟨oc_need_chain, od_need_chain, .func (PySem.W.fnOf "need_chain" "need_chain" (defArgs s_need_chain) (defBody s_need_chain) (defScope s_need_chain) .none kV_need_chain dc_need_chain pm_need_chain an_need_chain cd_need_chain ct_need_chain), sl_need_chain⟩)
    (c_need_chain : PySem.W.codeIn K cd_need_chain "need_chain" = true)
    (k_need_chain : PySem.W.keepIn K (.ref ad_need_chain) = true)
    (a_need_depth : PySem.W.nsIn K mainGlobals "need_depth" = some (some (.ref ad_need_depth)))
    (l_need_depth : K.lookup ad_need_depth = some ⟨oc_need_depth, od_need_depth, .func (PySem.W.fnOf "need_depth" "need_depth" (defArgs s_need_depth) (defBody s_need_depth) (defScope s_need_depth) .none kV_need_depth dc_need_depth pm_need_depth an_need_depth cd_need_depth ct_need_depth), sl_need_depth⟩)
    (c_need_depth : PySem.W.codeIn K cd_need_depth "need_depth" = true)
    (k_need_depth : PySem.W.keepIn K (.ref ad_need_depth) = true)
    (a_counted_in : PySem.W.nsIn K mainGlobals "counted_in" = some (some (.ref ad_counted_in)))
    (l_counted_in : K.lookup ad_counted_in = some ⟨oc_counted_in, od_counted_in, .func (PySem.W.fnOf "counted_in" "counted_in" (defArgs s_counted_in) (defBody s_counted_in) (defScope s_counted_in) .none kV_counted_in dc_counted_in pm_counted_in an_counted_in cd_counted_in ct_counted_in), sl_counted_in⟩)
    (c_counted_in : PySem.W.codeIn K cd_counted_in "counted_in" = true)
    (k_counted_in : PySem.W.keepIn K (.ref ad_counted_in) = true)
    (a_lesser : PySem.W.nsIn K mainGlobals "lesser" = some (some (.ref ad_lesser)))
    (l_lesser : K.lookup ad_lesser = some ⟨oc_lesser, od_lesser, .func (PySem.W.fnOf "lesser" "lesser" (defArgs s_lesser) (defBody s_lesser) (defScope s_lesser) .none kV_lesser dc_lesser pm_lesser an_lesser cd_lesser ct_lesser), sl_lesser⟩)
    (c_lesser : PySem.W.codeIn K cd_lesser "lesser" = true)
    (k_lesser : PySem.W.keepIn K (.ref ad_lesser) = true)
    (a_left_behind : PySem.W.nsIn K mainGlobals "left_behind" = some (some (.ref ad_left_behind)))
    (l_left_behind : K.lookup ad_left_behind = some ⟨oc_left_behind, od_left_behind, .func (PySem.W.fnOf "left_behind" "left_behind" (defArgs s_left_behind) (defBody s_left_behind) (defScope s_left_behind) .none kV_left_behind dc_left_behind pm_left_behind an_left_behind cd_left_behind ct_left_behind), sl_left_behind⟩)
    (c_left_behind : PySem.W.codeIn K cd_left_behind "left_behind" = true)
    (k_left_behind : PySem.W.keepIn K (.ref ad_left_behind) = true)
    (a_left_in : PySem.W.nsIn K mainGlobals "left_in" = some (some (.ref ad_left_in)))
    (l_left_in : K.lookup ad_left_in = some ⟨oc_left_in, od_left_in, .func (PySem.W.fnOf "left_in" "left_in" (defArgs s_left_in) (defBody s_left_in) (defScope s_left_in) .none kV_left_in dc_left_in pm_left_in an_left_in cd_left_in ct_left_in), sl_left_in⟩)
    (c_left_in : PySem.W.codeIn K cd_left_in "left_in" = true)
    (k_left_in : PySem.W.keepIn K (.ref ad_left_in) = true)
    (a_counted_behind : PySem.W.nsIn K mainGlobals "counted_behind" = some (some (.ref ad_counted_behind)))
    (l_counted_behind : K.lookup ad_counted_behind = some ⟨oc_counted_behind, od_counted_behind, .func (PySem.W.fnOf "counted_behind" "counted_behind" (defArgs s_counted_behind) (defBody s_counted_behind) (defScope s_counted_behind) .none kV_counted_behind dc_counted_behind pm_counted_behind an_counted_behind cd_counted_behind ct_counted_behind), sl_counted_behind⟩)
    (c_counted_behind : PySem.W.codeIn K cd_counted_behind "counted_behind" = true)
    (k_counted_behind : PySem.W.keepIn K (.ref ad_counted_behind) = true)
    (a_left_row : PySem.W.nsIn K mainGlobals "left_row" = some (some (.ref ad_left_row)))
    (l_left_row : K.lookup ad_left_row = some ⟨oc_left_row, od_left_row, .func (PySem.W.fnOf "left_row" "left_row" (defArgs s_left_row) (defBody s_left_row) (defScope s_left_row) .none kV_left_row dc_left_row pm_left_row an_left_row cd_left_row ct_left_row), sl_left_row⟩)
    (c_left_row : PySem.W.codeIn K cd_left_row "left_row" = true)
    (k_left_row : PySem.W.keepIn K (.ref ad_left_row) = true)
    (a_law_cup : PySem.W.nsIn K mainGlobals "_law_cup" = some (some (.ref ad_law_cup)))
    (l_law_cup : K.lookup ad_law_cup = some ⟨oc_law_cup, od_law_cup, .func (PySem.W.fnOf "_law_cup" "_law_cup" (defArgs s_law_cup) (defBody s_law_cup) (defScope s_law_cup) .none kV_law_cup dc_law_cup pm_law_cup an_law_cup cd_law_cup ct_law_cup), sl_law_cup⟩)
    (c_law_cup : PySem.W.codeIn K cd_law_cup "_law_cup" = true)
    (k_law_cup : PySem.W.keepIn K (.ref ad_law_cup) = true)
    (a_law_roll : PySem.W.nsIn K mainGlobals "_law_roll" = some (some (.ref ad_law_roll)))
    (l_law_roll : K.lookup ad_law_roll = some ⟨oc_law_roll, od_law_roll, .func (PySem.W.fnOf "_law_roll" "_law_roll" (defArgs s_law_roll) (defBody s_law_roll) (defScope s_law_roll) .none kV_law_roll dc_law_roll pm_law_roll an_law_roll cd_law_roll ct_law_roll), sl_law_roll⟩)
    (c_law_roll : PySem.W.codeIn K cd_law_roll "_law_roll" = true)
    (k_law_roll : PySem.W.keepIn K (.ref ad_law_roll) = true)
    (a_law_some : PySem.W.nsIn K mainGlobals "_law_some" = some (some (.ref ad_law_some)))
    (l_law_some : K.lookup ad_law_some = some ⟨oc_law_some, od_law_some, .func (PySem.W.fnOf "_law_some" "_law_some" (defArgs s_law_some) (defBody s_law_some) (defScope s_law_some) .none kV_law_some dc_law_some pm_law_some an_law_some cd_law_some ct_law_some), sl_law_some⟩)
    (c_law_some : PySem.W.codeIn K cd_law_some "_law_some" = true)
    (k_law_some : PySem.W.keepIn K (.ref ad_law_some) = true)
    (a_law_parts : PySem.W.nsIn K mainGlobals "_law_parts" = some (some (.ref ad_law_parts)))
    (l_law_parts : K.lookup ad_law_parts = some ⟨oc_law_parts, od_law_parts, .func (PySem.W.fnOf "_law_parts" "_law_parts" (defArgs s_law_parts) (defBody s_law_parts) (defScope s_law_parts) .none kV_law_parts dc_law_parts pm_law_parts an_law_parts cd_law_parts ct_law_parts), sl_law_parts⟩)
    (c_law_parts : PySem.W.codeIn K cd_law_parts "_law_parts" = true)
    (k_law_parts : PySem.W.keepIn K (.ref ad_law_parts) = true)
    (a_law_certificate : PySem.W.nsIn K mainGlobals "_law_certificate" = some (some (.ref ad_law_certificate)))
    (l_law_certificate : K.lookup ad_law_certificate = some ⟨oc_law_certificate, od_law_certificate, .func (PySem.W.fnOf "_law_certificate" "_law_certificate" (defArgs s_law_certificate) (defBody s_law_certificate) (defScope s_law_certificate) .none kV_law_certificate dc_law_certificate pm_law_certificate an_law_certificate cd_law_certificate ct_law_certificate), sl_law_certificate⟩)
    (c_law_certificate : PySem.W.codeIn K cd_law_certificate "_law_certificate" = true)
    (k_law_certificate : PySem.W.keepIn K (.ref ad_law_certificate) = true)
    (a_law_drawn_chain : PySem.W.nsIn K mainGlobals "_law_drawn_chain" = some (some (.ref ad_law_drawn_chain)))
    (l_law_drawn_chain : K.lookup ad_law_drawn_chain = some ⟨oc_law_drawn_chain, od_law_drawn_chain, .func (PySem.W.fnOf "_law_drawn_chain" "_law_drawn_chain" (defArgs s_law_drawn_chain) (defBody s_law_drawn_chain) (defScope s_law_drawn_chain) .none kV_law_drawn_chain dc_law_drawn_chain pm_law_drawn_chain an_law_drawn_chain cd_law_drawn_chain ct_law_drawn_chain), sl_law_drawn_chain⟩)
    (c_law_drawn_chain : PySem.W.codeIn K cd_law_drawn_chain "_law_drawn_chain" = true)
    (k_law_drawn_chain : PySem.W.keepIn K (.ref ad_law_drawn_chain) = true)
    (a_law_depth : PySem.W.nsIn K mainGlobals "_law_depth" = some (some (.ref ad_law_depth)))
    (l_law_depth : K.lookup ad_law_depth = some ⟨oc_law_depth, od_law_depth, .func (PySem.W.fnOf "_law_depth" "_law_depth" (defArgs s_law_depth) (defBody s_law_depth) (defScope s_law_depth) .none kV_law_depth dc_law_depth pm_law_depth an_law_depth cd_law_depth ct_law_depth), sl_law_depth⟩)
    (c_law_depth : PySem.W.codeIn K cd_law_depth "_law_depth" = true)
    (k_law_depth : PySem.W.keepIn K (.ref ad_law_depth) = true)
    (a_law_counts : PySem.W.nsIn K mainGlobals "_law_counts" = some (some (.ref ad_law_counts)))
    (l_law_counts : K.lookup ad_law_counts = some ⟨oc_law_counts, od_law_counts, .func (PySem.W.fnOf "_law_counts" "_law_counts" (defArgs s_law_counts) (defBody s_law_counts) (defScope s_law_counts) .none kV_law_counts dc_law_counts pm_law_counts an_law_counts cd_law_counts ct_law_counts), sl_law_counts⟩)
    (c_law_counts : PySem.W.codeIn K cd_law_counts "_law_counts" = true)
    (k_law_counts : PySem.W.keepIn K (.ref ad_law_counts) = true)
    (a_law_all_depths : PySem.W.nsIn K mainGlobals "_law_all_depths" = some (some (.ref ad_law_all_depths)))
    (l_law_all_depths : K.lookup ad_law_all_depths = some ⟨oc_law_all_depths, od_law_all_depths, .func (PySem.W.fnOf "_law_all_depths" "_law_all_depths" (defArgs s_law_all_depths) (defBody s_law_all_depths) (defScope s_law_all_depths) .none kV_law_all_depths dc_law_all_depths pm_law_all_depths an_law_all_depths cd_law_all_depths ct_law_all_depths), sl_law_all_depths⟩)
    (c_law_all_depths : PySem.W.codeIn K cd_law_all_depths "_law_all_depths" = true)
    (k_law_all_depths : PySem.W.keepIn K (.ref ad_law_all_depths) = true)
    (a_law_error : PySem.W.nsIn K mainGlobals "_law_error" = some (some (.ref ad_law_error)))
    (l_law_error : K.lookup ad_law_error = some ⟨oc_law_error, od_law_error, .func (PySem.W.fnOf "_law_error" "_law_error" (defArgs s_law_error) (defBody s_law_error) (defScope s_law_error) .none kV_law_error dc_law_error pm_law_error an_law_error cd_law_error ct_law_error), sl_law_error⟩)
    (c_law_error : PySem.W.codeIn K cd_law_error "_law_error" = true)
    (k_law_error : PySem.W.keepIn K (.ref ad_law_error) = true)
    (a_law_whole : PySem.W.nsIn K mainGlobals "_law_whole" = some (some (.ref ad_law_whole)))
    (l_law_whole : K.lookup ad_law_whole = some ⟨oc_law_whole, od_law_whole, .func (PySem.W.fnOf "_law_whole" "_law_whole" (defArgs s_law_whole) (defBody s_law_whole) (defScope s_law_whole) .none kV_law_whole dc_law_whole pm_law_whole an_law_whole cd_law_whole ct_law_whole), sl_law_whole⟩)
    (c_law_whole : PySem.W.codeIn K cd_law_whole "_law_whole" = true)
    (k_law_whole : PySem.W.keepIn K (.ref ad_law_whole) = true)
    (a_law_left : PySem.W.nsIn K mainGlobals "_law_left" = some (some (.ref ad_law_left)))
    (l_law_left : K.lookup ad_law_left = some ⟨oc_law_left, od_law_left, .func (PySem.W.fnOf "_law_left" "_law_left" (defArgs s_law_left) (defBody s_law_left) (defScope s_law_left) .none kV_law_left dc_law_left pm_law_left an_law_left cd_law_left ct_law_left), sl_law_left⟩)
    (c_law_left : PySem.W.codeIn K cd_law_left "_law_left" = true)
    (k_law_left : PySem.W.keepIn K (.ref ad_law_left) = true)
    (a_law : PySem.W.nsIn K mainGlobals "law" = some (some (.ref ad_law)))
    (l_law : K.lookup ad_law = some ⟨oc_law, od_law, .func (PySem.W.fnOf "law" "law" (defArgs s_law) (defBody s_law) (defScope s_law) .none kV_law dc_law pm_law an_law (.ref cL) ct_law), sl_law⟩)
    (c_law : PySem.W.codeIn K (.ref cL) "law" = true)
    (k_law : PySem.W.keepIn K (.ref ad_law) = true)
    (g_LONGEST_values : PySem.W.nsIn K mainGlobals "LONGEST_values" = some (some (.int (12) t_LONGEST_values)))
    (g_DEEP : PySem.W.nsIn K mainGlobals "DEEP" = some (some (.int (4) t_DEEP)))
    (g_KEYS : PySem.W.nsIn K mainGlobals "KEYS" = some (some (.int (4294967295) t_KEYS)))
    (g_SERIALS : PySem.W.nsIn K mainGlobals "SERIALS" = some (some (.int (1000000) t_SERIALS)))
    (g_TIMES : PySem.W.nsIn K mainGlobals "TIMES" = some (some (.int (1000000000) t_TIMES)))
    (g_DEPTH : PySem.W.nsIn K mainGlobals "DEPTH" = some (some (.int (8) t_DEPTH)))
    (g_MANY_certificates : PySem.W.nsIn K mainGlobals "MANY_certificates" = some (some (.int (8) t_MANY_certificates)))
    (g_LONGEST_chains : PySem.W.nsIn K mainGlobals "LONGEST_chains" = some (some (.int (8) t_LONGEST_chains)))
    (g_NONE : PySem.W.nsIn K mainGlobals "NONE" = some (some (.int (-1) t_NONE)))
    (g_PASSED : PySem.W.nsIn K mainGlobals "PASSED" = some (some (.int (-2) t_PASSED)))
    (g_SIGNS : PySem.W.nsIn K mainGlobals "SIGNS" = some (some (.str "abcdefghijklmnopqrstuvwxyz0123456789" t_SIGNS)))
    (g_USES : PySem.W.nsIn K mainGlobals "USES" = some (some (.ref ad_USES)))
    (t_USES : K.lookup ad_USES = some ⟨.type "tuple", tod_USES, .seq its_USES n_USES, tsl_USES⟩)
    (s_USES : its_USES.size ≤ sizeLine)
    (v_USES : strsB ["agree", "certs", "lists", "sign"] its_USES.toList = true)
    (g_PURPOSES : PySem.W.nsIn K mainGlobals "PURPOSES" = some (some (.ref ad_PURPOSES)))
    (t_PURPOSES : K.lookup ad_PURPOSES = some ⟨.type "tuple", tod_PURPOSES, .seq its_PURPOSES n_PURPOSES, tsl_PURPOSES⟩)
    (s_PURPOSES : its_PURPOSES.size ≤ sizeLine)
    (v_PURPOSES : strsB ["any", "call", "serve", "sign", "stamp"] its_PURPOSES.toList = true)
    (g_PARTS : PySem.W.nsIn K mainGlobals "PARTS" = some (some (.ref ad_PARTS)))
    (t_PARTS : K.lookup ad_PARTS = some ⟨.type "tuple", tod_PARTS, .seq its_PARTS n_PARTS, tsl_PARTS⟩)
    (s_PARTS : its_PARTS.size ≤ sizeLine)
    (v_PARTS : strsB ["anylimit", "basic", "excluded", "lists", "mappings", "names", "odd", "permitted", "policies", "policylimits", "purposes", "uses"] its_PARTS.toList = true)
    (b_isinstance : PySem.W.nsIn K mainGlobals "isinstance" = some none)
    (b_int : PySem.W.nsIn K mainGlobals "int" = some none)
    (b_bool : PySem.W.nsIn K mainGlobals "bool" = some none)
    (b_str : PySem.W.nsIn K mainGlobals "str" = some none)
    (b_tuple : PySem.W.nsIn K mainGlobals "tuple" = some none)
    (b_list : PySem.W.nsIn K mainGlobals "list" = some none)
    (b_len : PySem.W.nsIn K mainGlobals "len" = some none)
    (b_all : PySem.W.nsIn K mainGlobals "all" = some none)
    (b_zip : PySem.W.nsIn K mainGlobals "zip" = some none)
    (b_range : PySem.W.nsIn K mainGlobals "range" = some none)
    (b_dict : PySem.W.nsIn K mainGlobals "dict" = some none)
    (b_abs : PySem.W.nsIn K mainGlobals "abs" = some none)
    (b_max : PySem.W.nsIn K mainGlobals "max" = some none)
    (b_min : PySem.W.nsIn K mainGlobals "min" = some none)
    (b_sorted : PySem.W.nsIn K mainGlobals "sorted" = some none)
    (b_enumerate : PySem.W.nsIn K mainGlobals "enumerate" = some none)
    (g_ChainError : PySem.W.nsIn K mainGlobals "ChainError" = some (some (.ref ad_ChainError)))
    (ex_ChainError : PySem.W.excIn K ad_ChainError [.type "ValueError", .type "Exception", .type "BaseException", .type "object"] "ValueError.__new__" = true)
    (kp_ChainError : PySem.W.keepIn K (.ref ad_ChainError) = true)
    (sb_ChainError : PySem.W.subIn K (.ref ad_ChainError) (.type "BaseException") = some true)
    (is_ChainError : PySem.W.isClsIn K ad_ChainError = true)
    (ty_ChainError : PySem.W.typeIn K (.ref ad_ChainError) = some (.type "type"))
    (g_InvalidNumber : PySem.W.nsIn K mainGlobals "InvalidNumber" = some (some (.ref ad_InvalidNumber)))
    (ex_InvalidNumber : PySem.W.excIn K ad_InvalidNumber [.type "ValueError", .type "Exception", .type "BaseException", .type "object"] "ValueError.__new__" = true)
    (kp_InvalidNumber : PySem.W.keepIn K (.ref ad_InvalidNumber) = true)
    (sb_InvalidNumber : PySem.W.subIn K (.ref ad_InvalidNumber) (.type "BaseException") = some true)
    (is_InvalidNumber : PySem.W.isClsIn K ad_InvalidNumber = true)
    (ty_InvalidNumber : PySem.W.typeIn K (.ref ad_InvalidNumber) = some (.type "type"))
    (g_InvalidCertificate : PySem.W.nsIn K mainGlobals "InvalidCertificate" = some (some (.ref ad_InvalidCertificate)))
    (ex_InvalidCertificate : PySem.W.excIn K ad_InvalidCertificate [.type "ValueError", .type "Exception", .type "BaseException", .type "object"] "ValueError.__new__" = true)
    (kp_InvalidCertificate : PySem.W.keepIn K (.ref ad_InvalidCertificate) = true)
    (sb_InvalidCertificate : PySem.W.subIn K (.ref ad_InvalidCertificate) (.type "BaseException") = some true)
    (is_InvalidCertificate : PySem.W.isClsIn K ad_InvalidCertificate = true)
    (ty_InvalidCertificate : PySem.W.typeIn K (.ref ad_InvalidCertificate) = some (.type "type"))
    (g_InvalidChain : PySem.W.nsIn K mainGlobals "InvalidChain" = some (some (.ref ad_InvalidChain)))
    (ex_InvalidChain : PySem.W.excIn K ad_InvalidChain [.type "ValueError", .type "Exception", .type "BaseException", .type "object"] "ValueError.__new__" = true)
    (kp_InvalidChain : PySem.W.keepIn K (.ref ad_InvalidChain) = true)
    (sb_InvalidChain : PySem.W.subIn K (.ref ad_InvalidChain) (.type "BaseException") = some true)
    (is_InvalidChain : PySem.W.isClsIn K ad_InvalidChain = true)
    (ty_InvalidChain : PySem.W.typeIn K (.ref ad_InvalidChain) = some (.type "type"))
    (g_InvalidUses : PySem.W.nsIn K mainGlobals "InvalidUses" = some (some (.ref ad_InvalidUses)))
    (ex_InvalidUses : PySem.W.excIn K ad_InvalidUses [.type "ValueError", .type "Exception", .type "BaseException", .type "object"] "ValueError.__new__" = true)
    (kp_InvalidUses : PySem.W.keepIn K (.ref ad_InvalidUses) = true)
    (sb_InvalidUses : PySem.W.subIn K (.ref ad_InvalidUses) (.type "BaseException") = some true)
    (is_InvalidUses : PySem.W.isClsIn K ad_InvalidUses = true)
    (ty_InvalidUses : PySem.W.typeIn K (.ref ad_InvalidUses) = some (.type "type"))
    (g_InvalidPurposes : PySem.W.nsIn K mainGlobals "InvalidPurposes" = some (some (.ref ad_InvalidPurposes)))
    (ex_InvalidPurposes : PySem.W.excIn K ad_InvalidPurposes [.type "ValueError", .type "Exception", .type "BaseException", .type "object"] "ValueError.__new__" = true)
    (kp_InvalidPurposes : PySem.W.keepIn K (.ref ad_InvalidPurposes) = true)
    (sb_InvalidPurposes : PySem.W.subIn K (.ref ad_InvalidPurposes) (.type "BaseException") = some true)
    (is_InvalidPurposes : PySem.W.isClsIn K ad_InvalidPurposes = true)
    (ty_InvalidPurposes : PySem.W.typeIn K (.ref ad_InvalidPurposes) = some (.type "type"))
    (g_InvalidTimes : PySem.W.nsIn K mainGlobals "InvalidTimes" = some (some (.ref ad_InvalidTimes)))
    (ex_InvalidTimes : PySem.W.excIn K ad_InvalidTimes [.type "ValueError", .type "Exception", .type "BaseException", .type "object"] "ValueError.__new__" = true)
    (kp_InvalidTimes : PySem.W.keepIn K (.ref ad_InvalidTimes) = true)
    (sb_InvalidTimes : PySem.W.subIn K (.ref ad_InvalidTimes) (.type "BaseException") = some true)
    (is_InvalidTimes : PySem.W.isClsIn K ad_InvalidTimes = true)
    (ty_InvalidTimes : PySem.W.typeIn K (.ref ad_InvalidTimes) = some (.type "type"))
    (g_InvalidLimits : PySem.W.nsIn K mainGlobals "InvalidLimits" = some (some (.ref ad_InvalidLimits)))
    (ex_InvalidLimits : PySem.W.excIn K ad_InvalidLimits [.type "ValueError", .type "Exception", .type "BaseException", .type "object"] "ValueError.__new__" = true)
    (kp_InvalidLimits : PySem.W.keepIn K (.ref ad_InvalidLimits) = true)
    (sb_InvalidLimits : PySem.W.subIn K (.ref ad_InvalidLimits) (.type "BaseException") = some true)
    (is_InvalidLimits : PySem.W.isClsIn K ad_InvalidLimits = true)
    (ty_InvalidLimits : PySem.W.typeIn K (.ref ad_InvalidLimits) = some (.type "type"))
    (x_InvalidChain_ChainError : PySem.W.subIn K (.ref ad_InvalidChain) (.ref ad_ChainError) = some true)
    (x_InvalidNumber_ChainError : PySem.W.subIn K (.ref ad_InvalidNumber) (.ref ad_ChainError) = some true)
    (x_InvalidChain_InvalidNumber : PySem.W.subIn K (.ref ad_InvalidChain) (.ref ad_InvalidNumber) = some false)
    (x_InvalidNumber_self : PySem.W.subIn K (.ref ad_InvalidNumber) (.ref ad_InvalidNumber) = some true)
    (x_InvalidChain_InvalidCertificate : PySem.W.subIn K (.ref ad_InvalidChain) (.ref ad_InvalidCertificate) = some false)
    (x_InvalidNumber_InvalidCertificate : PySem.W.subIn K (.ref ad_InvalidNumber) (.ref ad_InvalidCertificate) = some false)
    (x_InvalidChain_self : PySem.W.subIn K (.ref ad_InvalidChain) (.ref ad_InvalidChain) = some true)
    (x_InvalidNumber_InvalidChain : PySem.W.subIn K (.ref ad_InvalidNumber) (.ref ad_InvalidChain) = some false)
    (x_InvalidChain_InvalidUses : PySem.W.subIn K (.ref ad_InvalidChain) (.ref ad_InvalidUses) = some false)
    (x_InvalidNumber_InvalidUses : PySem.W.subIn K (.ref ad_InvalidNumber) (.ref ad_InvalidUses) = some false)
    (x_InvalidChain_InvalidPurposes : PySem.W.subIn K (.ref ad_InvalidChain) (.ref ad_InvalidPurposes) = some false)
    (x_InvalidNumber_InvalidPurposes : PySem.W.subIn K (.ref ad_InvalidNumber) (.ref ad_InvalidPurposes) = some false)
    (x_InvalidChain_InvalidTimes : PySem.W.subIn K (.ref ad_InvalidChain) (.ref ad_InvalidTimes) = some false)
    (x_InvalidNumber_InvalidTimes : PySem.W.subIn K (.ref ad_InvalidNumber) (.ref ad_InvalidTimes) = some false)
    (x_InvalidChain_InvalidLimits : PySem.W.subIn K (.ref ad_InvalidChain) (.ref ad_InvalidLimits) = some false)
    (x_InvalidNumber_InvalidLimits : PySem.W.subIn K (.ref ad_InvalidNumber) (.ref ad_InvalidLimits) = some false)
    (cP : K.lookup cL = some ⟨.type "code", odC, .fields vsC, slC⟩)
    (cV : (vsC[11]? : Option Value) = some (.ref BT))
    (cH : PySem.W.codeHdIn [(cL, ⟨.type "code", odC, .fields vsC, slC⟩)] cL BT = true)
    (cN : K.lookup BT = none)
    (cT : h.get? BT = some { cls := .none, data := .fields #[] })
    : LamX.LawAtS l w K L2.CX0 11 63 "_law_script" mg fa h := by
  have e := hfa.symm.trans (PySem.W.mg_of X G a_law)
  cases e
  have F_is_whole := fun_mk (st := s_is_whole) l_is_whole c_is_whole k_is_whole
  have F_is_truth := fun_mk (st := s_is_truth) l_is_truth c_is_truth k_is_truth
  have F_is_tuple_of := fun_mk (st := s_is_tuple_of) l_is_tuple_of c_is_tuple_of k_is_tuple_of
  have F_fits_word := fun_mk (st := s_fits_word) l_fits_word c_fits_word k_fits_word
  have F_fits_words := fun_mk (st := s_fits_words) l_fits_words c_fits_words k_fits_words
  have F_is_ascending := fun_mk (st := s_is_ascending) l_is_ascending c_is_ascending k_is_ascending
  have F_fits_lot := fun_mk (st := s_fits_lot) l_fits_lot c_fits_lot k_fits_lot
  have F_fits_name := fun_mk (st := s_fits_name) l_fits_name c_fits_name k_fits_name
  have F_fits_value := fun_mk (st := s_fits_value) l_fits_value c_fits_value k_fits_value
  have F_fits_parts := fun_mk (st := s_fits_parts) l_fits_parts c_fits_parts k_fits_parts
  have F_fits_certificate := fun_mk (st := s_fits_certificate) l_fits_certificate c_fits_certificate k_fits_certificate
  have F_part_in := fun_mk (st := s_part_in) l_part_in c_part_in k_part_in
  have F_fits_chain := fun_mk (st := s_fits_chain) l_fits_chain c_fits_chain k_fits_chain
  have F_is_own_issuer := fun_mk (st := s_is_own_issuer) l_is_own_issuer c_is_own_issuer k_is_own_issuer
  have F_depth_in := fun_mk (st := s_depth_in) l_depth_in c_depth_in k_depth_in
  have F_need_chain := fun_mk (st := s_need_chain) l_need_chain c_need_chain k_need_chain
  have F_need_depth := fun_mk (st := s_need_depth) l_need_depth c_need_depth k_need_depth
  have F_counted_in := fun_mk (st := s_counted_in) l_counted_in c_counted_in k_counted_in
  have F_lesser := fun_mk (st := s_lesser) l_lesser c_lesser k_lesser
  have F_left_behind := fun_mk (st := s_left_behind) l_left_behind c_left_behind k_left_behind
  have F_left_in := fun_mk (st := s_left_in) l_left_in c_left_in k_left_in
  have F_counted_behind := fun_mk (st := s_counted_behind) l_counted_behind c_counted_behind k_counted_behind
  have F_left_row := fun_mk (st := s_left_row) l_left_row c_left_row k_left_row
  have F_law_cup := fun_mk (st := s_law_cup) l_law_cup c_law_cup k_law_cup
  have F_law_roll := fun_mk (st := s_law_roll) l_law_roll c_law_roll k_law_roll
  have F_law_some := fun_mk (st := s_law_some) l_law_some c_law_some k_law_some
  have F_law_parts := fun_mk (st := s_law_parts) l_law_parts c_law_parts k_law_parts
  have F_law_certificate := fun_mk (st := s_law_certificate) l_law_certificate c_law_certificate k_law_certificate
  have F_law_drawn_chain := fun_mk (st := s_law_drawn_chain) l_law_drawn_chain c_law_drawn_chain k_law_drawn_chain
  have F_law_depth := fun_mk (st := s_law_depth) l_law_depth c_law_depth k_law_depth
  have F_law_counts := fun_mk (st := s_law_counts) l_law_counts c_law_counts k_law_counts
  have F_law_all_depths := fun_mk (st := s_law_all_depths) l_law_all_depths c_law_all_depths k_law_all_depths
  have F_law_error := fun_mk (st := s_law_error) l_law_error c_law_error k_law_error
  have F_law_whole := fun_mk (st := s_law_whole) l_law_whole c_law_whole k_law_whole
  have F_law_left := fun_mk (st := s_law_left) l_law_left c_law_left k_law_left
  have F_law := fun_mk (st := s_law) l_law c_law k_law
  have T : Txt K mg ⟨ad_is_whole, PySem.W.fnOf "is_whole" "is_whole" (defArgs s_is_whole) (defBody s_is_whole) (defScope s_is_whole) .none kV_is_whole dc_is_whole pm_is_whole an_is_whole cd_is_whole ct_is_whole,
    ad_is_truth, PySem.W.fnOf "is_truth" "is_truth" (defArgs s_is_truth) (defBody s_is_truth) (defScope s_is_truth) .none kV_is_truth dc_is_truth pm_is_truth an_is_truth cd_is_truth ct_is_truth,
    ad_is_tuple_of, PySem.W.fnOf "is_tuple_of" "is_tuple_of" (defArgs s_is_tuple_of) (defBody s_is_tuple_of) (defScope s_is_tuple_of) .none kV_is_tuple_of dc_is_tuple_of pm_is_tuple_of an_is_tuple_of cd_is_tuple_of ct_is_tuple_of,
    ad_fits_word, PySem.W.fnOf "fits_word" "fits_word" (defArgs s_fits_word) (defBody s_fits_word) (defScope s_fits_word) .none kV_fits_word dc_fits_word pm_fits_word an_fits_word cd_fits_word ct_fits_word,
    ad_fits_words, PySem.W.fnOf "fits_words" "fits_words" (defArgs s_fits_words) (defBody s_fits_words) (defScope s_fits_words) .none kV_fits_words dc_fits_words pm_fits_words an_fits_words cd_fits_words ct_fits_words,
    ad_is_ascending, PySem.W.fnOf "is_ascending" "is_ascending" (defArgs s_is_ascending) (defBody s_is_ascending) (defScope s_is_ascending) .none kV_is_ascending dc_is_ascending pm_is_ascending an_is_ascending cd_is_ascending ct_is_ascending,
    ad_fits_lot, PySem.W.fnOf "fits_lot" "fits_lot" (defArgs s_fits_lot) (defBody s_fits_lot) (defScope s_fits_lot) .none kV_fits_lot dc_fits_lot pm_fits_lot an_fits_lot cd_fits_lot ct_fits_lot,
    ad_fits_name, PySem.W.fnOf "fits_name" "fits_name" (defArgs s_fits_name) (defBody s_fits_name) (defScope s_fits_name) .none kV_fits_name dc_fits_name pm_fits_name an_fits_name cd_fits_name ct_fits_name,
    ad_fits_value, PySem.W.fnOf "fits_value" "fits_value" (defArgs s_fits_value) (defBody s_fits_value) (defScope s_fits_value) .none kV_fits_value dc_fits_value pm_fits_value an_fits_value cd_fits_value ct_fits_value,
    ad_fits_parts, PySem.W.fnOf "fits_parts" "fits_parts" (defArgs s_fits_parts) (defBody s_fits_parts) (defScope s_fits_parts) .none kV_fits_parts dc_fits_parts pm_fits_parts an_fits_parts cd_fits_parts ct_fits_parts,
    ad_fits_certificate, PySem.W.fnOf "fits_certificate" "fits_certificate" (defArgs s_fits_certificate) (defBody s_fits_certificate) (defScope s_fits_certificate) .none kV_fits_certificate dc_fits_certificate pm_fits_certificate an_fits_certificate cd_fits_certificate ct_fits_certificate,
    ad_part_in, PySem.W.fnOf "part_in" "part_in" (defArgs s_part_in) (defBody s_part_in) (defScope s_part_in) .none kV_part_in dc_part_in pm_part_in an_part_in cd_part_in ct_part_in,
    ad_fits_chain, PySem.W.fnOf "fits_chain" "fits_chain" (defArgs s_fits_chain) (defBody s_fits_chain) (defScope s_fits_chain) .none kV_fits_chain dc_fits_chain pm_fits_chain an_fits_chain cd_fits_chain ct_fits_chain,
    ad_is_own_issuer, PySem.W.fnOf "is_own_issuer" "is_own_issuer" (defArgs s_is_own_issuer) (defBody s_is_own_issuer) (defScope s_is_own_issuer) .none kV_is_own_issuer dc_is_own_issuer pm_is_own_issuer an_is_own_issuer cd_is_own_issuer ct_is_own_issuer,
    ad_depth_in, PySem.W.fnOf "depth_in" "depth_in" (defArgs s_depth_in) (defBody s_depth_in) (defScope s_depth_in) .none kV_depth_in dc_depth_in pm_depth_in an_depth_in cd_depth_in ct_depth_in,
    ad_need_chain, PySem.W.fnOf "need_chain" "need_chain" (defArgs s_need_chain) (defBody s_need_chain) (defScope s_need_chain) .none kV_need_chain dc_need_chain pm_need_chain an_need_chain cd_need_chain ct_need_chain,
    ad_need_depth, PySem.W.fnOf "need_depth" "need_depth" (defArgs s_need_depth) (defBody s_need_depth) (defScope s_need_depth) .none kV_need_depth dc_need_depth pm_need_depth an_need_depth cd_need_depth ct_need_depth,
    ad_counted_in, PySem.W.fnOf "counted_in" "counted_in" (defArgs s_counted_in) (defBody s_counted_in) (defScope s_counted_in) .none kV_counted_in dc_counted_in pm_counted_in an_counted_in cd_counted_in ct_counted_in,
    ad_lesser, PySem.W.fnOf "lesser" "lesser" (defArgs s_lesser) (defBody s_lesser) (defScope s_lesser) .none kV_lesser dc_lesser pm_lesser an_lesser cd_lesser ct_lesser,
    ad_left_behind, PySem.W.fnOf "left_behind" "left_behind" (defArgs s_left_behind) (defBody s_left_behind) (defScope s_left_behind) .none kV_left_behind dc_left_behind pm_left_behind an_left_behind cd_left_behind ct_left_behind,
    ad_left_in, PySem.W.fnOf "left_in" "left_in" (defArgs s_left_in) (defBody s_left_in) (defScope s_left_in) .none kV_left_in dc_left_in pm_left_in an_left_in cd_left_in ct_left_in,
    ad_counted_behind, PySem.W.fnOf "counted_behind" "counted_behind" (defArgs s_counted_behind) (defBody s_counted_behind) (defScope s_counted_behind) .none kV_counted_behind dc_counted_behind pm_counted_behind an_counted_behind cd_counted_behind ct_counted_behind,
    ad_left_row, PySem.W.fnOf "left_row" "left_row" (defArgs s_left_row) (defBody s_left_row) (defScope s_left_row) .none kV_left_row dc_left_row pm_left_row an_left_row cd_left_row ct_left_row,
    ad_law_cup, PySem.W.fnOf "_law_cup" "_law_cup" (defArgs s_law_cup) (defBody s_law_cup) (defScope s_law_cup) .none kV_law_cup dc_law_cup pm_law_cup an_law_cup cd_law_cup ct_law_cup,
    ad_law_roll, PySem.W.fnOf "_law_roll" "_law_roll" (defArgs s_law_roll) (defBody s_law_roll) (defScope s_law_roll) .none kV_law_roll dc_law_roll pm_law_roll an_law_roll cd_law_roll ct_law_roll,
    ad_law_some, PySem.W.fnOf "_law_some" "_law_some" (defArgs s_law_some) (defBody s_law_some) (defScope s_law_some) .none kV_law_some dc_law_some pm_law_some an_law_some cd_law_some ct_law_some,
    ad_law_parts, PySem.W.fnOf "_law_parts" "_law_parts" (defArgs s_law_parts) (defBody s_law_parts) (defScope s_law_parts) .none kV_law_parts dc_law_parts pm_law_parts an_law_parts cd_law_parts ct_law_parts,
    ad_law_certificate, PySem.W.fnOf "_law_certificate" "_law_certificate" (defArgs s_law_certificate) (defBody s_law_certificate) (defScope s_law_certificate) .none kV_law_certificate dc_law_certificate pm_law_certificate an_law_certificate cd_law_certificate ct_law_certificate,
    ad_law_drawn_chain, PySem.W.fnOf "_law_drawn_chain" "_law_drawn_chain" (defArgs s_law_drawn_chain) (defBody s_law_drawn_chain) (defScope s_law_drawn_chain) .none kV_law_drawn_chain dc_law_drawn_chain pm_law_drawn_chain an_law_drawn_chain cd_law_drawn_chain ct_law_drawn_chain,
    ad_law_depth, PySem.W.fnOf "_law_depth" "_law_depth" (defArgs s_law_depth) (defBody s_law_depth) (defScope s_law_depth) .none kV_law_depth dc_law_depth pm_law_depth an_law_depth cd_law_depth ct_law_depth,
    ad_law_counts, PySem.W.fnOf "_law_counts" "_law_counts" (defArgs s_law_counts) (defBody s_law_counts) (defScope s_law_counts) .none kV_law_counts dc_law_counts pm_law_counts an_law_counts cd_law_counts ct_law_counts,
    ad_law_all_depths, PySem.W.fnOf "_law_all_depths" "_law_all_depths" (defArgs s_law_all_depths) (defBody s_law_all_depths) (defScope s_law_all_depths) .none kV_law_all_depths dc_law_all_depths pm_law_all_depths an_law_all_depths cd_law_all_depths ct_law_all_depths,
    ad_law_error, PySem.W.fnOf "_law_error" "_law_error" (defArgs s_law_error) (defBody s_law_error) (defScope s_law_error) .none kV_law_error dc_law_error pm_law_error an_law_error cd_law_error ct_law_error,
    ad_law_whole, PySem.W.fnOf "_law_whole" "_law_whole" (defArgs s_law_whole) (defBody s_law_whole) (defScope s_law_whole) .none kV_law_whole dc_law_whole pm_law_whole an_law_whole cd_law_whole ct_law_whole,
    ad_law_left, PySem.W.fnOf "_law_left" "_law_left" (defArgs s_law_left) (defBody s_law_left) (defScope s_law_left) .none kV_law_left dc_law_left pm_law_left an_law_left cd_law_left ct_law_left,
    fa, PySem.W.fnOf "law" "law" (defArgs s_law) (defBody s_law) (defScope s_law) .none kV_law dc_law pm_law an_law (.ref cL) ct_law,
    ad_USES,
    ad_PURPOSES,
    ad_PARTS,
    ad_ChainError,
    ad_InvalidNumber,
    ad_InvalidCertificate,
    ad_InvalidChain,
    ad_InvalidUses,
    ad_InvalidPurposes,
    ad_InvalidTimes,
    ad_InvalidLimits⟩ := {
    d_is_whole := ⟨F_is_whole, PySem.W.mg_of X G a_is_whole, bd_is_whole F_is_whole⟩
    d_is_truth := ⟨F_is_truth, PySem.W.mg_of X G a_is_truth, bd_is_truth F_is_truth⟩
    d_is_tuple_of := ⟨F_is_tuple_of, PySem.W.mg_of X G a_is_tuple_of, bd_is_tuple_of F_is_tuple_of⟩
    d_fits_word := ⟨F_fits_word, PySem.W.mg_of X G a_fits_word, bd_fits_word F_fits_word⟩
    d_fits_words := ⟨F_fits_words, PySem.W.mg_of X G a_fits_words, bd_fits_words F_fits_words⟩
    d_is_ascending := ⟨F_is_ascending, PySem.W.mg_of X G a_is_ascending, bd_is_ascending F_is_ascending⟩
    d_fits_lot := ⟨F_fits_lot, PySem.W.mg_of X G a_fits_lot, bd_fits_lot F_fits_lot⟩
    d_fits_name := ⟨F_fits_name, PySem.W.mg_of X G a_fits_name, bd_fits_name F_fits_name⟩
    d_fits_value := ⟨F_fits_value, PySem.W.mg_of X G a_fits_value, bd_fits_value F_fits_value⟩
    d_fits_parts := ⟨F_fits_parts, PySem.W.mg_of X G a_fits_parts, bd_fits_parts F_fits_parts⟩
    d_fits_certificate := ⟨F_fits_certificate, PySem.W.mg_of X G a_fits_certificate, bd_fits_certificate F_fits_certificate⟩
    d_part_in := ⟨F_part_in, PySem.W.mg_of X G a_part_in, bd_part_in F_part_in⟩
    d_fits_chain := ⟨F_fits_chain, PySem.W.mg_of X G a_fits_chain, bd_fits_chain F_fits_chain⟩
    d_is_own_issuer := ⟨F_is_own_issuer, PySem.W.mg_of X G a_is_own_issuer, bd_is_own_issuer F_is_own_issuer⟩
    d_depth_in := ⟨F_depth_in, PySem.W.mg_of X G a_depth_in, bd_depth_in F_depth_in⟩
    d_need_chain := ⟨F_need_chain, PySem.W.mg_of X G a_need_chain, bd_need_chain F_need_chain⟩
    d_need_depth := ⟨F_need_depth, PySem.W.mg_of X G a_need_depth, bd_need_depth F_need_depth⟩
    d_counted_in := ⟨F_counted_in, PySem.W.mg_of X G a_counted_in, bd_counted_in F_counted_in⟩
    d_lesser := ⟨F_lesser, PySem.W.mg_of X G a_lesser, bd_lesser F_lesser⟩
    d_left_behind := ⟨F_left_behind, PySem.W.mg_of X G a_left_behind, bd_left_behind F_left_behind⟩
    d_left_in := ⟨F_left_in, PySem.W.mg_of X G a_left_in, bd_left_in F_left_in⟩
    d_counted_behind := ⟨F_counted_behind, PySem.W.mg_of X G a_counted_behind, bd_counted_behind F_counted_behind⟩
    d_left_row := ⟨F_left_row, PySem.W.mg_of X G a_left_row, bd_left_row F_left_row⟩
    d_law_cup := ⟨F_law_cup, PySem.W.mg_of X G a_law_cup, bd_law_cup F_law_cup⟩
    d_law_roll := ⟨F_law_roll, PySem.W.mg_of X G a_law_roll, bd_law_roll F_law_roll⟩
    d_law_some := ⟨F_law_some, PySem.W.mg_of X G a_law_some, bd_law_some F_law_some⟩
    d_law_parts := ⟨F_law_parts, PySem.W.mg_of X G a_law_parts, bd_law_parts F_law_parts⟩
    d_law_certificate := ⟨F_law_certificate, PySem.W.mg_of X G a_law_certificate, bd_law_certificate F_law_certificate⟩
    d_law_drawn_chain := ⟨F_law_drawn_chain, PySem.W.mg_of X G a_law_drawn_chain, bd_law_drawn_chain F_law_drawn_chain⟩
    d_law_depth := ⟨F_law_depth, PySem.W.mg_of X G a_law_depth, bd_law_depth F_law_depth⟩
    d_law_counts := ⟨F_law_counts, PySem.W.mg_of X G a_law_counts, bd_law_counts F_law_counts⟩
    d_law_all_depths := ⟨F_law_all_depths, PySem.W.mg_of X G a_law_all_depths, bd_law_all_depths F_law_all_depths⟩
    d_law_error := ⟨F_law_error, PySem.W.mg_of X G a_law_error, bd_law_error F_law_error⟩
    d_law_whole := ⟨F_law_whole, PySem.W.mg_of X G a_law_whole, bd_law_whole F_law_whole⟩
    d_law_left := ⟨F_law_left, PySem.W.mg_of X G a_law_left, bd_law_left F_law_left⟩
    d_law := ⟨F_law, PySem.W.mg_of X G a_law, bd_law F_law⟩
    g_LONGEST_values := ⟨_, PySem.W.mg_of X G g_LONGEST_values⟩
    g_DEEP := ⟨_, PySem.W.mg_of X G g_DEEP⟩
    g_KEYS := ⟨_, PySem.W.mg_of X G g_KEYS⟩
    g_SERIALS := ⟨_, PySem.W.mg_of X G g_SERIALS⟩
    g_TIMES := ⟨_, PySem.W.mg_of X G g_TIMES⟩
    g_DEPTH := ⟨_, PySem.W.mg_of X G g_DEPTH⟩
    g_MANY_certificates := ⟨_, PySem.W.mg_of X G g_MANY_certificates⟩
    g_LONGEST_chains := ⟨_, PySem.W.mg_of X G g_LONGEST_chains⟩
    g_NONE := ⟨_, PySem.W.mg_of X G g_NONE⟩
    g_PASSED := ⟨_, PySem.W.mg_of X G g_PASSED⟩
    g_SIGNS := ⟨_, PySem.W.mg_of X G g_SIGNS⟩
    g_USES := PySem.W.mg_of X G g_USES
    t_USES := ⟨_, _, _, t_USES, rfl, rfl, s_USES, vals_of v_USES⟩
    g_PURPOSES := PySem.W.mg_of X G g_PURPOSES
    t_PURPOSES := ⟨_, _, _, t_PURPOSES, rfl, rfl, s_PURPOSES, vals_of v_PURPOSES⟩
    g_PARTS := PySem.W.mg_of X G g_PARTS
    t_PARTS := ⟨_, _, _, t_PARTS, rfl, rfl, s_PARTS, vals_of v_PARTS⟩
    b_isinstance := PySem.W.mg_none_of X G b_isinstance
    b_int := PySem.W.mg_none_of X G b_int
    b_bool := PySem.W.mg_none_of X G b_bool
    b_str := PySem.W.mg_none_of X G b_str
    b_tuple := PySem.W.mg_none_of X G b_tuple
    b_list := PySem.W.mg_none_of X G b_list
    b_len := PySem.W.mg_none_of X G b_len
    b_all := PySem.W.mg_none_of X G b_all
    b_zip := PySem.W.mg_none_of X G b_zip
    b_range := PySem.W.mg_none_of X G b_range
    b_dict := PySem.W.mg_none_of X G b_dict
    b_abs := PySem.W.mg_none_of X G b_abs
    b_max := PySem.W.mg_none_of X G b_max
    b_min := PySem.W.mg_none_of X G b_min
    b_sorted := PySem.W.mg_none_of X G b_sorted
    b_enumerate := PySem.W.mg_none_of X G b_enumerate
    e_ChainError := ⟨PySem.W.mg_of X G g_ChainError, ex_ChainError, kp_ChainError, sb_ChainError, ty_ChainError⟩
    e_InvalidNumber := ⟨PySem.W.mg_of X G g_InvalidNumber, ex_InvalidNumber, kp_InvalidNumber, sb_InvalidNumber, ty_InvalidNumber⟩
    e_InvalidCertificate := ⟨PySem.W.mg_of X G g_InvalidCertificate, ex_InvalidCertificate, kp_InvalidCertificate, sb_InvalidCertificate, ty_InvalidCertificate⟩
    e_InvalidChain := ⟨PySem.W.mg_of X G g_InvalidChain, ex_InvalidChain, kp_InvalidChain, sb_InvalidChain, ty_InvalidChain⟩
    e_InvalidUses := ⟨PySem.W.mg_of X G g_InvalidUses, ex_InvalidUses, kp_InvalidUses, sb_InvalidUses, ty_InvalidUses⟩
    e_InvalidPurposes := ⟨PySem.W.mg_of X G g_InvalidPurposes, ex_InvalidPurposes, kp_InvalidPurposes, sb_InvalidPurposes, ty_InvalidPurposes⟩
    e_InvalidTimes := ⟨PySem.W.mg_of X G g_InvalidTimes, ex_InvalidTimes, kp_InvalidTimes, sb_InvalidTimes, ty_InvalidTimes⟩
    e_InvalidLimits := ⟨PySem.W.mg_of X G g_InvalidLimits, ex_InvalidLimits, kp_InvalidLimits, sb_InvalidLimits, ty_InvalidLimits⟩
    x_InvalidChain_ChainError := exm_mk sb_ChainError is_ChainError ty_ChainError x_InvalidChain_ChainError
    x_InvalidNumber_ChainError := exm_mk sb_ChainError is_ChainError ty_ChainError x_InvalidNumber_ChainError
    x_InvalidChain_InvalidNumber := exm_mk sb_InvalidNumber is_InvalidNumber ty_InvalidNumber x_InvalidChain_InvalidNumber
    x_InvalidNumber_self := exm_mk sb_InvalidNumber is_InvalidNumber ty_InvalidNumber x_InvalidNumber_self
    x_InvalidChain_InvalidCertificate := exm_mk sb_InvalidCertificate is_InvalidCertificate ty_InvalidCertificate x_InvalidChain_InvalidCertificate
    x_InvalidNumber_InvalidCertificate := exm_mk sb_InvalidCertificate is_InvalidCertificate ty_InvalidCertificate x_InvalidNumber_InvalidCertificate
    x_InvalidChain_self := exm_mk sb_InvalidChain is_InvalidChain ty_InvalidChain x_InvalidChain_self
    x_InvalidNumber_InvalidChain := exm_mk sb_InvalidChain is_InvalidChain ty_InvalidChain x_InvalidNumber_InvalidChain
    x_InvalidChain_InvalidUses := exm_mk sb_InvalidUses is_InvalidUses ty_InvalidUses x_InvalidChain_InvalidUses
    x_InvalidNumber_InvalidUses := exm_mk sb_InvalidUses is_InvalidUses ty_InvalidUses x_InvalidNumber_InvalidUses
    x_InvalidChain_InvalidPurposes := exm_mk sb_InvalidPurposes is_InvalidPurposes ty_InvalidPurposes x_InvalidChain_InvalidPurposes
    x_InvalidNumber_InvalidPurposes := exm_mk sb_InvalidPurposes is_InvalidPurposes ty_InvalidPurposes x_InvalidNumber_InvalidPurposes
    x_InvalidChain_InvalidTimes := exm_mk sb_InvalidTimes is_InvalidTimes ty_InvalidTimes x_InvalidChain_InvalidTimes
    x_InvalidNumber_InvalidTimes := exm_mk sb_InvalidTimes is_InvalidTimes ty_InvalidTimes x_InvalidNumber_InvalidTimes
    x_InvalidChain_InvalidLimits := exm_mk sb_InvalidLimits is_InvalidLimits ty_InvalidLimits x_InvalidChain_InvalidLimits
    x_InvalidNumber_InvalidLimits := exm_mk sb_InvalidLimits is_InvalidLimits ty_InvalidLimits x_InvalidNumber_InvalidLimits
  }
  have FL : FunC K "law" s_law fa _ cL := ⟨_, _, _, _, _, _, _, _, rfl, l_law, c_law⟩
  refine ⟨_, [(cL, BT)], SpLaw K BT, fun p hp => ?_, fun p hp => ?_, fun p hp => ?_, fun s u => .of_eq rfl, fun H a ns h1 h2 h3 h4 => ?_, fun base KB NB TB => ok_law T FL (TB _ (.head _))⟩
  · rw [List.mem_singleton.mp hp]
    exact cT
  · rw [List.mem_singleton.mp hp]
    exact cN
  · rw [List.mem_singleton.mp hp]
    exact PySem.W.codeHd_of_K X (hd_mk cP cH)
  · exact ⟨a, ns, rfl, h4, h1, h3 _ (.head _), fun _ => rfl⟩
end DL
open PySem PySem.W PyProof.Rows
open_top headA for PySem.Challenge.rw_chainpapers_k27_whole_depths_of_chains
set_option maxRecDepth 100000 in
set_option maxHeartbeats 0 in
theorem PySem.Challenge.cw_chainpapers_k27_whole_depths_of_chains_holds : PySem.Challenge.rw_chainpapers_k27_whole_depths_of_chains.Holds := by
  refine headA ?_
  k_fill
  refine LamX.walk_ofTs (l := PySem.Challenge.rw_chainpapers_k27_whole_depths_of_chains) (n := 63) (k := 11) (CX := fun _ => L2.CX0) (x := "_law_script") rfl (by decide) rfl ⟨rfl, by decide, by decide⟩ (fun w h Y => PySem.W.km_in_of Y) ?F ?C
  case C => intro w H s e s' h; exact h
  case F =>
    intro w mg fa h Y KX G hmg
    refine' DL.fin_mk KX G hmg ?a_is_whole ?l_is_whole ?c_is_whole ?k_is_whole ?a_is_truth ?l_is_truth ?c_is_truth ?k_is_truth ?a_is_tuple_of ?l_is_tuple_of ?c_is_tuple_of ?k_is_tuple_of ?a_fits_word ?l_fits_word ?c_fits_word ?k_fits_word ?a_fits_words ?l_fits_words ?c_fits_words ?k_fits_words ?a_is_ascending ?l_is_ascending ?c_is_ascending ?k_is_ascending ?a_fits_lot ?l_fits_lot ?c_fits_lot ?k_fits_lot ?a_fits_name ?l_fits_name ?c_fits_name ?k_fits_name ?a_fits_value ?l_fits_value ?c_fits_value ?k_fits_value ?a_fits_parts ?l_fits_parts ?c_fits_parts ?k_fits_parts ?a_fits_certificate ?l_fits_certificate ?c_fits_certificate ?k_fits_certificate ?a_part_in ?l_part_in ?c_part_in ?k_part_in ?a_fits_chain ?l_fits_chain ?c_fits_chain ?k_fits_chain ?a_is_own_issuer ?l_is_own_issuer ?c_is_own_issuer ?k_is_own_issuer ?a_depth_in ?l_depth_in ?c_depth_in ?k_depth_in ?a_need_chain ?l_need_chain ?c_need_chain ?k_need_chain ?a_need_depth ?l_need_depth ?c_need_depth ?k_need_depth ?a_counted_in ?l_counted_in ?c_counted_in ?k_counted_in ?a_lesser ?l_lesser ?c_lesser ?k_lesser ?a_left_behind ?l_left_behind ?c_left_behind ?k_left_behind ?a_left_in ?l_left_in ?c_left_in ?k_left_in ?a_counted_behind ?l_counted_behind ?c_counted_behind ?k_counted_behind ?a_left_row ?l_left_row ?c_left_row ?k_left_row ?a_law_cup ?l_law_cup ?c_law_cup ?k_law_cup ?a_law_roll ?l_law_roll ?c_law_roll ?k_law_roll ?a_law_some ?l_law_some ?c_law_some ?k_law_some ?a_law_parts ?l_law_parts ?c_law_parts ?k_law_parts ?a_law_certificate ?l_law_certificate ?c_law_certificate ?k_law_certificate ?a_law_drawn_chain ?l_law_drawn_chain ?c_law_drawn_chain ?k_law_drawn_chain ?a_law_depth ?l_law_depth ?c_law_depth ?k_law_depth ?a_law_counts ?l_law_counts ?c_law_counts ?k_law_counts ?a_law_all_depths ?l_law_all_depths ?c_law_all_depths ?k_law_all_depths ?a_law_error ?l_law_error ?c_law_error ?k_law_error ?a_law_whole ?l_law_whole ?c_law_whole ?k_law_whole ?a_law_left ?l_law_left ?c_law_left ?k_law_left ?a_law ?l_law ?c_law ?k_law ?g_LONGEST_values ?g_DEEP ?g_KEYS ?g_SERIALS ?g_TIMES ?g_DEPTH ?g_MANY_certificates ?g_LONGEST_chains ?g_NONE ?g_PASSED ?g_SIGNS ?g_USES ?t_USES ?s_USES ?v_USES ?g_PURPOSES ?t_PURPOSES ?s_PURPOSES ?v_PURPOSES ?g_PARTS ?t_PARTS ?s_PARTS ?v_PARTS ?b_isinstance ?b_int ?b_bool ?b_str ?b_tuple ?b_list ?b_len ?b_all ?b_zip ?b_range ?b_dict ?b_abs ?b_max ?b_min ?b_sorted ?b_enumerate ?g_ChainError ?ex_ChainError ?kp_ChainError ?sb_ChainError ?is_ChainError ?ty_ChainError ?g_InvalidNumber ?ex_InvalidNumber ?kp_InvalidNumber ?sb_InvalidNumber ?is_InvalidNumber ?ty_InvalidNumber ?g_InvalidCertificate ?ex_InvalidCertificate ?kp_InvalidCertificate ?sb_InvalidCertificate ?is_InvalidCertificate ?ty_InvalidCertificate ?g_InvalidChain ?ex_InvalidChain ?kp_InvalidChain ?sb_InvalidChain ?is_InvalidChain ?ty_InvalidChain ?g_InvalidUses ?ex_InvalidUses ?kp_InvalidUses ?sb_InvalidUses ?is_InvalidUses ?ty_InvalidUses ?g_InvalidPurposes ?ex_InvalidPurposes ?kp_InvalidPurposes ?sb_InvalidPurposes ?is_InvalidPurposes ?ty_InvalidPurposes ?g_InvalidTimes ?ex_InvalidTimes ?kp_InvalidTimes ?sb_InvalidTimes ?is_InvalidTimes ?ty_InvalidTimes ?g_InvalidLimits ?ex_InvalidLimits ?kp_InvalidLimits ?sb_InvalidLimits ?is_InvalidLimits ?ty_InvalidLimits ?x_InvalidChain_ChainError ?x_InvalidNumber_ChainError ?x_InvalidChain_InvalidNumber ?x_InvalidNumber_self ?x_InvalidChain_InvalidCertificate ?x_InvalidNumber_InvalidCertificate ?x_InvalidChain_self ?x_InvalidNumber_InvalidChain ?x_InvalidChain_InvalidUses ?x_InvalidNumber_InvalidUses ?x_InvalidChain_InvalidPurposes ?x_InvalidNumber_InvalidPurposes ?x_InvalidChain_InvalidTimes ?x_InvalidNumber_InvalidTimes ?x_InvalidChain_InvalidLimits ?x_InvalidNumber_InvalidLimits ?cP ?cV ?cH ?cN ?cT
    (case a_is_whole => k_is)
    (case l_is_whole => k_is)
    (case c_is_whole => k_is)
    (case k_is_whole => k_is)
    (case a_is_truth => k_is)
    (case l_is_truth => k_is)
    (case c_is_truth => k_is)
    (case k_is_truth => k_is)
    (case a_is_tuple_of => k_is)
    (case l_is_tuple_of => k_is)
    (case c_is_tuple_of => k_is)
    (case k_is_tuple_of => k_is)
    (case a_fits_word => k_is)
    (case l_fits_word => k_is)
    (case c_fits_word => k_is)
    (case k_fits_word => k_is)
    (case a_fits_words => k_is)
    (case l_fits_words => k_is)
    (case c_fits_words => k_is)
    (case k_fits_words => k_is)
    (case a_is_ascending => k_is)
    (case l_is_ascending => k_is)
    (case c_is_ascending => k_is)
    (case k_is_ascending => k_is)
    (case a_fits_lot => k_is)
    (case l_fits_lot => k_is)
    (case c_fits_lot => k_is)
    (case k_fits_lot => k_is)
    (case a_fits_name => k_is)
    (case l_fits_name => k_is)
    (case c_fits_name => k_is)
    (case k_fits_name => k_is)
    (case a_fits_value => k_is)
    (case l_fits_value => k_is)
    (case c_fits_value => k_is)
    (case k_fits_value => k_is)
    (case a_fits_parts => k_is)
    (case l_fits_parts => k_is)
    (case c_fits_parts => k_is)
    (case k_fits_parts => k_is)
    (case a_fits_certificate => k_is)
    (case l_fits_certificate => k_is)
    (case c_fits_certificate => k_is)
    (case k_fits_certificate => k_is)
    (case a_part_in => k_is)
    (case l_part_in => k_is)
    (case c_part_in => k_is)
    (case k_part_in => k_is)
    (case a_fits_chain => k_is)
    (case l_fits_chain => k_is)
    (case c_fits_chain => k_is)
    (case k_fits_chain => k_is)
    (case a_is_own_issuer => k_is)
    (case l_is_own_issuer => k_is)
    (case c_is_own_issuer => k_is)
    (case k_is_own_issuer => k_is)
    (case a_depth_in => k_is)
    (case l_depth_in => k_is)
    (case c_depth_in => k_is)
    (case k_depth_in => k_is)
    (case a_need_chain => k_is)
    (case l_need_chain => k_is)
    (case c_need_chain => k_is)
    (case k_need_chain => k_is)
    (case a_need_depth => k_is)
    (case l_need_depth => k_is)
    (case c_need_depth => k_is)
    (case k_need_depth => k_is)
    (case a_counted_in => k_is)
    (case l_counted_in => k_is)
    (case c_counted_in => k_is)
    (case k_counted_in => k_is)
    (case a_lesser => k_is)
    (case l_lesser => k_is)
    (case c_lesser => k_is)
    (case k_lesser => k_is)
    (case a_left_behind => k_is)
    (case l_left_behind => k_is)
    (case c_left_behind => k_is)
    (case k_left_behind => k_is)
    (case a_left_in => k_is)
    (case l_left_in => k_is)
    (case c_left_in => k_is)
    (case k_left_in => k_is)
    (case a_counted_behind => k_is)
    (case l_counted_behind => k_is)
    (case c_counted_behind => k_is)
    (case k_counted_behind => k_is)
    (case a_left_row => k_is)
    (case l_left_row => k_is)
    (case c_left_row => k_is)
    (case k_left_row => k_is)
    (case a_law_cup => k_is)
    (case l_law_cup => k_is)
    (case c_law_cup => k_is)
    (case k_law_cup => k_is)
    (case a_law_roll => k_is)
    (case l_law_roll => k_is)
    (case c_law_roll => k_is)
    (case k_law_roll => k_is)
    (case a_law_some => k_is)
    (case l_law_some => k_is)
    (case c_law_some => k_is)
    (case k_law_some => k_is)
    (case a_law_parts => k_is)
    (case l_law_parts => k_is)
    (case c_law_parts => k_is)
    (case k_law_parts => k_is)
    (case a_law_certificate => k_is)
    (case l_law_certificate => k_is)
    (case c_law_certificate => k_is)
    (case k_law_certificate => k_is)
    (case a_law_drawn_chain => k_is)
    (case l_law_drawn_chain => k_is)
    (case c_law_drawn_chain => k_is)
    (case k_law_drawn_chain => k_is)
    (case a_law_depth => k_is)
    (case l_law_depth => k_is)
    (case c_law_depth => k_is)
    (case k_law_depth => k_is)
    (case a_law_counts => k_is)
    (case l_law_counts => k_is)
    (case c_law_counts => k_is)
    (case k_law_counts => k_is)
    (case a_law_all_depths => k_is)
    (case l_law_all_depths => k_is)
    (case c_law_all_depths => k_is)
    (case k_law_all_depths => k_is)
    (case a_law_error => k_is)
    (case l_law_error => k_is)
    (case c_law_error => k_is)
    (case k_law_error => k_is)
    (case a_law_whole => k_is)
    (case l_law_whole => k_is)
    (case c_law_whole => k_is)
    (case k_law_whole => k_is)
    (case a_law_left => k_is)
    (case l_law_left => k_is)
    (case c_law_left => k_is)
    (case k_law_left => k_is)
    (case a_law => k_is)
    (case l_law => k_is)
    (case c_law => k_is)
    (case k_law => k_is)
    (case g_LONGEST_values => k_is)
    (case g_DEEP => k_is)
    (case g_KEYS => k_is)
    (case g_SERIALS => k_is)
    (case g_TIMES => k_is)
    (case g_DEPTH => k_is)
    (case g_MANY_certificates => k_is)
    (case g_LONGEST_chains => k_is)
    (case g_NONE => k_is)
    (case g_PASSED => k_is)
    (case g_SIGNS => k_is)
    (case g_USES => k_is)
    (case t_USES => k_is)
    (case s_USES => decide)
    (case v_USES => first | rfl | decide +kernel)
    (case g_PURPOSES => k_is)
    (case t_PURPOSES => k_is)
    (case s_PURPOSES => decide)
    (case v_PURPOSES => first | rfl | decide +kernel)
    (case g_PARTS => k_is)
    (case t_PARTS => k_is)
    (case s_PARTS => decide)
    (case v_PARTS => first | rfl | decide +kernel)
    (case b_isinstance => k_is)
    (case b_int => k_is)
    (case b_bool => k_is)
    (case b_str => k_is)
    (case b_tuple => k_is)
    (case b_list => k_is)
    (case b_len => k_is)
    (case b_all => k_is)
    (case b_zip => k_is)
    (case b_range => k_is)
    (case b_dict => k_is)
    (case b_abs => k_is)
    (case b_max => k_is)
    (case b_min => k_is)
    (case b_sorted => k_is)
    (case b_enumerate => k_is)
    (case g_ChainError => k_is)
    (case ex_ChainError => k_exc)
    (case kp_ChainError => k_is)
    (case sb_ChainError => k_is)
    (case is_ChainError => k_is)
    (case ty_ChainError => k_is)
    (case g_InvalidNumber => k_is)
    (case ex_InvalidNumber => k_exc)
    (case kp_InvalidNumber => k_is)
    (case sb_InvalidNumber => k_is)
    (case is_InvalidNumber => k_is)
    (case ty_InvalidNumber => k_is)
    (case g_InvalidCertificate => k_is)
    (case ex_InvalidCertificate => k_exc)
    (case kp_InvalidCertificate => k_is)
    (case sb_InvalidCertificate => k_is)
    (case is_InvalidCertificate => k_is)
    (case ty_InvalidCertificate => k_is)
    (case g_InvalidChain => k_is)
    (case ex_InvalidChain => k_exc)
    (case kp_InvalidChain => k_is)
    (case sb_InvalidChain => k_is)
    (case is_InvalidChain => k_is)
    (case ty_InvalidChain => k_is)
    (case g_InvalidUses => k_is)
    (case ex_InvalidUses => k_exc)
    (case kp_InvalidUses => k_is)
    (case sb_InvalidUses => k_is)
    (case is_InvalidUses => k_is)
    (case ty_InvalidUses => k_is)
    (case g_InvalidPurposes => k_is)
    (case ex_InvalidPurposes => k_exc)
    (case kp_InvalidPurposes => k_is)
    (case sb_InvalidPurposes => k_is)
    (case is_InvalidPurposes => k_is)
    (case ty_InvalidPurposes => k_is)
    (case g_InvalidTimes => k_is)
    (case ex_InvalidTimes => k_exc)
    (case kp_InvalidTimes => k_is)
    (case sb_InvalidTimes => k_is)
    (case is_InvalidTimes => k_is)
    (case ty_InvalidTimes => k_is)
    (case g_InvalidLimits => k_is)
    (case ex_InvalidLimits => k_exc)
    (case kp_InvalidLimits => k_is)
    (case sb_InvalidLimits => k_is)
    (case is_InvalidLimits => k_is)
    (case ty_InvalidLimits => k_is)
    (case x_InvalidChain_ChainError => first | k_is | rfl)
    (case x_InvalidNumber_ChainError => first | k_is | rfl)
    (case x_InvalidChain_InvalidNumber => first | k_is | rfl)
    (case x_InvalidNumber_self => first | k_is | rfl)
    (case x_InvalidChain_InvalidCertificate => first | k_is | rfl)
    (case x_InvalidNumber_InvalidCertificate => first | k_is | rfl)
    (case x_InvalidChain_self => first | k_is | rfl)
    (case x_InvalidNumber_InvalidChain => first | k_is | rfl)
    (case x_InvalidChain_InvalidUses => first | k_is | rfl)
    (case x_InvalidNumber_InvalidUses => first | k_is | rfl)
    (case x_InvalidChain_InvalidPurposes => first | k_is | rfl)
    (case x_InvalidNumber_InvalidPurposes => first | k_is | rfl)
    (case x_InvalidChain_InvalidTimes => first | k_is | rfl)
    (case x_InvalidNumber_InvalidTimes => first | k_is | rfl)
    (case x_InvalidChain_InvalidLimits => first | k_is | rfl)
    (case x_InvalidNumber_InvalidLimits => first | k_is | rfl)
    (case cP => k_is)
    (case cV => rfl)
    (case cH => first | rfl | decide +kernel)
    (case cN => exact DL.km_none_of Y (by decide +kernel))
    (case cT => exact PySem.W.km_tabs_of Y _ (.head _))
