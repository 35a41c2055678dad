import PyProof.Rows.All
import Wide.All
import OpenK.AllK
import Wide.FinOn
import HandS.ForMost
import HandS.Zip
import HandS.IsInst
import HandS.TupAny
import HandS.TupMul
import HandS.Flow
import HandS.Walk
import HandS.Conv
import HandS.Small
import HandS.Style
import HandS.ForExc
import HandS.Sort
import HandS.SortInts
import KE.GoesEnum
import KE.GoesZip
import KE.GoesMore
import HandS.DictTup
import KE.SortData
import HandS.WordsExc
import HandS.TryOnly
import HandS.SetFor
import HandS.Strs
import KE.SortKeyHeap
import HandS.Lambda
import HandS.SortKw
import HandS.EndTab
import PySem.Challenge.RW_manrods_k86_whole_sums_that_rows_tell
set_option Elab.async false
set_option linter.all false
set_option autoImplicit false
set_option maxRecDepth 100000
set_option maxHeartbeats 4000000
namespace KX
open PySem PySem.Spec PyProof.Rows L2

/-! ## heaps -/
def msk (O : List Addr) (H : Hp) : Hp := fun b => if b ∈ O then none else H b
section
variable {O : List Addr} {H H' : Hp} {a b : Addr} {o : HO}
theorem msk_out (h : b ∉ O) : msk O H b = H b := if_neg h
theorem msk_in (h : b ∈ O) : msk O H b = none := if_pos h
theorem msk_same : Same (msk O H) H := fun b o e => by
  by_cases h : b ∈ O
  · rw [msk_in h] at e; cases e
  · rw [msk_out h] at e; exact e
theorem same_msk (s : Same H H') : Same (msk O H) (msk O H') := fun b o e => by
  by_cases h : b ∈ O
  · rw [msk_in h] at e; cases e
  · rw [msk_out h] at e ⊢; exact s b o e
theorem msk_nil : msk [] H = H := by
  funext b
  exact msk_out (by simp)
theorem msk_upd (h : a ∈ O) : msk O (upd H a o) = msk O H := by
  funext b
  by_cases hb : b ∈ O
  · rw [msk_in hb, msk_in hb]
  · rw [msk_out hb, msk_out hb, upd_ne (fun (e : b = a) => hb (by rw [e]; exact h))]
theorem same_new (h : H a = none) : Same H (upd H a o) := fun b u e => by
  rw [upd_ne (ne_of_none e h)]; exact e
theorem same_rd {u : HO} (s : Same H H') (h : Rd H a u) : Rd H' a u := by
  rcases h with h | ⟨o, h⟩
  · exact .inl (s _ _ h)
  · exact .inr ⟨o, s _ _ h⟩
theorem same_t {K : PySem.W.Frag} {xs : List V} (s : Same H H') (h : SqT K H a xs) : SqT K H' a xs := by
  rcases h with h | h
  · exact .inl (same_rd s h)
  · exact .inr h
theorem same_l {K : PySem.W.Frag} {xs : List V} (s : Same H H') (h : SqL K H a xs) : SqL K H' a xs := by
  rcases h with h | h
  · exact .inl (same_rd s h)
  · exact .inr h
end

/-! ## data -/
section
variable {K : PySem.W.Frag} {H H' : Hp}
mutual
theorem dp_mono (s : Same H H') : ∀ (d : PyData) (v : V), Dp K H v d → Dp K H' v d
  | .none, _, h => by cases h; exact .non
  | .bool b, _, h => by cases h; exact .bl b
  | .int i, _, h => by cases h; exact .int i
  | .str x, _, h => by cases h; exact .str x
  | .list ds, _, h => by
    cases h with
    | lst hs ha => exact .lst (same_l s hs) (dp_monos s ds _ ha)
  | .tuple ds, _, h => by
    cases h with
    | tup hs ha => exact .tup (same_t s hs) (dp_monos s ds _ ha)
  | .dict _, _, h => by cases h
theorem dp_monos (s : Same H H') : ∀ (ds : List PyData) (vs : List V), DpAll K H vs ds → DpAll K H' vs ds
  | [], _, h => by cases h; exact .nil
  | d :: ds, _, h => by
    cases h with
    | cons h1 h2 => exact .cons (dp_mono s d _ h1) (dp_monos s ds _ h2)
end
theorem dpa_len {vs : List V} {ds : List PyData} (h : DpAll K H vs ds) : vs.length = ds.length := by
  induction ds generalizing vs with
  | nil => cases h; rfl
  | cons d ds ih =>
    cases h with
    | cons h1 h2 => simp [ih h2]
theorem dpa_get {vs : List V} {ds : List PyData} (h : DpAll K H vs ds) {i : Nat} {d : PyData} (e : ds[i]? = some d) : ∃ v, vs[i]? = some v ∧ Dp K H v d := by
  induction ds generalizing vs i with
  | nil => simp at e
  | cons d0 ds ih =>
    cases h with
    | cons h1 h2 =>
      cases i with
      | zero => simp at e; subst e; exact ⟨_, rfl, h1⟩
      | succ i =>
        obtain ⟨v, q, r⟩ := ih h2 (by simpa using e)
        exact ⟨v, by simpa using q, r⟩
theorem dpa_back {vs : List V} {ds : List PyData} (h : DpAll K H vs ds) {i : Nat} {v : V} (e : vs[i]? = some v) : ∃ d, ds[i]? = some d ∧ Dp K H v d := by
  have hl := dpa_len h
  have hi : i < ds.length := by
    rw [← hl]
    exact (List.getElem?_eq_some_iff.mp e).1
  obtain ⟨w, q, r⟩ := dpa_get h (List.getElem?_eq_getElem hi)
  rw [e] at q
  cases q
  exact ⟨_, List.getElem?_eq_getElem hi, r⟩
theorem dpa_app {vs ws : List V} {ds es : List PyData} (h : DpAll K H vs ds) (g : DpAll K H ws es) : DpAll K H (vs ++ ws) (ds ++ es) := by
  induction ds generalizing vs with
  | nil => cases h; exact g
  | cons d ds ih =>
    cases h with
    | cons h1 h2 => exact .cons h1 (ih h2)
theorem dpa_take {vs : List V} {ds : List PyData} (h : DpAll K H vs ds) (n : Nat) : DpAll K H (vs.take n) (ds.take n) := by
  induction ds generalizing vs n with
  | nil => cases h; simp; exact .nil
  | cons d ds ih =>
    cases h with
    | cons h1 h2 =>
      cases n with
      | zero => simp; exact .nil
      | succ n => simp; exact .cons h1 (ih h2 n)
theorem dpa_drop {vs : List V} {ds : List PyData} (h : DpAll K H vs ds) (n : Nat) : DpAll K H (vs.drop n) (ds.drop n) := by
  induction ds generalizing vs n with
  | nil => cases h; simp; exact .nil
  | cons d ds ih =>
    cases h with
    | cons h1 h2 =>
      cases n with
      | zero => simp; exact .cons h1 h2
      | succ n => simp; exact ih h2 n
theorem dpa_set {vs : List V} {ds : List PyData} (h : DpAll K H vs ds) (i : Nat) {v : V} {d : PyData} (g : Dp K H v d) : DpAll K H (vs.set i v) (ds.set i d) := by
  induction ds generalizing vs i with
  | nil => cases h; exact .nil
  | cons d0 ds ih =>
    cases h with
    | cons h1 h2 =>
      cases i with
      | zero => exact .cons g h2
      | succ i => exact .cons h1 (ih h2 i)
theorem dpa_ints : ∀ (ns : List Int), DpAll K H (ns.map V.int) (ns.map PyData.int)
  | [] => .nil
  | n :: ns => .cons (.int n) (dpa_ints ns)
theorem dpa_ints_inv : ∀ {ns : List Int} {vs : List V}, DpAll K H vs (ns.map PyData.int) → vs = ns.map V.int
  | [], _, h => by cases h; rfl
  | n :: ns, _, h => by
    cases h with
    | cons h1 h2 =>
      cases h1
      rw [dpa_ints_inv h2]; rfl
theorem dpa_bools_inv : ∀ {ns : List Bool} {vs : List V}, DpAll K H vs (ns.map PyData.bool) → vs = ns.map V.bl
  | [], _, h => by cases h; rfl
  | n :: ns, _, h => by
    cases h with
    | cons h1 h2 =>
      cases h1
      rw [dpa_bools_inv h2]; rfl
theorem dpa_rep {v : V} {d : PyData} (g : Dp K H v d) : ∀ n : Nat, DpAll K H (List.replicate n v) (List.replicate n d)
  | 0 => .nil
  | n + 1 => .cons g (dpa_rep g n)
end
/-! ## states -/
inductive Sh where
  | d (x : PyData)
  | v (x : V)
abbrev Ls := List (Option Sh)
inductive Ct where
  | l (ds : List PyData)
  | k (kvs : List (Int × PyData))
  /-- another's object: it stays as it is -/
  | x (o : HO)
abbrev Ms := List (Addr × Ct)
abbrev adr (M : Ms) : List Addr := M.map Prod.fst
def ShOk (K : PySem.W.Frag) (H : Hp) (v : V) : Sh → Prop
  | .d x => Dp K H v x
  | .v y => v = y
def CtOk (K : PySem.W.Frag) (H : Hp) (o : Option HO) : Ct → Prop
  | .l ds => ∃ xs, o = some (.lst xs) ∧ xs.length ≤ 1000 ∧ DpAll K H xs ds
  | .k kvs => ∃ ys, o = some (.dK ys) ∧ ys.length ≤ 1000 ∧ Paired (fun (p : Key × V) (q : Int × PyData) => p.1 = Sum.inl q.1 ∧ Dp K H p.2 q.2) ys kvs
  | .x u => o = some u
structure Sta (K : PySem.W.Frag) (B : Hp) (M : Ms) (L : Ls) (σ : L2.St) (H : Hp) : Prop where
  len : σ.length = L.length
  loc : ∀ (i : Nat) (s : Sh), L[i]? = some (some s) → ∃ v, σ[i]? = some (some v) ∧ ShOk K (msk (adr M) H) v s
  nd : (adr M).Nodup
  own : ∀ q ∈ M, CtOk K (msk (adr M) H) (H q.1) q.2
  ex : Same B H
  fr : ∀ q ∈ M, B q.1 = none
section
variable {K : PySem.W.Frag} {B H H' : Hp} {M M' : Ms} {L : Ls} {σ : L2.St}
theorem sh_mono {v : V} {s : Sh} (e : Same H H') (h : ShOk K H v s) : ShOk K H' v s := by
  cases s with
  | d x => exact dp_mono e _ _ h
  | v y => exact h
theorem ct_mono {o : Option HO} {c : Ct} (e : Same H H') (h : CtOk K H o c) : CtOk K H' o c := by
  cases c with
  | l ds => obtain ⟨xs, a, z, b⟩ := h; exact ⟨xs, a, z, dp_monos e _ _ b⟩
  | k kvs => obtain ⟨ys, a, z, b⟩ := h; exact ⟨ys, a, z, Paired.mapP b fun p q r => ⟨r.1, dp_mono e _ _ r.2⟩⟩
  | x u => exact h
theorem ct_some {o : Option HO} {c : Ct} (h : CtOk K H o c) : ∃ u, o = some u := by
  cases c with
  | l ds => obtain ⟨xs, a, _, b⟩ := h; exact ⟨_, a⟩
  | k kvs => obtain ⟨ys, a, _, b⟩ := h; exact ⟨_, a⟩
  | x u => exact ⟨_, h⟩
theorem Sta.same (S : Sta K B M L σ H) (e : Same H H') : Sta K B M L σ H' :=
  ⟨S.len, fun i s h => let ⟨v, a, b⟩ := S.loc i s h; ⟨v, a, sh_mono (same_msk e) b⟩, S.nd, fun q hq => by
    have c := S.own q hq
    obtain ⟨u, hu⟩ := ct_some c
    rw [e _ _ hu, ← hu]
    exact ct_mono (same_msk e) c, Same.trans S.ex e, S.fr⟩
theorem Sta.out (S : Sta K B M L σ H) {p : Addr} (h : H p = none) : p ∉ adr M := fun hm => by
  obtain ⟨q, hq, rfl⟩ := List.mem_map.mp hm
  obtain ⟨u, hu⟩ := ct_some (S.own q hq)
  rw [h] at hu
  cases hu
/-- a slot is set -/
theorem Sta.set (S : Sta K B M L σ H) {i : Nat} {v : V} {s : Sh} (h : ShOk K (msk (adr M) H) v s) : Sta K B M (L.set i (some s)) (σ.set i (some v)) H := by
  refine ⟨by rw [List.length_set, List.length_set, S.len], fun j t e => ?_, S.nd, S.own, S.ex, S.fr⟩
  by_cases hj : i = j
  · subst hj
    have hi : i < L.length := by
      have := (List.getElem?_eq_some_iff.mp e).1
      rw [List.length_set] at this
      exact this
    rw [List.getElem?_set_self hi] at e
    cases e
    exact ⟨v, by rw [List.getElem?_set_self (by rw [S.len]; exact hi)], h⟩
  · rw [List.getElem?_set_ne hj] at e ⊢
    exact S.loc j t e
/-- a slot is forgotten in what is known -/
theorem Sta.forget (S : Sta K B M L σ H) (i : Nat) : Sta K B M (L.set i none) σ H := by
  refine ⟨by rw [List.length_set, S.len], fun j t e => ?_, S.nd, S.own, S.ex, S.fr⟩
  by_cases hj : i = j
  · subst hj
    have hi : i < L.length := by
      have := (List.getElem?_eq_some_iff.mp e).1
      rw [List.length_set] at this
      exact this
    rw [List.getElem?_set_self hi] at e
    cases e
  · rw [List.getElem?_set_ne hj] at e
    exact S.loc j t e
def wipeL (L : Ls) : List Nat → Ls
  | [] => L
  | v :: vs => (wipeL L vs).set v none
theorem Sta.wipe (S : Sta K B M L σ H) (vs : List Nat) : Sta K B M (wipeL L vs) (wipe σ vs) H := by
  induction vs with
  | nil => exact S
  | cons v vs ih =>
    refine ⟨by unfold wipeL L2.wipe; rw [List.length_set, List.length_set, ih.len], fun j t e => ?_, S.nd, S.own, S.ex, S.fr⟩
    unfold wipeL at e
    unfold L2.wipe
    by_cases hj : v = j
    · subst hj
      have hi : v < (wipeL L vs).length := by
        have := (List.getElem?_eq_some_iff.mp e).1
        rw [List.length_set] at this
        exact this
      rw [List.getElem?_set_self hi] at e
      cases e
    · rw [List.getElem?_set_ne hj] at e ⊢
      exact ih.loc j t e
end

/-! ## judgements -/
/-- e gives the data d (known apart from one's own objects), the heap only grows -/
def tP (K : PySem.W.Frag) (B : Hp) (M : Ms) (L : Ls) (d : PyData) : TE := fun σ H Q => Sta K B M L σ H ∧ ∀ v H2, Same H H2 → Dp K (msk (adr M) H2) v d → Q v H2
def tPs (K : PySem.W.Frag) (B : Hp) (M : Ms) (L : Ls) (ds : List PyData) : TA := fun σ H Q => Sta K B M L σ H ∧ ∀ vs H2, Same H H2 → DpAll K (msk (adr M) H2) vs ds → Q vs H2
def tPb (K : PySem.W.Frag) (B : Hp) (M : Ms) (L : Ls) (b : Bool) : TT := fun σ H Q => Sta K B M L σ H ∧ ∀ H2, Same H H2 → Q b H2
/-- e gives a new list or dict (whose items know nothing of it) -/
def tPf (K : PySem.W.Frag) (B : Hp) (M : Ms) (L : Ls) (c : Ct) : TE := fun σ H Q => Sta K B M L σ H ∧ ∀ p H2, H p = none → Same H (msk [p] H2) → CtOk K (msk (p :: adr M) H2) (H2 p) c → Q (.ref p) H2
def ED (X : Cx) (B : Hp) (M : Ms) (L : Ls) (e : Expr) (d : PyData) : Prop := PE X e (tP X.K B M L d)
def EA (X : Cx) (B : Hp) (M : Ms) (L : Ls) (es : List Expr) (ds : List PyData) : Prop := PA X es (tPs X.K B M L ds)
def EB (X : Cx) (B : Hp) (M : Ms) (L : Ls) (e : Expr) (b : Bool) : Prop := PT X e (tPb X.K B M L b)
def EW (X : Cx) (B : Hp) (M : Ms) (L : Ls) (e : Expr) (b : Bool) : Prop := PW X e (tPb X.K B M L b)
def EF (X : Cx) (B : Hp) (M : Ms) (L : Ls) (e : Expr) (c : Ct) : Prop := PE X e (tPf X.K B M L c)

section
variable {X : Cx} {e : Expr}
theorem pe_imp {t t' : TE} (h : PE X e t) (k : ∀ σ H Q, t' σ H Q → t σ H Q) : PE X e t' := ⟨fun pins s σ H Q I q => h.run pins s σ H Q I (k _ _ _ q)⟩
theorem pa_imp {es : List Expr} {t t' : TA} (h : PA X es t) (k : ∀ σ H Q, t' σ H Q → t σ H Q) : PA X es t' := ⟨fun pos pins s σ H Q I q => h.run pos pins s σ H Q I (k _ _ _ q)⟩
theorem pt_imp {t t' : TT} (h : PT X e t) (k : ∀ σ H Q, t' σ H Q → t σ H Q) : PT X e t' := ⟨fun pins s σ H Q I q => h.run pins s σ H Q I (k _ _ _ q)⟩
theorem pw_imp {t t' : TT} (h : PW X e t) (k : ∀ σ H Q, t' σ H Q → t σ H Q) : PW X e t' := ⟨fun wh pins s σ H Q I q => h.run wh pins s σ H Q I (k _ _ _ q)⟩
end
section
variable {X : Cx} {B : Hp} {M : Ms} {L : Ls} {a b c e : Expr} {es : List Expr} {d da db : PyData} {ds : List PyData} {i j : Int} {pos : Pos} {p q : Bool}

/-! ### names, constants -/
theorem ed_name (i : Nat) {x : Str} (hL : L[i]? = some (some (.d d))) (hN : X.N[i]? = some x := by rfl) (hv : Vis X.env.scope x := by first | exact Or.inl rfl | exact Or.inr (Or.inl rfl) | exact Or.inr (Or.inr rfl))
    (hd : (x == ("__debug__" : Str)) = false := by decide) (hcd : (x == ("__classdict__" : Str)) = false := by decide) : ED X B M L (.Name x pos) d :=
  pe_imp (pe_var hN hv hd hcd) fun σ H Q ⟨S, k⟩ => let ⟨v, h1, h2⟩ := S.loc i _ hL; ⟨v, h1, k v H (Same.refl H) h2⟩
theorem ed_int {k : Nat} : ED X B M L (.Constant (.int i) k pos) (.int i) := pe_imp pe_int fun σ H Q ⟨_, k⟩ => k _ H (Same.refl H) (.int i)
theorem ed_bool {k : Nat} : ED X B M L (.Constant (.bool p) k pos) (.bool p) := pe_imp pe_bl fun σ H Q ⟨_, k⟩ => k _ H (Same.refl H) (.bl p)
theorem ed_none {k : Nat} : ED X B M L (.Constant .none k pos) .none := pe_imp pe_non fun σ H Q ⟨_, k⟩ => k _ H (Same.refl H) .non
theorem ed_str {x : Str} {k : Nat} : ED X B M L (.Constant (.str x) k pos) (.str x) := pe_imp pe_str fun σ H Q ⟨_, k⟩ => k _ H (Same.refl H) (.str x)
theorem ed_glob {x : Str} {t : Tok} (hm : X.mg x = some (.int i t)) (hg : Gl X x := by rfl) (hd : (x == ("__debug__" : Str)) = false := by decide) : ED X B M L (.Name x pos) (.int i) :=
  pe_imp (pe_glob (v := .int i) hg hm ⟨t, rfl⟩ hd) fun σ H Q ⟨_, k⟩ => k _ H (Same.refl H) (.int i)

/-! ### operators -/
theorem ed_op2 {op : Operator} {r : R2} (ho : OpR X (binaryOp op) r) (ha : ED X B M L a da) (hb : ED X B M L b db)
    (h : ∀ σ x y H Q, Sta X.K B M L σ H → Dp X.K (msk (adr M) H) x da → Dp X.K (msk (adr M) H) y db → (∀ v H2, Same H H2 → Dp X.K (msk (adr M) H2) v d → Q v H2) → r x y H Q) : ED X B M L (.BinOp a op b pos) d :=
  pe_imp (pe_op ho ha hb) fun σ H Q ⟨S, k⟩ => ⟨S, fun x H1 s1 g1 => ⟨S.same s1, fun y H2 s2 g2 => h σ x y H2 Q (S.same (s1.trans s2)) (dp_mono (same_msk s2) _ _ g1) g2 fun v H3 s3 g3 => k v H3 ((s1.trans s2).trans s3) g3⟩⟩
theorem ed_add (ha : ED X B M L a (.int i)) (hb : ED X B M L b (.int j)) : ED X B M L (.BinOp a .Add b pos) (.int (i + j)) :=
  ed_op2 op_add ha hb fun σ x y H Q _ g1 g2 k => by cases g1; cases g2; exact ⟨i, j, rfl, rfl, k _ H (Same.refl H) (.int _)⟩
theorem ed_sub (ha : ED X B M L a (.int i)) (hb : ED X B M L b (.int j)) : ED X B M L (.BinOp a .Sub b pos) (.int (i - j)) :=
  ed_op2 op_sub ha hb fun σ x y H Q _ g1 g2 k => by cases g1; cases g2; exact ⟨i, j, rfl, rfl, k _ H (Same.refl H) (.int _)⟩
theorem ed_mul (hc : CMul i j) (ha : ED X B M L a (.int i)) (hb : ED X B M L b (.int j)) : ED X B M L (.BinOp a .Mult b pos) (.int (i * j)) :=
  ed_op2 op_mul ha hb fun σ x y H Q _ g1 g2 k => by cases g1; cases g2; exact ⟨i, j, rfl, rfl, hc, k _ H (Same.refl H) (.int _)⟩
theorem ed_mod (hc : 0 < j) (ha : ED X B M L a (.int i)) (hb : ED X B M L b (.int j)) : ED X B M L (.BinOp a .Mod b pos) (.int (i % j)) :=
  ed_op2 op_mod ha hb fun σ x y H Q _ g1 g2 k => by cases g1; cases g2; exact ⟨i, j, rfl, rfl, hc, k _ H (Same.refl H) (.int _)⟩
theorem ed_fdiv (hc : CDiv i j) (ha : ED X B M L a (.int i)) (hb : ED X B M L b (.int j)) : ED X B M L (.BinOp a .FloorDiv b pos) (.int (i / j)) :=
  ed_op2 op_fdiv ha hb fun σ x y H Q _ g1 g2 k => by cases g1; cases g2; exact ⟨i, j, rfl, rfl, hc, k _ H (Same.refl H) (.int _)⟩
theorem ed_pow (hc : CPow i j) (ha : ED X B M L a (.int i)) (hb : ED X B M L b (.int j)) : ED X B M L (.BinOp a .Pow b pos) (.int (i ^ j.toNat)) :=
  ed_op2 op_pow ha hb fun σ x y H Q _ g1 g2 k => by cases g1; cases g2; exact ⟨i, j, rfl, rfl, hc, k _ H (Same.refl H) (.int _)⟩
theorem ed_neg (ha : ED X B M L a (.int i)) : ED X B M L (.UnaryOp .USub a pos) (.int (-i)) :=
  pe_imp (pe_un un_neg ha) fun σ H Q ⟨S, k⟩ => ⟨S, fun x H1 s1 g1 => by cases g1; exact ⟨i, rfl, k _ H1 s1 (.int _)⟩⟩

/-! ### comparisons -/
theorem ed_cmp2 {op : CmpOp} {r : R2} (ho : OpR X (compareOp op) r) (ha : ED X B M L a da) (hb : ED X B M L b db)
    (h : ∀ σ x y H Q, Sta X.K B M L σ H → Dp X.K (msk (adr M) H) x da → Dp X.K (msk (adr M) H) y db → Q (.bl p) H → r x y H Q) (hm : behindInMarks op b = false) : ED X B M L (.Compare a [op] [b] pos) (.bool p) :=
  pe_imp (pe_cmpR ho ha hb hm) fun σ H Q ⟨S, k⟩ => ⟨S, fun x H1 s1 g1 => ⟨S.same s1, fun y H2 s2 g2 => h σ x y H2 Q (S.same (s1.trans s2)) (dp_mono (same_msk s2) _ _ g1) g2 (k _ H2 (s1.trans s2) (.bl p))⟩⟩
theorem eb_cmp2 {op : CmpOp} {r : R2} (ho : OpR X (compareOp op) r) (ha : ED X B M L a da) (hb : ED X B M L b db)
    (h : ∀ σ x y H Q, Sta X.K B M L σ H → Dp X.K (msk (adr M) H) x da → Dp X.K (msk (adr M) H) y db → Q (.bl p) H → r x y H Q) (hm : behindInMarks op b = false) : EB X B M L (.Compare a [op] [b] pos) p :=
  pt_imp (pt_cmpR ho ha hb hm) fun σ H Q ⟨S, k⟩ => ⟨S, fun x H1 s1 g1 => ⟨S.same s1, fun y H2 s2 g2 => h σ x y H2 _ (S.same (s1.trans s2)) (dp_mono (same_msk s2) _ _ g1) g2 ⟨p, rfl, k H2 (s1.trans s2)⟩⟩⟩
end
end KX
namespace KX
open PySem PySem.Spec PyProof.Rows L2
section
variable {X : Cx} {B : Hp} {M : Ms} {L : Ls} {a b c e : Expr} {es : List Expr} {d da db dc : PyData} {ds : List PyData} {i j : Int} {pos : Pos} {p q : Bool}

/-! ### comparisons of ints -/
theorem eb_lt (hp : decide (i < j) = p) (ha : ED X B M L a (.int i)) (hb : ED X B M L b (.int j)) : EB X B M L (.Compare a [.Lt] [b] pos) p :=
  eb_cmp2 op_lt ha hb (fun σ x y H Q _ g1 g2 k => by cases g1; cases g2; exact ⟨i, j, rfl, rfl, by dsimp only; rw [hp]; exact k⟩) (nomark _)
theorem eb_le (hp : decide (i ≤ j) = p) (ha : ED X B M L a (.int i)) (hb : ED X B M L b (.int j)) : EB X B M L (.Compare a [.LtE] [b] pos) p :=
  eb_cmp2 op_le ha hb (fun σ x y H Q _ g1 g2 k => by cases g1; cases g2; exact ⟨i, j, rfl, rfl, by dsimp only; rw [hp]; exact k⟩) (nomark _)
theorem eb_gt (hp : decide (j < i) = p) (ha : ED X B M L a (.int i)) (hb : ED X B M L b (.int j)) : EB X B M L (.Compare a [.Gt] [b] pos) p :=
  eb_cmp2 op_gt ha hb (fun σ x y H Q _ g1 g2 k => by cases g1; cases g2; exact ⟨i, j, rfl, rfl, by dsimp only; rw [hp]; exact k⟩) (nomark _)
theorem eb_ge (hp : decide (j ≤ i) = p) (ha : ED X B M L a (.int i)) (hb : ED X B M L b (.int j)) : EB X B M L (.Compare a [.GtE] [b] pos) p :=
  eb_cmp2 op_ge ha hb (fun σ x y H Q _ g1 g2 k => by cases g1; cases g2; exact ⟨i, j, rfl, rfl, by dsimp only; rw [hp]; exact k⟩) (nomark _)
theorem eb_eq (hp : decide (i = j) = p) (ha : ED X B M L a (.int i)) (hb : ED X B M L b (.int j)) : EB X B M L (.Compare a [.Eq] [b] pos) p :=
  eb_cmp2 op_eq ha hb (fun σ x y H Q _ g1 g2 k => by
    cases g1; cases g2
    refine ⟨rfl, ?_⟩
    rw [show decide (V.int i = V.int j) = p by rw [← hp, decide_eq_decide]; simp]
    exact k) (nomark _)
theorem eb_ne (hp : decide (i = j) = !p) (ha : ED X B M L a (.int i)) (hb : ED X B M L b (.int j)) : EB X B M L (.Compare a [.NotEq] [b] pos) p :=
  eb_cmp2 op_ne ha hb (fun σ x y H Q _ g1 g2 k => by
    cases g1; cases g2
    refine ⟨rfl, ?_⟩
    rw [show (!decide (V.int i = V.int j)) = p by rw [show decide (V.int i = V.int j) = decide (i = j) by rw [decide_eq_decide]; simp, hp, Bool.not_not]]
    exact k) (nomark _)
theorem ed_gt (hp : decide (j < i) = p) (ha : ED X B M L a (.int i)) (hb : ED X B M L b (.int j)) : ED X B M L (.Compare a [.Gt] [b] pos) (.bool p) :=
  ed_cmp2 op_gt ha hb (fun σ x y H Q _ g1 g2 k => by cases g1; cases g2; exact ⟨i, j, rfl, rfl, by dsimp only; rw [hp]; exact k⟩) (nomark _)
theorem ed_ge (hp : decide (j ≤ i) = p) (ha : ED X B M L a (.int i)) (hb : ED X B M L b (.int j)) : ED X B M L (.Compare a [.GtE] [b] pos) (.bool p) :=
  ed_cmp2 op_ge ha hb (fun σ x y H Q _ g1 g2 k => by cases g1; cases g2; exact ⟨i, j, rfl, rfl, by dsimp only; rw [hp]; exact k⟩) (nomark _)
theorem ed_eq (hp : decide (i = j) = p) (ha : ED X B M L a (.int i)) (hb : ED X B M L b (.int j)) : ED X B M L (.Compare a [.Eq] [b] pos) (.bool p) :=
  ed_cmp2 op_eq ha hb (fun σ x y H Q _ g1 g2 k => by
    cases g1; cases g2
    refine ⟨rfl, ?_⟩
    rw [show decide (V.int i = V.int j) = p by rw [← hp, decide_eq_decide]; simp]
    exact k) (nomark _)
theorem ed_eqB {p' q' : Bool} (hp : (p' == q') = p) (ha : ED X B M L a (.bool p')) (hb : ED X B M L b (.bool q')) : ED X B M L (.Compare a [.Eq] [b] pos) (.bool p) :=
  ed_cmp2 op_eq ha hb (fun σ x y H Q _ g1 g2 k => by
    cases g1; cases g2
    refine ⟨rfl, ?_⟩
    rw [show decide (V.bl p' = V.bl q') = p by rw [← hp]; exact dec_bl]
    exact k) (nomark _)
theorem eb_neB {p' q' : Bool} (hp : (p' == q') = !p) (ha : ED X B M L a (.bool p')) (hb : ED X B M L b (.bool q')) : EB X B M L (.Compare a [.NotEq] [b] pos) p :=
  eb_cmp2 op_ne ha hb (fun σ x y H Q _ g1 g2 k => by
    cases g1; cases g2
    refine ⟨rfl, ?_⟩
    rw [show (!decide (V.bl p' = V.bl q')) = p by rw [dec_bl, hp, Bool.not_not]]
    exact k) (nomark _)
/-- == and != of data at any depth -/
theorem eb_neD (hu : X.A.units + 64 < cLine) (hp : PyData.eqv da db = !p) (sa : SeqAt.shaped da = true) (sb : SeqAt.shaped db = true) (ha : ED X B M L a da) (hb : ED X B M L b db) : EB X B M L (.Compare a [.NotEq] [b] pos) p :=
  eb_cmp2 (op_neD hu) ha hb (fun σ x y H Q _ g1 g2 k => ⟨da, db, dp_mono msk_same _ _ g1, dp_mono msk_same _ _ g2, sa, sb, by rw [hp, Bool.not_not]; exact k⟩) (nomark _)
theorem eb_eqD (hu : X.A.units + 64 < cLine) (hp : PyData.eqv da db = p) (sa : SeqAt.shaped da = true) (sb : SeqAt.shaped db = true) (ha : ED X B M L a da) (hb : ED X B M L b db) : EB X B M L (.Compare a [.Eq] [b] pos) p :=
  eb_cmp2 (op_eqD hu) ha hb (fun σ x y H Q _ g1 g2 k => ⟨da, db, dp_mono msk_same _ _ g1, dp_mono msk_same _ _ g2, sa, sb, by rw [hp]; exact k⟩) (nomark _)
theorem ed_eqD (hu : X.A.units + 64 < cLine) (hp : PyData.eqv da db = p) (sa : SeqAt.shaped da = true) (sb : SeqAt.shaped db = true) (ha : ED X B M L a da) (hb : ED X B M L b db) : ED X B M L (.Compare a [.Eq] [b] pos) (.bool p) :=
  ed_cmp2 (op_eqD hu) ha hb (fun σ x y H Q _ g1 g2 k => ⟨da, db, dp_mono msk_same _ _ g1, dp_mono msk_same _ _ g2, sa, sb, by rw [hp]; exact k⟩) (nomark _)
def isNn : PyData → Bool
  | .none => true
  | _ => false
theorem dp_isn {K : PySem.W.Frag} {H : Hp} {v : V} (h : Dp K H v d) : decide (v = .non) = isNn d := by
  cases h <;> simp [isNn]
theorem ed_isN (hp : isNn d = p) {k : Nat} {pos' : Pos} (ha : ED X B M L a d) : ED X B M L (.Compare a [.Is] [.Constant .none k pos'] pos) (.bool p) :=
  pe_imp (pe_cmp (pc_isN ha) rfl) fun σ H Q ⟨S, k⟩ => ⟨S, fun x H1 s1 g1 => by dsimp only; rw [dp_isn g1, hp]; exact k _ H1 s1 (.bl p)⟩
theorem eb_isN (hp : isNn d = p) {k : Nat} {pos' : Pos} (ha : ED X B M L a d) : EB X B M L (.Compare a [.Is] [.Constant .none k pos'] pos) p :=
  pt_imp (pt_cmp (pc_isN ha) rfl) fun σ H Q ⟨S, k⟩ => ⟨S, fun x H1 s1 g1 => by dsimp only; rw [dp_isn g1, hp]; exact ⟨p, rfl, k H1 s1⟩⟩
theorem eb_notN (hp : isNn d = !p) {k : Nat} {pos' : Pos} (ha : ED X B M L a d) : EB X B M L (.Compare a [.IsNot] [.Constant .none k pos'] pos) p :=
  pt_imp (pt_cmp (pc_notN ha) rfl) fun σ H Q ⟨S, k⟩ => ⟨S, fun x H1 s1 g1 => by dsimp only; rw [dp_isn g1, hp, Bool.not_not]; exact ⟨p, rfl, k H1 s1⟩⟩
/-- x not in () -/
theorem eb_notIn0 (hb : ED X B M L b (.tuple [])) (ha : ED X B M L a (.int i)) (hm : behindInMarks .NotIn b = false := by rfl) : EB X B M L (.Compare a [.NotIn] [b] pos) true :=
  eb_cmp2 op_notIn_seq ha hb (fun σ x y H Q _ g1 g2 k => by
    cases g1
    cases g2 with
    | tup hs hd =>
      cases hd
      exact ⟨_, _, rfl, .inr (same_t msk_same hs), rfl, rfl, k⟩) hm

/-! ### tests -/
theorem eb_val (h : ED X B M L e (.bool p)) (he : ∀ whole, isTrue e X.env whole = (do let v ← whole; standAt e.pos; holding [v] (truthy v)) := by intro _; rfl) : EB X B M L e p :=
  pt_imp (pt_val h he) fun σ H Q ⟨S, k⟩ => ⟨S, fun x H1 s1 g1 => by cases g1; exact ⟨p, rfl, k H1 s1⟩⟩
theorem eb_not (h : EB X B M L e p) : EB X B M L (.UnaryOp .Not e pos) (!p) :=
  pt_imp (pt_not h) fun σ H Q ⟨S, k⟩ => ⟨S, fun H2 s => k H2 s⟩
theorem eb_not' (hp : (!p) = q) (h : EB X B M L e p) : EB X B M L (.UnaryOp .Not e pos) q := hp ▸ eb_not h
theorem ew_and1 (h : EB X B M L a p) : EW X B M L (.BoolOp .And [a] pos) p := pw_and1 h
theorem ew_or1 (h : EB X B M L a p) : EW X B M L (.BoolOp .Or [a] pos) p := pw_or1 h
variable {rest : List Expr}
theorem ew_andT (h : EB X B M L a true) (g : EW X B M L (.BoolOp .And (b :: rest) pos) p) : EW X B M L (.BoolOp .And (a :: b :: rest) pos) p :=
  pw_imp (pw_and h g) fun σ H Q ⟨S, k⟩ => ⟨S, fun H1 s1 => iteT ⟨S.same s1, fun H2 s2 => k H2 (s1.trans s2)⟩⟩
/-- the rest isn't asked -/
theorem pw_andF {tA : TT} (ha : PT X a tA) : PW X (.BoolOp .And (a :: b :: rest) pos) (fun σ H Q => tA σ H fun c H1 => c = false ∧ Q false H1) := by
  refine ⟨fun wh pins s σ H Q I h => ?_⟩
  refine isTrue_and (thn (ha.run pins s σ H _ I h) fun c s1 ⟨H1, I1, e, q1⟩ => ?_)
  subst e
  exact ⟨H1, I1, q1⟩
theorem pw_orT {tA : TT} (ha : PT X a tA) : PW X (.BoolOp .Or (a :: b :: rest) pos) (fun σ H Q => tA σ H fun c H1 => c = true ∧ Q true H1) := by
  refine ⟨fun wh pins s σ H Q I h => ?_⟩
  refine isTrue_or (thn (ha.run pins s σ H _ I h) fun c s1 ⟨H1, I1, e, q1⟩ => ?_)
  subst e
  exact ⟨H1, I1, q1⟩
theorem ew_andF (h : EB X B M L a false) : EW X B M L (.BoolOp .And (a :: b :: rest) pos) false :=
  pw_imp (pw_andF h) fun σ H Q ⟨S, k⟩ => ⟨S, fun H1 s1 => ⟨rfl, k H1 s1⟩⟩
theorem ew_orT (h : EB X B M L a true) : EW X B M L (.BoolOp .Or (a :: b :: rest) pos) true :=
  pw_imp (pw_orT h) fun σ H Q ⟨S, k⟩ => ⟨S, fun H1 s1 => ⟨rfl, k H1 s1⟩⟩
theorem ew_orF (h : EB X B M L a false) (g : EW X B M L (.BoolOp .Or (b :: rest) pos) p) : EW X B M L (.BoolOp .Or (a :: b :: rest) pos) p :=
  pw_imp (pw_or h g) fun σ H Q ⟨S, k⟩ => ⟨S, fun H1 s1 => iteF ⟨S.same s1, fun H2 s2 => k H2 (s1.trans s2)⟩⟩
theorem eb_w (h : EW X B M L e p) : EB X B M L e p := h.pt
/-- and, or, not as values (bools) -/
theorem pe_andF {ta : TE} (ha : PE X a ta) : PE X (.BoolOp .And (a :: b :: rest) pos) (fun σ H Q => ta σ H fun x H1 => x = .bl false ∧ Q (.bl false) H1) := by
  refine ⟨fun pins s σ H Q I h => ?_⟩
  refine BoolOp_and (thn (ha.run pins s σ H _ I h) fun v s1 ⟨x, H1, I1, r1, e, q1⟩ => ?_)
  subst e
  cases r1
  exact wpAny_truthy_bool ⟨.bl false, H1, I1, rfl, q1⟩
theorem ed_one {op : BoolOp} (h : ED X B M L a d) : ED X B M L (.BoolOp op [a] pos) d := pe_one h
theorem ed_andT (h : ED X B M L a (.bool true)) (g : ED X B M L (.BoolOp .And (b :: rest) pos) d) : ED X B M L (.BoolOp .And (a :: b :: rest) pos) d :=
  pe_imp (pe_and h g) fun σ H Q ⟨S, k⟩ => ⟨S, fun x H1 s1 g1 => by cases g1; exact ⟨true, rfl, iteT ⟨S.same s1, fun v H2 s2 g2 => k v H2 (s1.trans s2) g2⟩⟩⟩
theorem ed_not (h : ED X B M L a (.bool p)) : ED X B M L (.UnaryOp .Not a pos) (.bool (!p)) :=
  pe_imp (pe_not h) fun σ H Q ⟨S, k⟩ => ⟨S, fun x H1 s1 g1 => by cases g1; exact ⟨p, rfl, k _ H1 s1 (.bl _)⟩⟩
theorem ed_notF (h : ED X B M L a (.bool false)) : ED X B M L (.UnaryOp .Not a pos) (.bool true) := ed_not h
/-- a if t else b -/
theorem pe_ifT {tA : TT} {ta : TE} (hc : PT X c tA) (ha : PE X a ta) : PE X (.IfExp c a b pos) (fun σ H Q => tA σ H fun d H1 => d = true ∧ ta σ H1 Q) := by
  refine ⟨fun pins s σ H Q I h => ?_⟩
  refine wpAny_IfExp (thn (hc.run pins s σ H _ I h) fun d s1 ⟨H1, I1, e, q1⟩ => ?_)
  subst e
  exact ha.run pins s1 σ H1 Q I1 q1
theorem pe_ifF {tA : TT} {ta : TE} (hc : PT X c tA) (ha : PE X b ta) : PE X (.IfExp c a b pos) (fun σ H Q => tA σ H fun d H1 => d = false ∧ ta σ H1 Q) := by
  refine ⟨fun pins s σ H Q I h => ?_⟩
  refine wpAny_IfExp (thn (hc.run pins s σ H _ I h) fun d s1 ⟨H1, I1, e, q1⟩ => ?_)
  subst e
  exact ha.run pins s1 σ H1 Q I1 q1
theorem ed_ifT (hc : EB X B M L c true) (ha : ED X B M L a d) : ED X B M L (.IfExp c a b pos) d :=
  pe_imp (pe_ifT hc ha) fun σ H Q ⟨S, k⟩ => ⟨S, fun H1 s1 => ⟨rfl, S.same s1, fun v H2 s2 g2 => k v H2 (s1.trans s2) g2⟩⟩
theorem ed_ifF (hc : EB X B M L c false) (ha : ED X B M L b d) : ED X B M L (.IfExp c a b pos) d :=
  pe_imp (pe_ifF hc ha) fun σ H Q ⟨S, k⟩ => ⟨S, fun H1 s1 => ⟨rfl, S.same s1, fun v H2 s2 g2 => k v H2 (s1.trans s2) g2⟩⟩

/-! ### new objects -/
theorem fresh_t {σ : L2.St} {H : Hp} {l : Addr} {xs : List V} (S : Sta X.K B M L σ H) (hl : H l = none) (h : DpAll X.K (msk (adr M) H) xs ds) : Dp X.K (msk (adr M) (upd H l (.tup xs))) (.ref l) (.tuple ds) :=
  .tup (SqT.of (by rw [msk_out (S.out hl)]; exact upd_same)) (dp_monos (same_msk (same_new hl)) _ _ h)
theorem fresh_l {σ : L2.St} {H : Hp} {l : Addr} {xs : List V} (S : Sta X.K B M L σ H) (hl : H l = none) (h : DpAll X.K (msk (adr M) H) xs ds) : Dp X.K (msk (adr M) (upd H l (.lst xs))) (.ref l) (.list ds) :=
  .lst (SqL.of (by rw [msk_out (S.out hl)]; exact upd_same)) (dp_monos (same_msk (same_new hl)) _ _ h)
theorem msk_cons (p : Addr) (O : List Addr) (H : Hp) : msk (p :: O) H = msk O (msk [p] H) := by
  funext b
  by_cases h1 : b ∈ O
  · rw [msk_in (by simp [h1]), msk_in h1]
  · rw [msk_out h1]
    by_cases h2 : b = p
    · subst h2
      rw [msk_in (by simp), msk_in (by simp)]
    · rw [msk_out (by simp [h1, h2]), msk_out (by simp [h2])]
/-- what a fresh object must satisfy -/
theorem fresh_msk {H H1 : Hp} {p : Addr} {o : HO} (s : Same H H1) (h : H1 p = none) : Same H (msk [p] (upd H1 p o)) := by
  rw [msk_upd (by simp)]
  intro b u hb
  have : b ≠ p := fun q => by
    rw [q] at hb
    rw [s _ _ hb] at h
    cases h
  rw [msk_out (by simpa using this)]
  exact s _ _ hb
theorem fresh_in {H1 : Hp} {p : Addr} {o : HO} (h : H1 p = none) : Same H1 (msk [p] (upd H1 p o)) := fresh_msk (Same.refl _) h
theorem fresh_c {σ : L2.St} {H : Hp} {l : Addr} {xs : List V} (hl : H l = none) (hz : ds.length ≤ 1000) (h : DpAll X.K (msk (adr M) H) xs ds) : CtOk X.K (msk (l :: adr M) (upd H l (.lst xs))) ((upd H l (.lst xs)) l) (.l ds) :=
  ⟨xs, upd_same, by rw [dpa_len h]; exact hz, by rw [msk_cons]; exact dp_monos (same_msk (fresh_in hl)) _ _ h⟩
theorem back_none {H H1 : Hp} {p : Addr} (s : Same H H1) (h : H1 p = none) : H p = none := by
  cases hq : H p with
  | none => rfl
  | some u => rw [s _ _ hq] at h; cases h
/-! ### places and slices -/
theorem dp_tup {K : PySem.W.Frag} {H : Hp} {v : V} (h : Dp K H v (.tuple ds)) : ∃ a xs, v = .ref a ∧ SqT K H a xs ∧ DpAll K H xs ds := by
  cases h with
  | tup h1 h2 => exact ⟨_, _, rfl, h1, h2⟩
theorem dp_lst {K : PySem.W.Frag} {H : Hp} {v : V} (h : Dp K H v (.list ds)) : ∃ a xs, v = .ref a ∧ SqL K H a xs ∧ DpAll K H xs ds := by
  cases h with
  | lst h1 h2 => exact ⟨_, _, rfl, h1, h2⟩
theorem at_dpa {K : PySem.W.Frag} {H : Hp} {xs : List V} (h : DpAll K H xs ds) (e : atI ds i = some d) : ∃ v, atI xs i = some v ∧ Dp K H v d := by
  unfold atI at e ⊢
  rw [dpa_len h]
  cases q : ixN ds.length i with
  | none => rw [q] at e; cases e
  | some k =>
    rw [q] at e
    exact dpa_get h e
theorem ed_ixT (hi : atI ds i = some d) (ha : ED X B M L a (.tuple ds)) (hb : ED X B M L b (.int i)) (hs : PlainIx b := by exact fun _ _ => rfl) : ED X B M L (.Subscript a b pos) d :=
  pe_imp (pe_ix ix_tup ha hb hs) fun σ H Q ⟨S, k⟩ => ⟨S, fun x H1 s1 g1 => ⟨S.same s1, fun y H2 s2 g2 => by
    obtain ⟨p, xs, rfl, h1, h2⟩ := dp_tup (dp_mono (same_msk s2) _ _ g1)
    obtain ⟨v, h3, h4⟩ := at_dpa h2 hi
    cases g2
    exact ⟨p, xs, i, v, rfl, rfl, same_t msk_same h1, h3, k v H2 (s1.trans s2) h4⟩⟩⟩
theorem ed_ixL (hi : atI ds i = some d) (ha : ED X B M L a (.list ds)) (hb : ED X B M L b (.int i)) (hs : PlainIx b := by exact fun _ _ => rfl) : ED X B M L (.Subscript a b pos) d :=
  pe_imp (pe_ix ix_list ha hb hs) fun σ H Q ⟨S, k⟩ => ⟨S, fun x H1 s1 g1 => ⟨S.same s1, fun y H2 s2 g2 => by
    obtain ⟨p, xs, rfl, h1, h2⟩ := dp_lst (dp_mono (same_msk s2) _ _ g1)
    obtain ⟨v, h3, h4⟩ := at_dpa h2 hi
    cases g2
    exact ⟨p, xs, i, v, rfl, rfl, same_l msk_same h1, h3, k v H2 (s1.trans s2) h4⟩⟩⟩
def tPo (K : PySem.W.Frag) (B : Hp) (M : Ms) (L : Ls) (o : Option Int) : TO := fun σ H Q => Sta K B M L σ H ∧ ∀ H2, Same H H2 → Q o H2
def EO (X : Cx) (B : Hp) (M : Ms) (L : Ls) (e : Option Expr) (o : Option Int) : Prop := PO X e (tPo X.K B M L o)
theorem po_imp {e : Option Expr} {t t' : TO} (h : PO X e t) (k : ∀ σ H Q, t' σ H Q → t σ H Q) : PO X e t' := ⟨fun pins s σ H Q I q => h.run pins s σ H Q I (k _ _ _ q)⟩
theorem eo_none : EO X B M L none none := po_imp po_none fun σ H Q ⟨S, k⟩ => k H (Same.refl H)
theorem eo_some (h : ED X B M L e (.int i)) : EO X B M L (some e) (some i) := po_imp (po_some h) fun σ H Q ⟨S, k⟩ => ⟨S, fun v H2 s g => by cases g; exact ⟨i, rfl, k H2 s⟩⟩
def cutD (ds : List PyData) (lo hi : Option Int) : List PyData := (ds.drop (HT.sIx ds.length 0 lo)).take (HT.sIx ds.length ds.length hi - HT.sIx ds.length 0 lo)
theorem dpa_cut {K : PySem.W.Frag} {H : Hp} {xs : List V} (h : DpAll K H xs ds) (lo hi : Option Int) : DpAll K H (cutV xs lo hi) (cutD ds lo hi) := by
  unfold cutV cutD
  rw [dpa_len h]
  exact dpa_take (dpa_drop h _) _
theorem cutD_whole (lo hi : Option Int) (h1 : HT.sIx ds.length 0 lo = 0) (h2 : HT.sIx ds.length ds.length hi = ds.length) : cutD ds lo hi = ds := by
  unfold cutD
  rw [h1, h2]
  simp
variable {l u : Option Expr} {lo hi : Option Int} {p2 : Pos}
theorem ed_cutT (ha : ED X B M L a (.tuple ds)) (hl : EO X B M L l lo) (hu : EO X B M L u hi) : ED X B M L (.Subscript a (.Slice l u none p2) pos) (.tuple (cutD ds lo hi)) :=
  pe_imp (pe_slice sl_tupA ha hl hu) fun σ H Q ⟨S, k⟩ => ⟨S, fun x H1 s1 g1 => ⟨S.same s1, fun H2 s2 => ⟨S.same (s1.trans s2), fun H3 s3 => by
    obtain ⟨p, xs, rfl, h1, h2⟩ := dp_tup (dp_mono (same_msk (s2.trans s3)) _ _ g1)
    refine ⟨p, xs, rfl, same_t msk_same h1, fun hw => ?_, fun hw l hl => ?_⟩
    · rw [dpa_len h2] at hw
      rw [cutD_whole lo hi hw.1 hw.2] at k
      exact k _ H3 ((s1.trans s2).trans s3) (.tup h1 h2)
    · have sn : Same H3 (upd H3 l (.tup (cutV xs lo hi))) := same_new hl
      exact k _ _ (((s1.trans s2).trans s3).trans sn) (fresh_t (S.same ((s1.trans s2).trans s3)) hl (dpa_cut h2 lo hi))⟩⟩⟩

/-! ### argument lists, displays -/
theorem ea_nil : EA X B M L [] [] := pa_imp pa_nil fun σ H Q ⟨S, k⟩ => k [] H (Same.refl H) .nil
theorem ea_cons (ha : ED X B M L e d) (hr : EA X B M L es ds) (hs : starEach (e :: es) X.env = (false, eval e X.env) :: starEach es X.env := by rfl) : EA X B M L (e :: es) (d :: ds) :=
  pa_imp (pa_cons ha hr hs) fun σ H Q ⟨S, k⟩ => ⟨S, fun x H1 s1 g1 => ⟨S.same s1, fun xs H2 s2 g2 => k _ H2 (s1.trans s2) (.cons (dp_mono (same_msk s2) _ _ g1) g2)⟩⟩
theorem sz1000 {n : Nat} (h : n ≤ 1000) : n ≤ sizeLine := Nat.le_of_lt (small1000 h)
theorem ed_tup {x1 : Nat} (h : EA X B M L es ds) (hz : ds.length ≤ 1000 := by simp) : ED X B M L (.Tuple es x1 pos) (.tuple ds) :=
  pe_imp (pe_tup h) fun σ H Q ⟨S, k⟩ => ⟨S, fun vs H1 s1 g1 => ⟨by rw [dpa_len g1]; exact sz1000 hz, fun p hp => k _ _ (s1.trans (same_new hp)) (fresh_t (S.same s1) hp g1)⟩⟩
theorem ed_lst (h : EA X B M L es ds) (hz : ds.length ≤ 1000 := by simp) : ED X B M L (.List es pos) (.list ds) :=
  pe_imp (pe_lst h) fun σ H Q ⟨S, k⟩ => ⟨S, fun vs H1 s1 g1 => ⟨by rw [dpa_len g1]; exact sz1000 hz, fun p hp => k _ _ (s1.trans (same_new hp)) (fresh_l (S.same s1) hp g1)⟩⟩
theorem ef_lst (h : EA X B M L es ds) (hz : ds.length ≤ 1000 := by simp) : EF X B M L (.List es pos) (.l ds) :=
  pe_imp (pe_lst h) fun σ H Q ⟨S, k⟩ => ⟨S, fun vs H1 s1 g1 => ⟨by rw [dpa_len g1]; exact sz1000 hz, fun p hp => k p _ (back_none s1 hp) (fresh_msk s1 hp) (fresh_c (σ := σ) hp hz g1)⟩⟩
theorem ed_of_f (h : EF X B M L e (.l ds)) : ED X B M L e (.list ds) :=
  pe_imp h fun σ H Q ⟨S, k⟩ => ⟨S, fun p H2 hp s c => by
    obtain ⟨xs, e, z, g⟩ := c
    exact k _ H2 (s.trans msk_same) (.lst (SqL.of (by rw [msk_out (S.out hp)]; exact e)) (dp_monos (by rw [msk_cons]; exact same_msk msk_same) _ _ g))⟩

/-! ### calls -/
/-- a pure def's promise, by data: what it hands back knows nothing of the objects at O -/
def spD (K : PySem.W.Frag) (R : List PyData → PyData → Prop) : Sp := fun vs H Q _ => ∃ O ds d, (∀ b ∈ O, ∃ u, H b = some u) ∧ O.Nodup ∧ R ds d ∧ DpAll K (msk O H) vs ds ∧ ∀ v H', Same H H' → Dp K (msk O H') v d → Q v H'
structure Df (P : Program) (w : World) (K : PySem.W.Frag) (mg : Str → Option Value) (base : Heap) (CX : CXT) (k : Nat) (x : Str) (ps : List Str) (sp : Sp) : Prop where
  ex : ∃ f fd, mg x = some (.ref f) ∧ PySem.W.keepIn K (.ref f) = true ∧ Binds K fd ps [] ∧ FnOk P w K mg base CX k f fd ps sp
theorem Sta.has {K : PySem.W.Frag} {σ : L2.St} {H : Hp} (S : Sta K B M L σ H) : ∀ b ∈ adr M, ∃ u, H b = some u := fun b hb => by
  obtain ⟨q, hq, rfl⟩ := List.mem_map.mp hb
  exact ct_some (S.own q hq)
theorem ed_call {x : Str} {k : Nat} {ps : List Str} {R : List PyData → PyData → Prop} {px : Pos} (F : Df X.prog X.w X.K X.mg X.base CX0 k x ps (spD X.K R)) (hr : Room k X.A) (hR : R (d :: ds) dc) (ha : EA X B M L (e :: es) (d :: ds))
    (hg : Gl X x := by rfl) (hdb : (x == ("__debug__" : Str)) = false := by decide) (he : starEach (e :: es) X.env = (false, eval e X.env) :: starEach es X.env := by rfl) (hpl : (backTo pos (starEach es X.env)).any (·.1) = false := by rfl) :
    ED X B M L (.Call (.Name x px) (e :: es) [] pos) dc := by
  obtain ⟨f, fd, hm, hk, hb, F⟩ := F.ex
  exact pe_imp (pe_call F hr hg hm hk hb .nil pass0 ha hdb he hpl) fun σ H Q ⟨S, k⟩ => ⟨S, fun vs H1 s1 g1 => ⟨adr M, d :: ds, dc, (S.same s1).has, S.nd, hR, by rw [List.append_nil]; exact g1, fun v H2 s2 g2 => k v H2 (s1.trans s2) g2⟩⟩
theorem ed_call0 {x : Str} {k : Nat} {R : List PyData → PyData → Prop} {px : Pos} (F : Df X.prog X.w X.K X.mg X.base CX0 k x [] (spD X.K R)) (hr : Room k X.A) (hR : R [] dc)
    (hg : Gl X x := by rfl) (hdb : (x == ("__debug__" : Str)) = false := by decide) : ED X B M L (.Call (.Name x px) [] [] pos) dc := by
  obtain ⟨f, fd, hm, hk, hb, F⟩ := F.ex
  exact pe_imp (pe_call0 F hr hg hm hk hb .nil pass0 hdb) fun σ H Q ⟨S, k⟩ => ⟨adr M, [], dc, S.has, S.nd, hR, .nil, fun v H2 s2 g2 => k v H2 s2 g2⟩

/-! ### built-ins -/
theorem ed_callB {x : Str} {id : String} {r : List V → Hp → VK → Prop} {px : Pos} (hc : CallR X (.builtin id) r) (hm : X.mg x = none) (hv : bootBuiltins x = some (.builtin id)) (ha : EA X B M L (e :: es) ds)
    (h : ∀ σ vs H Q, Sta X.K B M L σ H → DpAll X.K (msk (adr M) H) vs ds → (∀ v H2, Same H H2 → Dp X.K (msk (adr M) H2) v d → Q v H2) → r vs H Q)
    (hg : Gl X x := by rfl) (hn : x ≠ "__name__" := by decide) (hdb : (x == ("__debug__" : Str)) = false := by decide) (he : starEach (e :: es) X.env = (false, eval e X.env) :: starEach es X.env := by rfl) (hpl : (backTo pos (starEach es X.env)).any (·.1) = false := by rfl) :
    ED X B M L (.Call (.Name x px) (e :: es) [] pos) d :=
  pe_imp (pe_callB hc hg hm hv ha hn hdb he hpl) fun σ H Q ⟨S, k⟩ => ⟨S, fun vs H1 s1 g1 => h σ vs H1 Q (S.same s1) g1 fun v H2 s2 g2 => k v H2 (s1.trans s2) g2⟩
theorem ed_callTy {x : Str} {id : String} {r : List V → Hp → VK → Prop} {px : Pos} (hc : CallR X (.type id) r) (hm : X.mg x = none) (hv : bootBuiltins x = some (.type id)) (ha : EA X B M L (e :: es) ds)
    (h : ∀ σ vs H Q, Sta X.K B M L σ H → DpAll X.K (msk (adr M) H) vs ds → (∀ v H2, Same H H2 → Dp X.K (msk (adr M) H2) v d → Q v H2) → r vs H Q)
    (hg : Gl X x := by rfl) (hn : x ≠ "__name__" := by decide) (hdb : (x == ("__debug__" : Str)) = false := by decide) (he : starEach (e :: es) X.env = (false, eval e X.env) :: starEach es X.env := by rfl) (hpl : (backTo pos (starEach es X.env)).any (·.1) = false := by rfl) :
    ED X B M L (.Call (.Name x px) (e :: es) [] pos) d :=
  pe_imp (pe_callTy hc hg hm hv ha hn hdb he hpl) fun σ H Q ⟨S, k⟩ => ⟨S, fun vs H1 s1 g1 => h σ vs H1 Q (S.same s1) g1 fun v H2 s2 g2 => k v H2 (s1.trans s2) g2⟩
theorem dpa1 {K : PySem.W.Frag} {H : Hp} {vs : List V} (h : DpAll K H vs [d]) : ∃ v, vs = [v] ∧ Dp K H v d := by
  cases h with
  | cons h1 h2 => cases h2; exact ⟨_, rfl, h1⟩
theorem dpa2 {K : PySem.W.Frag} {H : Hp} {vs : List V} (h : DpAll K H vs [d, da]) : ∃ v w, vs = [v, w] ∧ Dp K H v d ∧ Dp K H w da := by
  cases h with
  | cons h1 h2 =>
    obtain ⟨w, rfl, h3⟩ := dpa1 h2
    exact ⟨_, _, rfl, h1, h3⟩
variable {px : Pos}
theorem ed_lenT (hm : X.mg "len" = none) (ha : EA X B M L (e :: es) [.tuple ds])
    (hg : Gl X "len" := by rfl) (he : starEach (e :: es) X.env = (false, eval e X.env) :: starEach es X.env := by rfl) (hpl : (backTo pos (starEach es X.env)).any (·.1) = false := by rfl) : ED X B M L (.Call (.Name "len" px) (e :: es) [] pos) (.int ds.length) :=
  ed_callB call_len_seq hm PySem.boot_len ha (fun σ vs H Q _ g k => by
    obtain ⟨v, rfl, g'⟩ := dpa1 g
    obtain ⟨p, xs, rfl, h1, h2⟩ := dp_tup g'
    exact ⟨p, xs, rfl, .inr (same_t msk_same h1), by rw [dpa_len h2]; exact k _ H (Same.refl H) (.int _)⟩) hg (by decide) (by decide) he hpl
theorem ed_lenL (hm : X.mg "len" = none) (ha : EA X B M L (e :: es) [.list ds])
    (hg : Gl X "len" := by rfl) (he : starEach (e :: es) X.env = (false, eval e X.env) :: starEach es X.env := by rfl) (hpl : (backTo pos (starEach es X.env)).any (·.1) = false := by rfl) : ED X B M L (.Call (.Name "len" px) (e :: es) [] pos) (.int ds.length) :=
  ed_callB call_len_seq hm PySem.boot_len ha (fun σ vs H Q _ g k => by
    obtain ⟨v, rfl, g'⟩ := dpa1 g
    obtain ⟨p, xs, rfl, h1, h2⟩ := dp_lst g'
    exact ⟨p, xs, rfl, .inl (same_l msk_same h1), by rw [dpa_len h2]; exact k _ H (Same.refl H) (.int _)⟩) hg (by decide) (by decide) he hpl
theorem ed_max2 (hcalm : X.calm = true) (hm : X.mg "max" = none) (ha : EA X B M L (e :: es) [.int i, .int j])
    (hg : Gl X "max" := by rfl) (he : starEach (e :: es) X.env = (false, eval e X.env) :: starEach es X.env := by rfl) (hpl : (backTo pos (starEach es X.env)).any (·.1) = false := by rfl) :
    ED X B M L (.Call (.Name "max" px) (e :: es) [] pos) (.int (if j > i then j else i)) :=
  ed_callB (call_max2 hcalm) hm (by decide +kernel) ha (fun σ vs H Q _ g k => by
    obtain ⟨v, w, rfl, g1, g2⟩ := dpa2 g
    cases g1; cases g2
    exact ⟨i, j, rfl, k _ H (Same.refl H) (.int _)⟩) hg (by decide) (by decide) he hpl
theorem ed_min2 (hcalm : X.calm = true) (hm : X.mg "min" = none) (ha : EA X B M L (e :: es) [.int i, .int j])
    (hg : Gl X "min" := by rfl) (he : starEach (e :: es) X.env = (false, eval e X.env) :: starEach es X.env := by rfl) (hpl : (backTo pos (starEach es X.env)).any (·.1) = false := by rfl) :
    ED X B M L (.Call (.Name "min" px) (e :: es) [] pos) (.int (if j < i then j else i)) :=
  ed_callB (call_min2 hcalm) hm (by decide +kernel) ha (fun σ vs H Q _ g k => by
    obtain ⟨v, w, rfl, g1, g2⟩ := dpa2 g
    cases g1; cases g2
    exact ⟨i, j, rfl, k _ H (Same.refl H) (.int _)⟩) hg (by decide) (by decide) he hpl
theorem ed_abs (hm : X.mg "abs" = none) (ha : EA X B M L (e :: es) [.int i])
    (hg : Gl X "abs" := by rfl) (he : starEach (e :: es) X.env = (false, eval e X.env) :: starEach es X.env := by rfl) (hpl : (backTo pos (starEach es X.env)).any (·.1) = false := by rfl) :
    ED X B M L (.Call (.Name "abs" px) (e :: es) [] pos) (.int (if i < 0 then -i else i)) :=
  ed_callB call_abs hm (by decide +kernel) ha (fun σ vs H Q _ g k => by
    obtain ⟨v, rfl, g1⟩ := dpa1 g
    cases g1
    exact ⟨i, rfl, k _ H (Same.refl H) (.int _)⟩) hg (by decide) (by decide) he hpl
theorem ed_intI (hm : X.mg "int" = none) (ha : EA X B M L (e :: es) [.int i])
    (hg : Gl X "int" := by rfl) (he : starEach (e :: es) X.env = (false, eval e X.env) :: starEach es X.env := by rfl) (hpl : (backTo pos (starEach es X.env)).any (·.1) = false := by rfl) :
    ED X B M L (.Call (.Name "int" px) (e :: es) [] pos) (.int i) :=
  ed_callTy call_int1 hm (by decide +kernel) ha (fun σ vs H Q _ g k => by
    obtain ⟨v, rfl, g1⟩ := dpa1 g
    cases g1
    exact .inl ⟨i, rfl, k _ H (Same.refl H) (.int _)⟩) hg (by decide) (by decide) he hpl
theorem ed_intB (hm : X.mg "int" = none) (ha : EA X B M L (e :: es) [.bool p])
    (hg : Gl X "int" := by rfl) (he : starEach (e :: es) X.env = (false, eval e X.env) :: starEach es X.env := by rfl) (hpl : (backTo pos (starEach es X.env)).any (·.1) = false := by rfl) :
    ED X B M L (.Call (.Name "int" px) (e :: es) [] pos) (.int (if p then 1 else 0)) :=
  ed_callTy call_int1 hm (by decide +kernel) ha (fun σ vs H Q _ g k => by
    obtain ⟨v, rfl, g1⟩ := dpa1 g
    cases g1
    exact .inr ⟨p, rfl, k _ H (Same.refl H) (.int _)⟩) hg (by decide) (by decide) he hpl
/-- tuple(list), tuple(tuple) -/
theorem ed_tupL (hm : X.mg "tuple" = none) (ha : EA X B M L (e :: es) [.list ds])
    (hg : Gl X "tuple" := by rfl) (he : starEach (e :: es) X.env = (false, eval e X.env) :: starEach es X.env := by rfl) (hpl : (backTo pos (starEach es X.env)).any (·.1) = false := by rfl) :
    ED X B M L (.Call (.Name "tuple" px) (e :: es) [] pos) (.tuple ds) :=
  ed_callTy call_tuple_of hm (by decide +kernel) ha (fun σ vs H Q S g k => by
    obtain ⟨v, rfl, g1⟩ := dpa1 g
    obtain ⟨p, xs, rfl, h1, h2⟩ := dp_lst g1
    exact ⟨p, xs, rfl, .inl ⟨same_l msk_same h1, fun l hl => k _ _ (same_new hl) (fresh_t S hl h2)⟩⟩) hg (by decide) (by decide) he hpl
theorem ed_tupT (hm : X.mg "tuple" = none) (ha : EA X B M L (e :: es) [.tuple ds])
    (hg : Gl X "tuple" := by rfl) (he : starEach (e :: es) X.env = (false, eval e X.env) :: starEach es X.env := by rfl) (hpl : (backTo pos (starEach es X.env)).any (·.1) = false := by rfl) :
    ED X B M L (.Call (.Name "tuple" px) (e :: es) [] pos) (.tuple ds) :=
  ed_callTy call_tuple_of hm (by decide +kernel) ha (fun σ vs H Q _ g k => by
    obtain ⟨v, rfl, g1⟩ := dpa1 g
    obtain ⟨p, xs, rfl, h1, h2⟩ := dp_tup g1
    exact ⟨p, xs, rfl, .inr ⟨same_t msk_same h1, k _ H (Same.refl H) (.tup h1 h2)⟩⟩) hg (by decide) (by decide) he hpl
/-- list(list), list(tuple): a new list -/
theorem ef_callTy {x : Str} {id : String} {r : List V → Hp → VK → Prop} {ct : Ct} (hc : CallR X (.type id) r) (hm : X.mg x = none) (hv : bootBuiltins x = some (.type id)) (ha : EA X B M L (e :: es) ds)
    (h : ∀ σ vs H Q, Sta X.K B M L σ H → DpAll X.K (msk (adr M) H) vs ds → (∀ p H2, H p = none → Same H (msk [p] H2) → CtOk X.K (msk (p :: adr M) H2) (H2 p) ct → Q (.ref p) H2) → r vs H Q)
    (hg : Gl X x := by rfl) (hn : x ≠ "__name__" := by decide) (hdb : (x == ("__debug__" : Str)) = false := by decide) (he : starEach (e :: es) X.env = (false, eval e X.env) :: starEach es X.env := by rfl) (hpl : (backTo pos (starEach es X.env)).any (·.1) = false := by rfl) :
    EF X B M L (.Call (.Name x px) (e :: es) [] pos) ct :=
  pe_imp (pe_callTy hc hg hm hv ha hn hdb he hpl) fun σ H Q ⟨S, k⟩ => ⟨S, fun vs H1 s1 g1 => h σ vs H1 Q (S.same s1) g1 fun p H2 hp s2 c => k p H2 (back_none s1 hp) (s1.trans s2) c⟩
theorem ef_listL (hz : ds.length ≤ 1000) (hm : X.mg "list" = none) (ha : EA X B M L (e :: es) [.list ds])
    (hg : Gl X "list" := by rfl) (he : starEach (e :: es) X.env = (false, eval e X.env) :: starEach es X.env := by rfl) (hpl : (backTo pos (starEach es X.env)).any (·.1) = false := by rfl) :
    EF X B M L (.Call (.Name "list" px) (e :: es) [] pos) (.l ds) :=
  ef_callTy call_list_of hm (by decide +kernel) ha (fun σ vs H Q S g k => by
    obtain ⟨v, rfl, g1⟩ := dpa1 g
    obtain ⟨p, xs, rfl, h1, h2⟩ := dp_lst g1
    exact ⟨p, xs, rfl, .inl (same_l msk_same h1), fun l hl => k l _ hl (fresh_in hl) (fresh_c (σ := σ) hl hz h2)⟩) hg (by decide) (by decide) he hpl
theorem ef_listT (hz : ds.length ≤ 1000) (hm : X.mg "list" = none) (ha : EA X B M L (e :: es) [.tuple ds])
    (hg : Gl X "list" := by rfl) (he : starEach (e :: es) X.env = (false, eval e X.env) :: starEach es X.env := by rfl) (hpl : (backTo pos (starEach es X.env)).any (·.1) = false := by rfl) :
    EF X B M L (.Call (.Name "list" px) (e :: es) [] pos) (.l ds) :=
  ef_callTy call_list_of hm (by decide +kernel) ha (fun σ vs H Q S g k => by
    obtain ⟨v, rfl, g1⟩ := dpa1 g
    obtain ⟨p, xs, rfl, h1, h2⟩ := dp_tup g1
    exact ⟨p, xs, rfl, .inr (same_t msk_same h1), fun l hl => k l _ hl (fresh_in hl) (fresh_c (σ := σ) hl hz h2)⟩) hg (by decide) (by decide) he hpl
variable {l u : Option Expr} {lo hi : Option Int} {p2 : Pos}
theorem cutD_len (lo hi : Option Int) : (cutD ds lo hi).length ≤ ds.length := by
  unfold cutD
  rw [List.length_take, List.length_drop]
  omega
theorem ef_cutL (hz : ds.length ≤ 1000) (ha : ED X B M L a (.list ds)) (hl : EO X B M L l lo) (hu : EO X B M L u hi) : EF X B M L (.Subscript a (.Slice l u none p2) pos) (.l (cutD ds lo hi)) :=
  pe_imp (pe_slice sl_list ha hl hu) fun σ H Q ⟨S, k⟩ => ⟨S, fun x H1 s1 g1 => ⟨S.same s1, fun H2 s2 => ⟨S.same (s1.trans s2), fun H3 s3 => by
    obtain ⟨p, xs, rfl, h1, h2⟩ := dp_lst (dp_mono (same_msk (s2.trans s3)) _ _ g1)
    exact ⟨p, xs, rfl, same_l msk_same h1, fun l hl => k l _ (back_none ((s1.trans s2).trans s3) hl) (fresh_msk ((s1.trans s2).trans s3) hl) (fresh_c (σ := σ) hl (Nat.le_trans (cutD_len lo hi) hz) (dpa_cut h2 lo hi))⟩⟩⟩⟩
/-- sum, all, min, sorted of ints -/
theorem ed_sum {ns : List Int} (hcalm : X.calm = true) (hm : X.mg "sum" = none) (ha : EA X B M L (e :: es) [.list (ns.map PyData.int)])
    (hg : Gl X "sum" := by rfl) (he : starEach (e :: es) X.env = (false, eval e X.env) :: starEach es X.env := by rfl) (hpl : (backTo pos (starEach es X.env)).any (·.1) = false := by rfl) :
    ED X B M L (.Call (.Name "sum" px) (e :: es) [] pos) (.int ns.sum) :=
  ed_callB (cr_sum hcalm) hm (by decide +kernel) ha (fun σ vs H Q _ g k => by
    obtain ⟨v, rfl, g1⟩ := dpa1 g
    obtain ⟨p, xs, rfl, h1, h2⟩ := dp_lst g1
    have := dpa_ints_inv h2
    subst this
    exact ⟨p, ns, rfl, same_l msk_same h1, k _ H (Same.refl H) (.int _)⟩) hg (by decide) (by decide) he hpl
theorem ed_all {bs : List Bool} (hcalm : X.calm = true) (hm : X.mg "all" = none) (ha : EA X B M L (e :: es) [.list (bs.map PyData.bool)])
    (hg : Gl X "all" := by rfl) (he : starEach (e :: es) X.env = (false, eval e X.env) :: starEach es X.env := by rfl) (hpl : (backTo pos (starEach es X.env)).any (·.1) = false := by rfl) :
    ED X B M L (.Call (.Name "all" px) (e :: es) [] pos) (.bool (bs.all id)) :=
  ed_callB (cr_all hcalm) hm (by decide +kernel) ha (fun σ vs H Q _ g k => by
    obtain ⟨v, rfl, g1⟩ := dpa1 g
    obtain ⟨p, xs, rfl, h1, h2⟩ := dp_lst g1
    have := dpa_bools_inv h2
    subst this
    exact ⟨p, bs, rfl, same_l msk_same h1, k _ H (Same.refl H) (.bl _)⟩) hg (by decide) (by decide) he hpl
/-- the least of some ints -/
def minL : List Int → Int
  | [] => 0
  | a :: r => r.foldl min a
theorem minL_le : ∀ {ns : List Int} {n : Int}, n ∈ ns → minL ns ≤ n
  | a :: r, n, h => by
    have key : ∀ (r : List Int) (a : Int), r.foldl min a ≤ a ∧ ∀ n ∈ r, r.foldl min a ≤ n := by
      intro r
      induction r with
      | nil => intro a; exact ⟨Int.le_refl _, fun n h => by cases h⟩
      | cons b r ih =>
        intro a
        obtain ⟨h1, h2⟩ := ih (min a b)
        refine ⟨Int.le_trans h1 (Int.min_le_left _ _), fun n hn => ?_⟩
        rcases List.mem_cons.mp hn with rfl | hn
        · exact Int.le_trans h1 (Int.min_le_right _ _)
        · exact h2 n hn
    rcases List.mem_cons.mp h with rfl | h
    · exact (key r n).1
    · exact (key r a).2 n h
theorem minL_mem : ∀ {ns : List Int}, 0 < ns.length → minL ns ∈ ns
  | a :: r, _ => by
    have key : ∀ (r : List Int) (a : Int), r.foldl min a = a ∨ r.foldl min a ∈ r := by
      intro r
      induction r with
      | nil => intro a; exact .inl rfl
      | cons b r ih =>
        intro a
        rcases ih (min a b) with h | h
        · rcases Int.le_total a b with q | q
          · rw [Int.min_eq_left q] at h
            exact .inl (by show r.foldl min (min a b) = a; rw [Int.min_eq_left q]; exact h)
          · rw [Int.min_eq_right q] at h
            exact .inr (by show r.foldl min (min a b) ∈ _; rw [Int.min_eq_right q, h]; exact List.mem_cons_self)
        · exact .inr (List.mem_cons_of_mem _ h)
    rcases key r a with h | h
    · show r.foldl min a ∈ _
      rw [h]; exact List.mem_cons_self
    · exact List.mem_cons_of_mem _ h
theorem ed_min {ns : List Int} (hcalm : X.calm = true) (hz : 0 < ns.length) (hm : X.mg "min" = none) (ha : EA X B M L (e :: es) [.list (ns.map PyData.int)])
    (hg : Gl X "min" := by rfl) (he : starEach (e :: es) X.env = (false, eval e X.env) :: starEach es X.env := by rfl) (hpl : (backTo pos (starEach es X.env)).any (·.1) = false := by rfl) :
    ED X B M L (.Call (.Name "min" px) (e :: es) [] pos) (.int (minL ns)) :=
  ed_callB (cr_min hcalm) hm (by decide +kernel) ha (fun σ vs H Q _ g k => by
    obtain ⟨v, rfl, g1⟩ := dpa1 g
    obtain ⟨p, xs, rfl, h1, h2⟩ := dp_lst g1
    have := dpa_ints_inv h2
    subst this
    refine ⟨p, ns, rfl, same_l msk_same h1, hz, fun m hm hle => ?_⟩
    have e1 : m = minL ns := Int.le_antisymm (hle _ (minL_mem hz)) (minL_le hm)
    rw [e1]
    exact k _ H (Same.refl H) (.int _)) hg (by decide) (by decide) he hpl
/-- tuples: + and * -/
theorem ed_catT {ds es' : List PyData} (hz : ds.length + es'.length ≤ 1000) (ha : ED X B M L a (.tuple ds)) (hb : ED X B M L b (.tuple es')) : ED X B M L (.BinOp a .Add b pos) (.tuple (ds ++ es')) :=
  ed_op2 op_catA ha hb fun σ x y H Q S g1 g2 k => by
    obtain ⟨p, xs, rfl, h1, h2⟩ := dp_tup g1
    obtain ⟨q, ys, rfl, h3, h4⟩ := dp_tup g2
    refine ⟨p, q, xs, ys, rfl, rfl, same_t msk_same h1, same_t msk_same h3, by rw [dpa_len h2, dpa_len h4]; exact sz1000 hz, fun e => ?_, fun _ e => ?_, fun _ _ l hl => ?_⟩
    · subst e
      cases h2
      exact k _ H (Same.refl H) (.tup h3 h4)
    · subst e
      cases h4
      rw [List.append_nil] at k
      exact k _ H (Same.refl H) (.tup h1 h2)
    · exact k _ _ (same_new hl) (fresh_t S hl (dpa_app h2 h4))
end
end KX
namespace KX
open PySem PySem.Spec PyProof.Rows L2
/-! ## tuple * n -/
theorem tuple_mul1 (l : Addr) (items : Array Value) (n : Nat) (dd : Option Addr) (sl : Array (Option Value)) (u : Tok) :
    Meets (Builtin.«tuple.__mul__» ⟨[.ref l, .int 1 u], []⟩) (fun _ R s => s.heap.get? l = some { cls := .type "tuple", dict := dd, data := .seq items n, slots := sl } ∧ R (.ok (.ret (Value.ref l))) s) :=
  .of_wp fun prog w A R s h => by
    obtain ⟨hp, g, d, tk, os⟩ := s
    obtain ⟨hl, h⟩ := h
    have f1 := AutoSeq1.idx_int
    have c1 : (items.isEmpty || (1 : Int) == 1) = true := by simp
    wp_walk using wpAny_loadPart' hl
    exact ⟨_, rfl, h⟩
section
variable {X : Cx} {B : Hp} {M : Ms} {L : Ls} {a b c e : Expr} {es : List Expr} {d da db dc : PyData} {ds : List PyData} {i j : Int} {pos : Pos} {p q : Bool}
def rRep1 (K : PySem.W.Frag) : R2 := fun x y H Q => ∃ l xs, x = .ref l ∧ y = .int 1 ∧ SqT K H l xs ∧ Q (.ref l) H
theorem op_rep1 : OpR X (binaryOp .Mult) (rRep1 X.K) := by
  intro pins s σ H x y v u Q I rx ry h
  obtain ⟨l, xs, rfl, rfl, hT, q⟩ := h
  cases rx
  obtain ⟨t, rfl⟩ := ry
  obtain ⟨its, r, ⟨⟨cls, dd, data, sl⟩, ho, hc, n, hd⟩, hs⟩ := I.tuple hT
  simp only at hc hd
  subst hc hd
  refine wpAny_binaryOp_repeat_ref (T := "tuple") (U := "int") (by decide) ⟨_, ho, rfl⟩ (fun s' => typeIs_int s' 1 t) noFill_tuple_mul F.fills_int_mul F.slot_int_rmul repeat_tuple F.slot_int_index.lookup
    (call_meets F.slot_int_rmul (typeIs_int s 1 t) F.entry_int_rmul (F.args_int_rmul_2 _ _) (int_rmul_tuple 1 t l its.toArray n dd sl)
      ⟨ho, rfl, ⟨_, ho, rfl⟩, call_meets F.slot_tuple_mul ⟨_, ho, rfl⟩ F.entry_tuple_mul (F.args_tuple_mul_2 _ _) (tuple_mul1 l its.toArray n dd sl t) ⟨ho, ?_⟩⟩)
  exact ⟨.ref l, H, I, rfl, q⟩
theorem rep_flat1 {α : Type} (x : α) : ∀ n : Nat, (List.replicate n [x]).flatten = List.replicate n x
  | 0 => rfl
  | n + 1 => by rw [List.replicate_succ, List.flatten_cons, rep_flat1 x n, List.replicate_succ]; rfl
/-- (d,) * n -/
theorem ed_rep (h1 : 1 ≤ i) (h2 : i ≤ 1000) (ha : ED X B M L a (.tuple [d])) (hb : ED X B M L b (.int i)) : ED X B M L (.BinOp a .Mult b pos) (.tuple (List.replicate i.toNat d)) :=
  ed_op2 (op_rep1.or op_repT) ha hb fun σ x y H Q S g1 g2 k => by
    obtain ⟨p, xs, rfl, h3, h4⟩ := dp_tup g1
    obtain ⟨v, rfl, g⟩ := dpa1 h4
    cases g2
    by_cases h : i = 1
    · subst h
      exact .inl ⟨p, _, rfl, rfl, same_t msk_same h3, k _ H (Same.refl H) (.tup h3 (.cons g .nil))⟩
    · refine .inr ⟨p, i, _, rfl, rfl, same_t msk_same h3, by simp, by omega, h2, by simp, fun l hl => ?_⟩
      rw [rep_flat1]
      exact k _ _ (same_new hl) (fresh_t S hl (dpa_rep g _))
/-- [d] * n -/
theorem ef_rep {p1 : Pos} (h1 : 0 ≤ i) (h2 : i ≤ 1000) (ha : EA X B M L es [d]) (hb : ED X B M L b (.int i)) : EF X B M L (.BinOp (.List es p1) .Mult b pos) (.l (List.replicate i.toNat d)) :=
  pe_imp (pe_op op_rep (pe_lst ha) hb) fun σ H Q ⟨S, k⟩ => ⟨S, fun vs H1 s1 g1 => by
    obtain ⟨v, rfl, g⟩ := dpa1 g1
    refine ⟨by show 1 ≤ sizeLine; decide, fun p hp => ⟨S.same (s1.trans (same_new hp)), fun y H2 s2 g2 => ?_⟩⟩
    cases g2
    refine ⟨p, i, _, rfl, rfl, s2 _ _ upd_same, by omega, by omega, by show 1 * _ ≤ _; exact Nat.le_trans (by omega : 1 * i.toNat ≤ 1000) (by decide), fun l hl => ?_⟩
    rw [rep_flat1]
    have st := (s1.trans (same_new hp)).trans s2
    exact k l _ (back_none st hl) (fresh_msk st hl) (fresh_c (σ := σ) hl (by simp; omega) (dpa_rep (dp_mono (same_msk ((same_new hp).trans s2)) _ _ g) _))⟩
/-! ## an own exception without arguments -/
theorem pmk_own0 {C : Addr} {bmB : List Value} {B newId initId : String} {x : Str} {p : Pos} (F : ExcBaseFacts B newId initId bmB) (q : PySem.W.excIn X.K C bmB newId = true) (gC : X.mg x = some (.ref C))
    (kC : PySem.W.keepIn X.K (.ref C) = true) (r : Raises X (.ref C)) (hg : Gl X x) (hdb : (x == ("__debug__" : Str)) = false := by decide) :
    PMk X (.Call (.Name x p) [] [] pos) (fun σ H Q => Q (.ref C) none H) := by
  intro pins s σ H Q I h
  refine wpAny_Call_Name_kw (ld_glob I hg gC ?_ hdb)
  refine PySem.W.callWith_K0 I.kIn kC ?_
  show wpAny _ _ (call (.ref C) []) _ _ _
  obtain ⟨bm, N, nm, qn, bs, hdct, sn, sub, ab, col, dd, k0, k1, k2, k3, k5, mN, hC, hN, hni, T⟩ := exc_obj I.kIn q
  refine wpAny_call_exc_subT F T hC hN hni (fun h' e hm => ?_) (Nat.zero_le _)
  exact mk_of I hm r h (I.hok.gone hm.new)
/-! ## o[i], by values, of a list -/
def rGetL : V → V → Hp → VK → Prop := fun o i H Q => ∃ p xs k v, o = .ref p ∧ i = .int k ∧ 0 ≤ k ∧ H p = some (.lst xs) ∧ atI xs k = some v ∧ Q v H
theorem get_list : PGet X rGetL := by
  intro pins s σ H o i ov iv Q I ro ri h
  obtain ⟨p, xs, k, z, rfl, rfl, h0, hp, he, q⟩ := h
  cases ro
  obtain ⟨t, rfl⟩ := ri
  obtain ⟨its, r, pl, hz⟩ := I.list (SqL.of hp)
  obtain ⟨j, h1, h2, h3, h4, h5⟩ := atI_get he
  obtain ⟨w, ew, rw'⟩ := r.get h2
  have hl := r.length
  have hn := line63
  have fin : EP X pins σ Q w s := ⟨z, H, I, rw', q⟩
  have hj : k.toNat = j := by
    rw [seqIndex_of h0 h5] at h1
    exact Option.some.inj h1
  exact wpAny_getItem_list pl.isList h0 (by omega) (by rw [hj]; simpa using ew) fin
end
end KX
namespace KX
open PySem PySem.Spec PyProof.Rows L2
/-! ## a list or a tuple that is walked through enumerate, zip -/
def SqA (l : Bool) (K : PySem.W.Frag) (H : Hp) (a : Addr) (xs : List V) : Prop := if l = true then SqL K H a xs else SqT K H a xs
def IterA (l : Bool) (h : Heap) (it a : Addr) (i : Nat) : Prop := if l = true then h.IsListIter it a i else h.IsTupleIter it a i
theorem iterA_obj {l : Bool} {h : Heap} {it a : Addr} {i : Nat} (x : IterA l h it a i) : ∃ o, h.get? it = some o ∧ (o.cls = .type "list_iterator" ∨ o.cls = .type "tuple_iterator") ∧ ∀ v, o.data ≠ .cell v := by
  cases l with
  | true =>
    obtain ⟨o, e, c, d⟩ := (show h.IsListIter it a i from x)
    exact ⟨o, e, .inl c, fun v q => by rw [d] at q; cases q⟩
  | false =>
    obtain ⟨o, e, c, d⟩ := (show h.IsTupleIter it a i from x)
    exact ⟨o, e, .inr c, fun v q => by rw [d] at q; cases q⟩
theorem iterA_at {l : Bool} {h h' : Heap} {it a : Addr} {i : Nat} (x : IterA l h it a i) (k : ∀ o, h.get? it = some o → h'.get? it = some o) : IterA l h' it a i := by
  cases l with
  | true => exact (show h.IsListIter it a i from x).at k
  | false => exact (show h.IsTupleIter it a i from x).at k
section
variable {X : Cx} {pins : List (Addr × Obj)} {σ : L2.St} {H : Hp} {s : Shared} {a it : Addr} {xs : List V} {l : Bool} {i : Nat}
theorem srcA (I : Inv X pins σ H s) (h : SqA l X.K H a xs) : ∃ its : List Value, Vals xs its ∧ (if l = true then s.heap.IsList a its.toArray else s.heap.IsTuple a its.toArray) ∧ (∃ o, s.heap.get? a = some o ∧ (o.cls = .type "list" ∨ o.cls = .type "tuple")) := by
  cases l with
  | true =>
    obtain ⟨its, r, p, z⟩ := I.list (show SqL X.K H a xs from h)
    obtain ⟨o, n, e, c, _⟩ := id p
    exact ⟨its, r, p.isList, o, e, .inl c⟩
  | false =>
    obtain ⟨its, r, p, z⟩ := I.tuple (show SqT X.K H a xs from h)
    obtain ⟨o, e, c, _⟩ := id p
    exact ⟨its, r, p, o, e, .inr c⟩
/-- what such an iterator draws -/
theorem drawsA {A : Around} (hh : A.handled = none) (I : Inv X pins σ H s) (h : SqA l X.K H a xs) (hi : IterA l s.heap it a i) :
    ∃ (its : List Value) (St : Nat → Heap → Prop), Vals xs its ∧ a ≠ it ∧ Draws X.prog X.w A it [it, a] its.length (fun i v => its[i]? = some v) St ∧ St i s.heap ∧ ∀ j h, St j h → IterA l h it a j := by
  obtain ⟨its, r, p, o, e, c⟩ := srcA I h
  obtain ⟨o', e', c', _⟩ := iterA_obj hi
  have hne : a ≠ it := fun q => by
    rw [q, e'] at e
    cases e
    rcases c with c | c <;> rcases c' with c' | c' <;> exact absurd (Value.type.inj (c.symm.trans c')) (by decide)
  cases l with
  | true =>
    refine ⟨its, fun i h => h.IsListIter it a i ∧ h.IsList a its.toArray, r, hne, ?_, ⟨hi, p⟩, fun j h q => q.1⟩
    have D := Draws.list (prog := X.prog) (w := X.w) hh it a hne its.toArray
    rw [List.size_toArray] at D
    simpa using D
  | false =>
    refine ⟨its, fun i h => h.IsTupleIter it a i ∧ h.IsTuple a its.toArray, r, hne, ?_, ⟨hi, p⟩, fun j h q => q.1⟩
    have D := Draws.tuple (prog := X.prog) (w := X.w) hh it a hne its.toArray
    rw [List.size_toArray] at D
    simpa using D
end

/-! ### enumerate -/
def ItEA (K : PySem.W.Frag) (l : Bool) (a : Addr) (xs : List V) : It :=
  ⟨fun i H => i < xs.length ∧ SqA l K H a xs, fun i H v H' => ∃ T x, v = .ref T ∧ H T = none ∧ H' = upd H T (.tup [.int (i : Nat), x]) ∧ xs[i]? = some x, fun i H => i = xs.length ∧ SqA l K H a xs⟩
theorem turn_enumA {P : Program} {w : World} {K : PySem.W.Frag} {elts : List Expr} {kk : Nat} {tpos : Pos} {l : Bool} (a e it : Addr) (xs : List V) :
    Turn P w K (.Tuple elts kk tpos) (ItEA K l a xs) [e, it] e (fun i h => (∃ old, IsEnum h e it ((i : Nat) : Int) old) ∧ IterA l h it a i ∧ e ≠ it) where
  mem := by simp
  obj := fun i h st b hb => by
    obtain ⟨⟨old, he⟩, hi, _⟩ := st
    have e' : b = e ∨ b = it := by simpa using hb
    rcases e' with z | z
    · rw [z]; exact ⟨_, he, fun v q => nomatch q⟩
    · rw [z]
      obtain ⟨o, ho, _, hd⟩ := iterA_obj hi
      exact ⟨o, ho, hd⟩
  keep := fun i h h' st k => let ⟨⟨old, he⟩, hi, hne⟩ := st; ⟨⟨old, k e (by simp) _ he⟩, iterA_at hi fun o q => k it (by simp) o q, hne⟩
  item := by
    intro X hP hw hK hc i pins s σ H E I hf st hg
    subst hP hw hK
    obtain ⟨⟨old, he⟩, hit, hne⟩ := st
    obtain ⟨hlt, hq⟩ := hg
    obtain ⟨its, St, rv, hai, D, hst, hback⟩ := drawsA (A := X.A.in1) (I.ok.hd hc) I hq hit
    have hlen := rv.length
    have hel : e < s.heap.objs.size := Heap.lt_size he
    have hil : it < s.heap.objs.size := by obtain ⟨_, q, _⟩ := iterA_obj hit; exact Heap.lt_size q
    have hea : e ≠ a := fun q => by
      obtain ⟨its2, r2, p2, o, eo, co⟩ := srcA I hq
      rw [← q, he] at eo
      cases eo
      rcases co with c | c <;> exact absurd (Value.type.inj c) (by decide)
    have hef : e ∉ [it, a] := by simp [hne, hea]
    refine wpAny_pyNext_enum_itemC D he hst (by omega) hne hef fun x h' tk hx ho hit' hT hsz hk => ?_
    obtain ⟨v, hv, ru⟩ : ∃ v, xs[i]? = some v ∧ RelV v x := by
      have hi : xs[i]? = some xs[i] := List.getElem?_eq_getElem hlt
      obtain ⟨u, hu, r⟩ := rv.get hi
      rw [hx] at hu
      cases hu
      exact ⟨_, hi, r⟩
    refine ⟨_, rfl, wpAny_letOwnedTupleGo_enum (s := { s with heap := h', toks := tk + 1 }) ho fun h'' he' sb => ?_⟩
    have hT2 : h''.get? s.heap.objs.size = some { cls := .type "tuple", data := .seq #[.int i tk, x] } := (sb.2 _ (Nat.ne_of_gt hel)).trans hT
    have new : ObjOk X.prog X.w (upd H s.heap.objs.size (.tup [.int (i : Nat), v])) h'' s.heap.objs.size (.tup [.int (i : Nat), v]) :=
      ⟨by show 2 ≤ sizeLine; decide, [.int i tk, x], .cons ⟨_, rfl⟩ (.cons ru .nil), ⟨_, hT2, rfl, _, rfl⟩⟩
    have I1 : Inv X pins σ (upd H s.heap.objs.size (.tup [.int (i : Nat), v])) { s with heap := h'', toks := tk + 1 } :=
      I.turnedNew (ch := [e, it]) (fun b ob hb q => (sb.2 b (fun z => hb (by simp [z]))).trans (hk b ob (fun z => hb (by simp [z])) (fun z => hb (by simp [z])) q)) hf (Nat.le_refl _) new
    refine ⟨.ref s.heap.objs.size, _, I1, rfl, ⟨_, v, rfl, I.hok.fresh (Nat.le_refl _), rfl, hv⟩, ⟨⟨x, ?_⟩, iterA_at (hback _ _ hit') fun o q => (sb.2 it (Ne.symm hne)).trans q, hne⟩, fun b hb => ?_⟩
    · have e1 : ((i + 1 : Nat) : Int) = (i : Int) + 1 := by omega
      rw [e1]; exact he'
    · have hb' : b < s.heap.objs.size := by
        have e' : b = e ∨ b = it := by simpa using hb
        rcases e' with z | z
        · rw [z]; exact hel
        · rw [z]; exact hil
      rw [upd_ne (Nat.ne_of_lt hb')]
      exact (hf b hb).1
  done := by
    intro X hP hw hK hc i pins s σ H E I hf st hg
    subst hP hw hK
    obtain ⟨⟨old, he⟩, hit, hne⟩ := st
    obtain ⟨hi, hq⟩ := hg
    obtain ⟨its, St, rv, hai, D, hst, hback⟩ := drawsA (A := X.A.in1) (I.ok.hd hc) I hq hit
    have hlen := rv.length
    obtain ⟨f0, f1, f2, f3, f4, f5⟩ := hf it (by simp)
    have hin : i = its.length := by omega
    subst hin
    exact wpAny_pyNext_enum_endD D he hst fun h' eb => ⟨rfl, I.turned (t' := s.toks) (fun b o hb q => eb b o hb q) f0 f1 f3 f4 f5⟩
  self := fun A i s Q E st h => let ⟨⟨_, he⟩, _⟩ := st; wpAny_pyIter_enum he h

theorem meets_enumerate_new1 {v : Value} {o : Obj} {H : Heap → Prop} (B : Begins v o H) :
    Meets (Builtin.«enumerate.__new__» ⟨[.type "enumerate", v], []⟩) (fun _ R s => H s.heap ∧
      R (.ok (.ret (.ref (s.heap.push o).objs.size))) { s with heap := (s.heap.push o).push { cls := .type "enumerate", data := .fields #[.none, .bool false, .ref s.heap.objs.size, rawInt 0, .none, .none] } }) :=
  .of_wp fun prog w A R s h => by
    obtain ⟨hp, g, d, tk, os⟩ := s; obtain ⟨h1, h⟩ := h
    have hsub := sub_enumerate
    have q1 : ∀ {A' : Around} {E : Value → Shared → Prop} {Q : Value → Shared → Prop}, Q (.ref hp.objs.size) ⟨hp.push o, g, d, tk, os⟩ → wpAny (model prog w) A' (pyIter v) Q E ⟨hp, g, d, tk, os⟩ :=
      fun q => B.iter prog w _ _ ⟨hp, g, d, tk, os⟩ _ h1 q
    wp_walk using q1
    refine wpAny_stack_any fun st => wpAny_pure ?_
    split
    · rename_i c _ _ _ _ _
      cases (c == Value.type "enumerate")
      · wp_walk using q1
        exact ⟨_, rfl, h⟩
      · wp_walk using q1
        exact ⟨_, rfl, h⟩
    · wp_walk using q1
      exact ⟨_, rfl, h⟩
theorem enum_begins1 {prog : Program} {w : World} {A : Around} {E : Value → Shared → Prop} {s : Shared} {v : Value} {o : Obj} {H : Heap → Prop} {Q : Value → Shared → Prop} (B : Begins v o H) (h1 : H s.heap)
    (h : ∀ h', IsEnum h' (s.heap.objs.size + 1) s.heap.objs.size 0 .none → h'.get? s.heap.objs.size = some o → h'.objs.size = s.heap.objs.size + 2 →
      (∀ b o, s.heap.get? b = some o → h'.get? b = some o) → Q (.ref (s.heap.objs.size + 1)) { s with heap := h' }) :
    wpAny (model prog w) A (call (.type "enumerate") [v]) Q E s := by
  refine callType_new F.called_enumerate (by decide) (F.typeCall_enumerate_1 _) (F.newCall_enumerate_1 _) (fun obj => F.args_object_init_2 obj _) F.entry_enumerate_new
    (meets_enumerate_new1 B) ⟨h1, ?_⟩
  have hz : (s.heap.push o).objs.size = s.heap.objs.size + 1 := Heap.size_push ..
  show _ ∧ _
  rw [hz]
  have he : IsEnum ((s.heap.push o).push { cls := .type "enumerate", data := .fields #[.none, .bool false, .ref s.heap.objs.size, rawInt 0, .none, .none] }) (s.heap.objs.size + 1) s.heap.objs.size 0 .none := by
    have := Heap.get?_push_size (s.heap.push o) (o := { cls := .type "enumerate", data := .fields #[.none, .bool false, .ref s.heap.objs.size, rawInt 0, .none, .none] }) rfl
    rw [hz] at this; exact this
  refine ⟨⟨_, he, rfl⟩, h _ he (Heap.get?_push_of_some _ (Heap.get?_push_size _ B.free)) (by rw [Heap.size_push, hz]) fun b o x => Heap.get?_push_of_some _ (Heap.get?_push_of_some _ x)⟩

/-- how iter of such a thing begins -/
theorem beginsA {X : Cx} {pins : List (Addr × Obj)} {σ : L2.St} {H : Hp} {s : Shared} {a : Addr} {xs : List V} {l : Bool} (I : Inv X pins σ H s) (h : SqA l X.K H a xs) :
    ∃ (o : Obj) (Hb : Heap → Prop), Begins (.ref a) o Hb ∧ Hb s.heap ∧ ∀ h' it, h'.get? it = some o → IterA l h' it a 0 := by
  obtain ⟨its, r, p, _⟩ := srcA I h
  cases l with
  | true => exact ⟨_, _, begins_list a its.toArray, p, fun h' it e => (show h'.IsListIter it a 0 from ⟨_, e, rfl, rfl⟩)⟩
  | false => exact ⟨_, _, begins_tuple a its.toArray, p, fun h' it e => (show h'.IsTupleIter it a 0 from ⟨_, e, rfl, rfl⟩)⟩
def iEnumA (K : PySem.W.Frag) (ta : TA) : TI := fun σ H R => ta σ H fun vs H1 => ∃ l a xs, vs = [.ref a] ∧ SqA l K H1 a xs ∧ R (ItEA K l a xs) H1
theorem pi_enumA {X : Cx} {e : Expr} {ta : TA} {p pos tpos : Pos} {elts : List Expr} {kk : Nat} (hg : Gl X "enumerate") (hm : X.mg "enumerate" = none) (ha : PA X [e] ta) (hs : starEach [e] X.env = [(false, eval e X.env)] := by rfl) :
    PI X (.Tuple elts kk tpos) (.Call (.Name "enumerate" p) [e] [] pos) (iEnumA X.K ta) := by
  refine ⟨fun pins s σ H R I h => ?_⟩
  refine Call_ (ld_blt I hg hm boot_enumerate (PyProof.Rows.callWith_type1 (thn (ha.run pos pins s σ H _ I h) fun us s1 ⟨vs, H1, I1, r1, q1⟩ => ?_) hs rfl))
  obtain ⟨l, a, xs, ex, hq, q⟩ := q1
  subst ex
  cases r1 with
  | cons r rr =>
    cases rr
    cases r
    obtain ⟨o, Hb, B, hb, hit0⟩ := beginsA I1 hq
    refine enum_begins1 B hb fun h' he hit hsz hk => wpAny_pyIter_enum he ?_
    have I2 : Inv X pins σ H1 { s1 with heap := h' } := I1.kept (t' := s1.toks) hk
    refine ⟨s1.heap.objs.size + 1, [s1.heap.objs.size + 1, s1.heap.objs.size], _, _, H1, rfl, I2, turn_enumA a (s1.heap.objs.size + 1) s1.heap.objs.size xs, ⟨⟨.none, he⟩, hit0 _ _ hit, Nat.succ_ne_self _⟩, fun b hb => ?_, q⟩
    have e' : b = s1.heap.objs.size + 1 ∨ b = s1.heap.objs.size := by simpa using hb
    have hle : s1.heap.objs.size ≤ b := by
      rcases e' with z | z
      · rw [z]; exact Nat.le_add_right _ _
      · rw [z]; exact Nat.le_refl _
    exact I1.fpOk hle (I1.hok.fresh hle)

/-! ### zip of two -/
def ItZA (K : PySem.W.Frag) (l1 l2 : Bool) (a b : Addr) (xs ys : List V) : It :=
  ⟨fun i H => i < xs.length ∧ i < ys.length ∧ SqA l1 K H a xs ∧ SqA l2 K H b ys,
    fun i H v H' => ∃ T x y, v = .ref T ∧ H T = none ∧ H' = upd H T (.tup [x, y]) ∧ xs[i]? = some x ∧ ys[i]? = some y,
    fun i H => i = min xs.length ys.length ∧ SqA l1 K H a xs ∧ SqA l2 K H b ys⟩
theorem turn_zipA {P : Program} {w : World} {K : PySem.W.Frag} {elts : List Expr} {kk : Nat} {tpos : Pos} {l1 l2 : Bool} {a b z TI TO i1 i2 : Addr} {xs ys : List V} (D : ZipSep2 z TI TO i1 i2 [i1, a] [i2, b]) :
    Turn P w K (.Tuple elts kk tpos) (ItZA K l1 l2 a b xs ys) [z, TI, TO, i1, i2] z (fun i h => IsZip h z TI TO .none ∧ IsTupOf2 h TI (.ref i1) (.ref i2) ∧ (∃ x y, IsTupOf2 h TO x y) ∧ IterA l1 h i1 a i ∧ IterA l2 h i2 b i) where
  mem := by simp
  obj := fun i h st c hc => by
    obtain ⟨hz, hTI, ⟨x, y, hTO⟩, h1, h2⟩ := st
    obtain ⟨o1, e1, _, d1⟩ := iterA_obj h1
    obtain ⟨o2, e2, _, d2⟩ := iterA_obj h2
    have e' : c = z ∨ c = TI ∨ c = TO ∨ c = i1 ∨ c = i2 := by simpa using hc
    rcases e' with q | q | q | q | q
    · rw [q]; exact ⟨_, hz, fun v q => nomatch q⟩
    · rw [q]; exact ⟨_, hTI, fun v q => nomatch q⟩
    · rw [q]; exact ⟨_, hTO, fun v q => nomatch q⟩
    · rw [q]; exact ⟨o1, e1, d1⟩
    · rw [q]; exact ⟨o2, e2, d2⟩
  keep := fun i h h' st k => by
    obtain ⟨hz, hTI, ⟨x, y, hTO⟩, h1, h2⟩ := st
    exact ⟨k z (by simp) _ hz, k TI (by simp) _ hTI, ⟨x, y, k TO (by simp) _ hTO⟩, iterA_at h1 fun o q => k i1 (by simp) o q, iterA_at h2 fun o q => k i2 (by simp) o q⟩
  item := by
    intro X hP hw hK hc i pins s σ H E I hf st hg
    subst hP hw hK
    obtain ⟨hz, hTI, ⟨x0, y0, hTO⟩, h1, h2⟩ := st
    obtain ⟨hlt1, hlt2, hqx, hqy⟩ := hg
    obtain ⟨its, St1, rv, ha1, D1, st1, back1⟩ := drawsA (A := X.A.in1) (I.ok.hd hc) I hqx h1
    obtain ⟨its2, St2, rv2, ha2, D2, st2, back2⟩ := drawsA (A := X.A.in1) (I.ok.hd hc) I hqy h2
    have hlen := rv.length
    have hlen2 := rv2.length
    have hzl : z < s.heap.objs.size := Heap.lt_size hz
    refine wpAny_pyNext_zipD2_item D D1 D2 hz hTI hTO st1 st2 (by omega) (by omega) fun u u2 h' tk hu hu2 z' TO' h1' h2' hT hsz hk => ?_
    have pick : ∀ {zs : List V} {us : List Value} {u : Value}, Vals zs us → i < zs.length → us[i]? = some u → ∃ v, zs[i]? = some v ∧ RelV v u := by
      intro zs us u r hl hu
      have hi : zs[i]? = some zs[i] := List.getElem?_eq_getElem hl
      obtain ⟨u', hu', r'⟩ := r.get hi
      rw [hu] at hu'
      cases hu'
      exact ⟨_, hi, r'⟩
    obtain ⟨x, hx, ru⟩ := pick rv hlt1 hu
    obtain ⟨y, hy, ru2⟩ := pick rv2 hlt2 hu2
    refine ⟨_, rfl, wpAny_letOwnedTupleGo_zip (s := { s with heap := h', toks := tk }) z' fun h'' z'' sb => ?_⟩
    have hT2 : h''.get? s.heap.objs.size = some { cls := .type "tuple", data := .seq #[u, u2] } := (sb.2 _ (Nat.ne_of_gt hzl)).trans hT
    have new : ObjOk X.prog X.w (upd H s.heap.objs.size (.tup [x, y])) h'' s.heap.objs.size (.tup [x, y]) :=
      ⟨by show 2 ≤ sizeLine; decide, [u, u2], .cons ru (.cons ru2 .nil), ⟨_, hT2, rfl, _, rfl⟩⟩
    have I1 : Inv X pins σ (upd H s.heap.objs.size (.tup [x, y])) { s with heap := h'', toks := tk } :=
      I.turnedNew (ch := [z, TI, TO, i1, i2]) (fun c o hb q => (sb.2 c (fun q' => hb (by simp [q']))).trans (hk c o (fun q' => hb (by simp [q'])) (fun q' => hb (by simp [q'])) (fun q' => hb (by simp [q'])) (fun q' => hb (by simp [q'])) q)) hf (Nat.le_refl _) new
    refine ⟨.ref s.heap.objs.size, _, I1, rfl, ⟨_, x, y, rfl, I.hok.fresh (Nat.le_refl _), rfl, hx, hy⟩, ⟨z'', ?_, ⟨u, u2, ?_⟩, ?_, ?_⟩, fun c hcm => ?_⟩
    · exact (sb.2 _ D.TIz).trans (hk _ _ D.TIz D.TITO D.TIi1 D.TIi2 hTI)
    · exact (sb.2 _ D.TOz).trans TO'
    · exact iterA_at (back1 _ _ h1') fun o q => (sb.2 _ (Ne.symm D.zi1)).trans q
    · exact iterA_at (back2 _ _ h2') fun o q => (sb.2 _ (Ne.symm D.zi2)).trans q
    · have hlt : c < s.heap.objs.size := by
        have e' : c = z ∨ c = TI ∨ c = TO ∨ c = i1 ∨ c = i2 := by simpa using hcm
        rcases e' with q | q | q | q | q
        · rw [q]; exact hzl
        · rw [q]; exact Heap.lt_size hTI
        · rw [q]; exact Heap.lt_size hTO
        · rw [q]; obtain ⟨_, e1, _⟩ := iterA_obj h1; exact Heap.lt_size e1
        · rw [q]; obtain ⟨_, e2, _⟩ := iterA_obj h2; exact Heap.lt_size e2
      rw [upd_ne (Nat.ne_of_lt hlt)]
      exact (hf c hcm).1
  done := by
    intro X hP hw hK hc i pins s σ H E I hf st hg
    subst hP hw hK
    obtain ⟨hz, hTI, ⟨x0, y0, hTO⟩, h1, h2⟩ := st
    obtain ⟨hi, hqx, hqy⟩ := hg
    obtain ⟨its, St1, rv, ha1, D1, st1, back1⟩ := drawsA (A := X.A.in1) (I.ok.hd hc) I hqx h1
    obtain ⟨its2, St2, rv2, ha2, D2, st2, back2⟩ := drawsA (A := X.A.in1) (I.ok.hd hc) I hqy h2
    have hlen := rv.length
    have hlen2 := rv2.length
    exact wpAny_pyNext_zipD2_end D D1 D2 hz hTI hTO st1 st2 (by omega) (by omega) (by omega) fun h' tk hk => ⟨rfl, I.turnedL (ch := [z, TI, TO, i1, i2]) (fun c o hb q =>
      hk c o (fun q' => hb (by simp [q'])) (fun q' => hb (by simp [q'])) (fun q' => hb (by simp [q'])) (fun q' => hb (by simp [q'])) q) hf⟩
  self := fun A i s Q E st h => wpAny_pyIter_zip st.1 h
def iZipG (K : PySem.W.Frag) (ta : TA) : TI := fun σ H R => ta σ H fun vs H1 => ∃ l1 l2 a b xs ys, vs = [.ref a, .ref b] ∧ SqA l1 K H1 a xs ∧ SqA l2 K H1 b ys ∧ R (ItZA K l1 l2 a b xs ys) H1
theorem pi_zipG {X : Cx} {e e2 : Expr} {ta : TA} {p pos tpos : Pos} {elts : List Expr} {kk : Nat} (hg : Gl X "zip") (hm : X.mg "zip" = none) (ha : PA X [e, e2] ta)
    (hs : starEach [e, e2] X.env = (false, eval e X.env) :: starEach [e2] X.env := by rfl) (hpl : (backTo pos (starEach [e2] X.env)).any (·.1) = false := by rfl) :
    PI X (.Tuple elts kk tpos) (.Call (.Name "zip" p) [e, e2] [] pos) (iZipG X.K ta) := by
  refine ⟨fun pins s σ H R I h => ?_⟩
  refine Call_ (ld_blt I hg hm PyProof.Rows.boot_zip (PyProof.Rows.callWith_type1 (thn (ha.run pos pins s σ H _ I h) fun us s1 ⟨vs, H1, I1, r1, q1⟩ => ?_) hs hpl))
  obtain ⟨l1, l2, a, b, xs, ys, ex, hqx, hqy, q⟩ := q1
  subst ex
  cases r1 with
  | cons r rr =>
    cases rr with
    | cons r' rr =>
      cases rr
      cases r
      cases r'
      obtain ⟨o1, Hb1, B1, hb1, it1⟩ := beginsA I1 hqx
      obtain ⟨o2, Hb2, B2, hb2, it2⟩ := beginsA I1 hqy
      obtain ⟨_, _, _, oa, ea, _⟩ := srcA I1 hqx
      obtain ⟨_, _, _, ob, eb, _⟩ := srcA I1 hqy
      refine zip_begins2 B1 B2 hb1 hb2 fun h' hz hTI hTO h1 h2 hsz hk => wpAny_pyIter_zip hz ?_
      have I2 : Inv X pins σ H1 { s1 with heap := h' } := I1.kept (t' := s1.toks) hk
      have la : ∀ c ∈ [a], c < s1.heap.objs.size := fun c hc => by
        have : c = a := by simpa using hc
        rw [this]; exact Heap.lt_size ea
      have lb : ∀ c ∈ [b], c < s1.heap.objs.size := fun c hc => by
        have : c = b := by simpa using hc
        rw [this]; exact Heap.lt_size eb
      refine ⟨s1.heap.objs.size + 4, [s1.heap.objs.size + 4, s1.heap.objs.size + 2, s1.heap.objs.size + 3, s1.heap.objs.size, s1.heap.objs.size + 1], _, _, H1, rfl, I2, turn_zipA (zip_sep2 la lb), ⟨hz, hTI, ⟨_, _, hTO⟩, it1 _ _ h1, it2 _ _ h2⟩, fun c hcm => ?_, q⟩
      have e' : c = s1.heap.objs.size + 4 ∨ c = s1.heap.objs.size + 2 ∨ c = s1.heap.objs.size + 3 ∨ c = s1.heap.objs.size ∨ c = s1.heap.objs.size + 1 := by simpa using hcm
      have hle : s1.heap.objs.size ≤ c := by
        rcases e' with z | z | z | z | z
        · rw [z]; exact Nat.le_add_right _ _
        · rw [z]; exact Nat.le_add_right _ _
        · rw [z]; exact Nat.le_add_right _ _
        · rw [z]; exact Nat.le_refl _
        · rw [z]; exact Nat.le_add_right _ _
      exact I1.fpOk hle (I1.hok.fresh hle)
end KX
namespace KX
open PySem PySem.Spec PyProof.Rows L2
/-! ## more about states -/
section
variable {K : PySem.W.Frag} {B H H' : Hp} {M M' : Ms} {L : Ls} {σ : L2.St}
theorem Sta.base (S : Sta K B M L σ H) {p : Addr} (h : H p = none) : B p = none := back_none S.ex h
/-- a new object comes into one's own -/
theorem Sta.grow (S : Sta K B M L σ H) {p : Addr} {c : Ct} (hp : H p = none) (s : Same H (msk [p] H')) (hc : CtOk K (msk (p :: adr M) H') (H' p) c) : Sta K B ((p, c) :: M) L σ H' := by
  have hout := S.out hp
  have st : Same (msk (adr M) H) (msk (p :: adr M) H') := by
    rw [msk_cons]
    exact same_msk s
  have sall : Same H H' := s.trans msk_same
  refine ⟨S.len, fun i t h => let ⟨v, a, b⟩ := S.loc i t h; ⟨v, a, sh_mono st b⟩, List.nodup_cons.mpr ⟨hout, S.nd⟩, fun q hq => ?_, Same.trans S.ex sall, fun q hq => ?_⟩
  · rcases List.mem_cons.mp hq with rfl | hq
    · exact hc
    · have c := S.own q hq
      obtain ⟨u, hu⟩ := ct_some c
      rw [sall _ _ hu, ← hu]
      exact ct_mono st c
  · rcases List.mem_cons.mp hq with rfl | hq
    · exact S.base hp
    · exact S.fr q hq
theorem adr_set {k : Nat} {p : Addr} {c c' : Ct} (h : M[k]? = some (p, c)) : adr (M.set k (p, c')) = adr M := by
  unfold adr
  rw [List.map_set]
  apply List.ext_getElem?
  intro j
  by_cases hj : k = j
  · subst hj
    have hk : k < M.length := (List.getElem?_eq_some_iff.mp h).1
    rw [List.getElem?_set_self (by simpa using hk), List.getElem?_map, h]
    rfl
  · rw [List.getElem?_set_ne hj]
/-- an own object changes -/
theorem Sta.upd (S : Sta K B M L σ H) {k : Nat} {p : Addr} {c c' : Ct} {o : HO} (h : M[k]? = some (p, c)) (hc : CtOk K (msk (adr M) H) (some o) c') : Sta K B (M.set k (p, c')) L σ (L2.upd H p o) := by
  have hm : (p, c) ∈ M := List.mem_of_getElem? h
  have hp : p ∈ adr M := List.mem_map.mpr ⟨_, hm, rfl⟩
  have e1 : adr (M.set k (p, c')) = adr M := adr_set h
  have e2 : msk (adr M) (L2.upd H p o) = msk (adr M) H := msk_upd hp
  refine ⟨S.len, fun i t q => ?_, by rw [e1]; exact S.nd, fun q hq => ?_, fun b u hb => ?_, fun q hq => ?_⟩
  · rw [e1, e2]
    exact S.loc i t q
  · rw [e1, e2]
    obtain ⟨j, hj⟩ := List.mem_iff_getElem?.mp hq
    by_cases hkj : k = j
    · subst hkj
      have hk : k < M.length := (List.getElem?_eq_some_iff.mp h).1
      rw [List.getElem?_set_self hk] at hj
      cases hj
      dsimp only
      rw [L2.upd_same]
      exact hc
    · rw [List.getElem?_set_ne hkj] at hj
      have hq' : q ∈ M := List.mem_of_getElem? hj
      have hne : q.1 ≠ p := fun e => by
        have h1 : (adr M)[j]? = some p := by
          unfold adr
          rw [List.getElem?_map, hj, ← e]
          rfl
        have h2 : (adr M)[k]? = some p := by
          unfold adr
          rw [List.getElem?_map, h]
          rfl
        have hjl : j < (adr M).length := (List.getElem?_eq_some_iff.mp h1).1
        exact hkj ((List.getElem?_inj hjl S.nd).mp (h1.trans h2.symm)).symm
      rw [L2.upd_ne hne]
      exact S.own q hq'
  · have hne : b ≠ p := fun e => by
      rw [e, S.fr _ hm] at hb
      cases hb
    rw [L2.upd_ne hne]
    exact S.ex _ _ hb
  · have : q.1 ∈ adr M := by
      rw [← e1]
      exact List.mem_map.mpr ⟨q, hq, rfl⟩
    obtain ⟨q', hq', e⟩ := List.mem_map.mp this
    rw [← e]
    exact S.fr q' hq'
theorem Sta.get (S : Sta K B M L σ H) {k : Nat} {p : Addr} {c : Ct} (h : M[k]? = some (p, c)) : CtOk K (msk (adr M) H) (H p) c := S.own _ (List.mem_of_getElem? h)
/-- less known -/
inductive LeL : Ls → Ls → Prop where
  | nil : LeL [] []
  | same {x : Option Sh} {a b : Ls} : LeL a b → LeL (x :: a) (x :: b)
  | skip {x : Option Sh} {a b : Ls} : LeL a b → LeL (none :: a) (x :: b)
theorem LeL.len : ∀ {a b : Ls}, LeL a b → a.length = b.length
  | _, _, .nil => rfl
  | _, _, .same h => by simp [h.len]
  | _, _, .skip h => by simp [h.len]
theorem LeL.get : ∀ {a b : Ls}, LeL a b → ∀ {i : Nat} {s : Sh}, a[i]? = some (some s) → b[i]? = some (some s)
  | _, _, .nil, i, s, h => by simp at h
  | _, _, .same h, 0, s, e => by simpa using e
  | _, _, .same h, i + 1, s, e => by
    have := h.get (i := i) (s := s) (by simpa using e)
    simpa using this
  | _, _, .skip h, 0, s, e => by simp at e
  | _, _, .skip h, i + 1, s, e => by
    have := h.get (i := i) (s := s) (by simpa using e)
    simpa using this
theorem Sta.le {L' : Ls} (S : Sta K B M L σ H) (h : LeL L' L) : Sta K B M L' σ H := ⟨S.len.trans h.len.symm, fun i s e => S.loc i s (h.get e), S.nd, S.own, S.ex, S.fr⟩
theorem LeL.refl : ∀ L : Ls, LeL L L
  | [] => .nil
  | x :: L => .same (LeL.refl L)
end

/-! ## e gives the data d and changes one's own objects -/
def tM (K : PySem.W.Frag) (B : Hp) (M : Ms) (L : Ls) (d : PyData) (M' : Ms) : TE := fun σ H Q => Sta K B M L σ H ∧ ∀ v H2, Sta K B M' L σ H2 → Same (msk (adr M) H) (msk (adr M) H2) → Dp K (msk (adr M) H2) v d → Q v H2
structure EM (X : Cx) (B : Hp) (M : Ms) (L : Ls) (e : Expr) (d : PyData) (M' : Ms) : Prop where
  ad : adr M' = adr M
  pe : PE X e (tM X.K B M L d M')
section
variable {X : Cx} {B : Hp} {M M' M2 : Ms} {L : Ls} {a b c e : Expr} {es : List Expr} {d da db dc : PyData} {ds : List PyData} {i j : Int} {pos : Pos} {p q : Bool}
theorem em_of (he : ED X B M L e d) : EM X B M L e d M :=
  ⟨rfl, pe_imp he fun σ H Q ⟨S, k⟩ => ⟨S, fun v H2 s g => k v H2 (S.same s) (same_msk s) g⟩⟩
theorem em_op2 {op : Operator} {r : R2} (ho : OpR X (binaryOp op) r) (ha : EM X B M L a da M') (hb : EM X B M' L b db M2)
    (h : ∀ σ x y H Q, Sta X.K B M2 L σ H → Dp X.K (msk (adr M) H) x da → Dp X.K (msk (adr M) H) y db → (∀ v H2, Same H H2 → Dp X.K (msk (adr M) H2) v d → Q v H2) → r x y H Q) : EM X B M L (.BinOp a op b pos) d M2 :=
  ⟨hb.ad.trans ha.ad, pe_imp (pe_op ho ha.pe hb.pe) fun σ H Q ⟨S, k⟩ => ⟨S, fun x H1 S1 s1 g1 => ⟨S1, fun y H2 S2 s2 g2 => by
    rw [ha.ad] at s2 g2
    exact h σ x y H2 Q S2 (dp_mono s2 _ _ g1) g2 fun v H3 s3 g3 => k v H3 (S2.same s3) ((s1.trans s2).trans (same_msk s3)) g3⟩⟩⟩
theorem em_add (ha : EM X B M L a (.int i) M') (hb : EM X B M' L b (.int j) M2) : EM X B M L (.BinOp a .Add b pos) (.int (i + j)) M2 :=
  em_op2 op_add ha hb fun σ x y H Q _ g1 g2 k => by cases g1; cases g2; exact ⟨i, j, rfl, rfl, k _ H (Same.refl H) (.int _)⟩
theorem fresh_tO {K : PySem.W.Frag} {O : List Addr} {H : Hp} {l : Addr} {xs : List V} (ho : l ∉ O) (hl : H l = none) (h : DpAll K (msk O H) xs ds) : Dp K (msk O (upd H l (.tup xs))) (.ref l) (.tuple ds) :=
  .tup (SqT.of (by rw [msk_out ho]; exact upd_same)) (dp_monos (same_msk (same_new hl)) _ _ h)
theorem em_catT {ds es' : List PyData} (hz : ds.length + es'.length ≤ 1000) (ha : EM X B M L a (.tuple ds) M') (hb : EM X B M' L b (.tuple es') M2) : EM X B M L (.BinOp a .Add b pos) (.tuple (ds ++ es')) M2 :=
  em_op2 op_catA ha hb fun σ x y H Q S g1 g2 k => by
    obtain ⟨p, xs, rfl, h1, h2⟩ := dp_tup g1
    obtain ⟨q, ys, rfl, h3, h4⟩ := dp_tup g2
    refine ⟨p, q, xs, ys, rfl, rfl, same_t msk_same h1, same_t msk_same h3, by rw [dpa_len h2, dpa_len h4]; exact sz1000 hz, fun e => ?_, fun _ e => ?_, fun _ _ l hl => ?_⟩
    · subst e
      cases h2
      exact k _ H (Same.refl H) (.tup h3 h4)
    · subst e
      cases h4
      rw [List.append_nil] at k
      exact k _ H (Same.refl H) (.tup h1 h2)
    · exact k _ _ (same_new hl) (fresh_tO (by rw [← hb.ad.trans ha.ad]; exact S.out hl) hl (dpa_app h2 h4))
theorem em_ixL (hi : atI ds i = some d) (ha : EM X B M L a (.list ds) M') (hb : EM X B M' L b (.int i) M2) (hs : PlainIx b := by exact fun _ _ => rfl) : EM X B M L (.Subscript a b pos) d M2 :=
  ⟨hb.ad.trans ha.ad, pe_imp (pe_ix ix_list ha.pe hb.pe hs) fun σ H Q ⟨S, k⟩ => ⟨S, fun x H1 S1 s1 g1 => ⟨S1, fun y H2 S2 s2 g2 => by
    rw [ha.ad] at s2 g2
    obtain ⟨p, xs, rfl, h1, h2⟩ := dp_lst (dp_mono s2 _ _ g1)
    obtain ⟨v, h3, h4⟩ := at_dpa h2 hi
    cases g2
    exact ⟨p, xs, i, v, rfl, rfl, same_l msk_same h1, h3, k v H2 S2 (s1.trans s2) h4⟩⟩⟩⟩
/-- argument lists -/
def tMs (K : PySem.W.Frag) (B : Hp) (M : Ms) (L : Ls) (ds : List PyData) (M' : Ms) : TA := fun σ H Q => Sta K B M L σ H ∧ ∀ vs H2, Sta K B M' L σ H2 → Same (msk (adr M) H) (msk (adr M) H2) → DpAll K (msk (adr M) H2) vs ds → Q vs H2
structure EMA (X : Cx) (B : Hp) (M : Ms) (L : Ls) (es : List Expr) (ds : List PyData) (M' : Ms) : Prop where
  ad : adr M' = adr M
  pa : PA X es (tMs X.K B M L ds M')
theorem ema_nil : EMA X B M L [] [] M := ⟨rfl, pa_imp pa_nil fun σ H Q ⟨S, k⟩ => k [] H S (Same.refl _) .nil⟩
theorem ema_cons (ha : EM X B M L e d M') (hr : EMA X B M' L es ds M2) (hs : starEach (e :: es) X.env = (false, eval e X.env) :: starEach es X.env := by rfl) : EMA X B M L (e :: es) (d :: ds) M2 :=
  ⟨hr.ad.trans ha.ad, pa_imp (pa_cons ha.pe hr.pa hs) fun σ H Q ⟨S, k⟩ => ⟨S, fun x H1 S1 s1 g1 => ⟨S1, fun xs H2 S2 s2 g2 => by
    rw [ha.ad] at s2 g2
    exact k _ H2 S2 (s1.trans s2) (.cons (dp_mono s2 _ _ g1) g2)⟩⟩⟩
theorem em_tup {x1 : Nat} (h : EMA X B M L es ds M') (hz : ds.length ≤ 1000 := by simp) : EM X B M L (.Tuple es x1 pos) (.tuple ds) M' :=
  ⟨h.ad, pe_imp (pe_tup h.pa) fun σ H Q ⟨S, k⟩ => ⟨S, fun vs H1 S1 s1 g1 => ⟨by rw [dpa_len g1]; exact sz1000 hz, fun p hp => by
    have sn : Same H1 (upd H1 p (.tup vs)) := same_new hp
    have hout : p ∉ adr M := by
      rw [← h.ad]
      exact S1.out hp
    exact k _ _ (S1.same sn) (s1.trans (same_msk sn)) (fresh_tO hout hp g1)⟩⟩⟩
/-- max(a, b) -/
theorem em_max2 {px : Pos} (hcalm : X.calm = true) (hm : X.mg "max" = none) (ha : EMA X B M L (e :: es) [.int i, .int j] M')
    (hg : Gl X "max" := by rfl) (he : starEach (e :: es) X.env = (false, eval e X.env) :: starEach es X.env := by rfl) (hpl : (backTo pos (starEach es X.env)).any (·.1) = false := by rfl) :
    EM X B M L (.Call (.Name "max" px) (e :: es) [] pos) (.int (if j > i then j else i)) M' :=
  ⟨ha.ad, pe_imp (pe_callB (call_max2 hcalm) hg hm (by decide +kernel) ha.pa (by decide) (by decide) he hpl) fun σ H Q ⟨S, k⟩ => ⟨S, fun vs H1 S1 s1 g1 => by
    obtain ⟨v, w, rfl, g1, g2⟩ := dpa2 g1
    cases g1; cases g2
    exact ⟨i, j, rfl, k _ H1 S1 s1 (.int _)⟩⟩⟩
end

/-! ## blocks -/
def Le (D D' : Ends) : Prop := (∀ σ H, D.nx σ H → D'.nx σ H) ∧ (∀ v H, D.rt v H → D'.rt v H) ∧ (∀ σ H, D.bk σ H → D'.bk σ H) ∧ ∀ σ H, D.ct σ H → D'.ct σ H
theorem Le.refl (D : Ends) : Le D D := ⟨fun _ _ h => h, fun _ _ h => h, fun _ _ h => h, fun _ _ h => h⟩
def Tr (X : Cx) (Pre : L2.St → Hp → Prop) (sts : List Stmt) (D : Ends) : Prop := PSs X sts (fun D' σ H => Pre σ H ∧ Le D D')
section
variable {X : Cx} {Pre Mid : L2.St → Hp → Prop} {st : Stmt} {sts rest : List Stmt} {D : Ends}
theorem sp_mono {pins : List (Addr × Obj)} {D D' : Ends} {f : Flow} {s' : Shared} (le : Le D D') (h : SP X pins D f s') : SP X pins D' f s' := by
  cases f with
  | next => obtain ⟨σ, H, I, q⟩ := h; exact ⟨σ, H, I, le.1 _ _ q⟩
  | brk => obtain ⟨σ, H, I, q⟩ := h; exact ⟨σ, H, I, le.2.2.1 _ _ q⟩
  | cont => obtain ⟨σ, H, I, q⟩ := h; exact ⟨σ, H, I, le.2.2.2 _ _ q⟩
  | ret u => obtain ⟨v, σ, H, I, r, q⟩ := h; exact ⟨v, σ, H, I, r, le.2.1 _ _ q⟩
theorem tr_mk {t : TS} (h : PSs X sts t) (k : ∀ σ H, Pre σ H → t D σ H) : Tr X Pre sts D :=
  ⟨fun pins s σ H D' I ⟨p, le⟩ => thn (h.run pins s σ H D I (k σ H p)) fun f s' q => sp_mono le q⟩
theorem tr_cons {t : TS} (h : PS X st t) (hr : Tr X Mid rest D) (k : ∀ σ H nx, Pre σ H → (∀ σ' H', Mid σ' H' → nx σ' H') → t { D with nx := nx } σ H) : Tr X Pre (st :: rest) D :=
  tr_mk (pss_cons h hr) fun σ H p => k σ H _ p fun σ' H' m => ⟨m, Le.refl D⟩
theorem tr_ex {ι : Type} {P : ι → L2.St → Hp → Prop} (h : ∀ i, Tr X (P i) sts D) : Tr X (fun σ H => ∃ i, P i σ H) sts D :=
  ⟨fun pins s σ H D' I ⟨⟨i, p⟩, le⟩ => (h i).run pins s σ H D' I ⟨p, le⟩⟩
theorem tr_imp {Pre' : L2.St → Hp → Prop} (h : Tr X Pre sts D) (k : ∀ σ H, Pre' σ H → Pre σ H) : Tr X Pre' sts D :=
  ⟨fun pins s σ H D' I ⟨p, le⟩ => h.run pins s σ H D' I ⟨k _ _ p, le⟩⟩
theorem tr_false : Tr X (fun _ _ => False) sts D := ⟨fun pins s σ H D' I ⟨p, le⟩ => p.elim⟩
theorem tr_nil (k : ∀ σ H, Pre σ H → D.nx σ H) : Tr X Pre [] D := tr_mk pss_nil k
/-- a family of bodies as one -/
theorem pss_fam {ι : Type} {P : ι → L2.St → Hp → Prop} {E : ι → Ends} (h : ∀ i, Tr X (P i) sts (E i)) : PSs X sts (fun D' σ H => ∃ i, P i σ H ∧ Le (E i) D') :=
  ⟨fun pins s σ H D' I ⟨i, p, le⟩ => (h i).run pins s σ H D' I ⟨p, le⟩⟩
end
section
variable {X : Cx} {B : Hp} {M M' M2 : Ms} {L L' L2' : Ls} {a b c e : Expr} {es : List Expr} {d da db dc : PyData} {ds : List PyData} {pos : Pos} {p q : Bool} {rest body orelse : List Stmt} {D : Ends} {Mid : L2.St → Hp → Prop}
/-- the end of a block -/
theorem tr_end (hL : LeL L' L) (hM : M = M') (k : ∀ σ H, Sta X.K B M' L' σ H → D.nx σ H) : Tr X (Sta X.K B M L) [] D := tr_nil fun σ H S => k σ H (by rw [← hM]; exact S.le hL)
/-- name = e -/
theorem tr_setM (i : Nat) {x : Str} {px : Pos} (hN : X.N.Nodup) (he : EM X B M L e d M') (hr : Tr X (Sta X.K B M' (L.set i (some (.d d)))) rest D) (hi : X.N[i]? = some x := by rfl) (hx : Loc X.env.scope x := by first | exact Or.inl rfl | exact Or.inr rfl)
    (hs : swapsWith e (some (.Name x px)) pos.line X.env = pure false := by rfl) (hf : X.fn x = true ∨ X.env.scope.names.lookup x = some .local := by first | exact .inl rfl | exact .inr rfl) :
    Tr X (Sta X.K B M L) (.Assign [.Name x px] e pos :: rest) D :=
  tr_cons (ps_set hN hi hx he.pe hs hf) hr fun σ H nx S k => ⟨S, fun v H2 S2 s2 g2 => k _ _ (S2.set (by rw [he.ad]; exact g2))⟩
theorem tr_set (i : Nat) {x : Str} {px : Pos} (hN : X.N.Nodup) (he : ED X B M L e d) (hr : Tr X (Sta X.K B M (L.set i (some (.d d)))) rest D) (hi : X.N[i]? = some x := by rfl) (hx : Loc X.env.scope x := by first | exact Or.inl rfl | exact Or.inr rfl)
    (hs : swapsWith e (some (.Name x px)) pos.line X.env = pure false := by rfl) (hf : X.fn x = true ∨ X.env.scope.names.lookup x = some .local := by first | exact .inl rfl | exact .inr rfl) :
    Tr X (Sta X.K B M L) (.Assign [.Name x px] e pos :: rest) D := tr_setM i hN (em_of he) hr hi hx hs hf
/-- name = a new list -/
theorem tr_own (i : Nat) {x : Str} {px : Pos} {ct : Ct} (hN : X.N.Nodup) (he : EF X B M L e ct) (hr : ∀ l, l ∉ adr M → Tr X (Sta X.K B ((l, ct) :: M) (L.set i (some (.v (.ref l))))) rest D) (hi : X.N[i]? = some x := by rfl) (hx : Loc X.env.scope x := by first | exact Or.inl rfl | exact Or.inr rfl)
    (hs : swapsWith e (some (.Name x px)) pos.line X.env = pure false := by rfl) (hf : X.fn x = true ∨ X.env.scope.names.lookup x = some .local := by first | exact .inl rfl | exact .inr rfl) :
    Tr X (Sta X.K B M L) (.Assign [.Name x px] e pos :: rest) D :=
  tr_cons (Mid := fun σ H => ∃ l : { l : Addr // l ∉ adr M }, Sta X.K B ((l.1, ct) :: M) (L.set i (some (.v (.ref l.1)))) σ H) (ps_set hN hi hx he hs hf) (tr_ex fun l => hr l.1 l.2) fun σ H nx S k => ⟨S, fun l H2 hl s c =>
    k _ _ ⟨⟨l, S.out hl⟩, Sta.set (S.grow hl s c) rfl⟩⟩
/-- one's own list is not changed any more -/
theorem Sta.freeze {K : PySem.W.Frag} {σ : L2.St} {H : Hp} {l : Addr} {i : Nat} (S : Sta K B ((l, .l ds) :: M) L σ H) (hL : L[i]? = some (some (.v (.ref l)))) : Sta K B M (L.set i (some (.d (.list ds)))) σ H := by
  have up : Same (msk (adr ((l, Ct.l ds) :: M)) H) (msk (adr M) H) := by
    show Same (msk (l :: adr M) H) _
    rw [msk_cons]
    exact same_msk msk_same
  have nd : l ∉ adr M ∧ (adr M).Nodup := List.nodup_cons.mp S.nd
  obtain ⟨xs, e, z, g⟩ := S.own _ List.mem_cons_self
  refine ⟨by rw [List.length_set]; exact S.len, fun j t q => ?_, nd.2, fun q hq => ct_mono up (S.own q (List.mem_cons_of_mem _ hq)), S.ex, fun q hq => S.fr q (List.mem_cons_of_mem _ hq)⟩
  by_cases hj : i = j
  · subst hj
    have hi : i < L.length := (List.getElem?_eq_some_iff.mp hL).1
    rw [List.getElem?_set_self hi] at q
    cases q
    obtain ⟨v, h1, h2⟩ := S.loc i _ hL
    have h2' : v = .ref l := h2
    subst h2'
    exact ⟨_, h1, .lst (SqL.of (by rw [msk_out nd.1]; exact e)) (dp_monos up _ _ g)⟩
  · rw [List.getElem?_set_ne hj] at q
    obtain ⟨v, h1, h2⟩ := S.loc j t q
    exact ⟨v, h1, sh_mono up h2⟩
theorem tr_freeze (i : Nat) {l : Addr} {sts : List Stmt} (hL : L[i]? = some (some (.v (.ref l)))) (hr : Tr X (Sta X.K B M (L.set i (some (.d (.list ds))))) sts D) : Tr X (Sta X.K B ((l, .l ds) :: M) L) sts D :=
  tr_imp hr fun σ H S => S.freeze hL
/-- .. the second of them -/
theorem Sta.swap {K : PySem.W.Frag} {σ : L2.St} {H : Hp} {q1 q2 : Addr × Ct} (S : Sta K B (q1 :: q2 :: M) L σ H) : Sta K B (q2 :: q1 :: M) L σ H := by
  have e : msk (adr (q2 :: q1 :: M)) H = msk (adr (q1 :: q2 :: M)) H := by
    funext b
    show msk (q2.1 :: q1.1 :: adr M) H b = msk (q1.1 :: q2.1 :: adr M) H b
    by_cases hb : b ∈ q1.1 :: q2.1 :: adr M
    · rw [msk_in hb, msk_in (by simp only [List.mem_cons] at hb ⊢; rcases hb with h | h | h <;> simp [h])]
    · rw [msk_out hb, msk_out (fun z => hb (by simp only [List.mem_cons] at z ⊢; rcases z with h | h | h <;> simp [h]))]
  have mem : ∀ q, q ∈ q2 :: q1 :: M → q ∈ q1 :: q2 :: M := fun q hq => by
    simp only [List.mem_cons] at hq ⊢
    rcases hq with h | h | h <;> simp [h]
  refine ⟨S.len, fun i t q => by rw [e]; exact S.loc i t q, ?_, fun q hq => by rw [e]; exact S.own q (mem q hq), S.ex, fun q hq => S.fr q (mem q hq)⟩
  have nd : q1.1 ∉ (q2.1 :: adr M) ∧ (q2.1 :: adr M).Nodup := List.nodup_cons.mp S.nd
  have nd2 := List.nodup_cons.mp nd.2
  have n1 : q1.1 ≠ q2.1 ∧ q1.1 ∉ adr M := by
    constructor
    · intro z; exact nd.1 (by rw [z]; exact List.mem_cons_self)
    · intro z; exact nd.1 (List.mem_cons_of_mem _ z)
  exact List.nodup_cons.mpr ⟨fun z => by
    rcases List.mem_cons.mp z with z | z
    · exact n1.1 z.symm
    · exact nd2.1 z, List.nodup_cons.mpr ⟨n1.2, nd2.2⟩⟩
theorem tr_swap {q1 q2 : Addr × Ct} {sts : List Stmt} (hr : Tr X (Sta X.K B (q2 :: q1 :: M) L) sts D) : Tr X (Sta X.K B (q1 :: q2 :: M) L) sts D := tr_imp hr fun σ H S => S.swap
/-- reading one's own list: x[a], len(x) -/
theorem ed_ixOwn (i k : Nat) {x : Str} {l : Addr} {j : Int} {px : Pos} (hL : L[i]? = some (some (.v (.ref l)))) (hM : M[k]? = some (l, Ct.l ds)) (ha : ED X B M L a (.int j)) (hj : atI ds j = some d)
    (hN : X.N[i]? = some x := by rfl) (hv : Vis X.env.scope x := by first | exact Or.inl rfl | exact Or.inr (Or.inl rfl) | exact Or.inr (Or.inr rfl))
    (hd : (x == ("__debug__" : Str)) = false := by decide) (hcd : (x == ("__classdict__" : Str)) = false := by decide) (hs : PlainIx a := by exact fun _ _ => rfl) : ED X B M L (.Subscript (.Name x px) a pos) d :=
  pe_imp (pe_ix ix_list (pe_var hN hv hd hcd) ha hs) fun σ H Q ⟨S, k⟩ => by
    obtain ⟨v, h1, h2⟩ := S.loc i _ hL
    have h2' : v = .ref l := h2
    subst h2'
    refine ⟨_, h1, S, fun y H2 s2 g2 => ?_⟩
    cases g2
    obtain ⟨xs, e1, z1, g⟩ := (S.same s2).get hM
    obtain ⟨v, h3, h4⟩ := at_dpa g hj
    exact ⟨l, xs, j, v, rfl, rfl, SqL.of e1, h3, k v H2 s2 h4⟩
theorem ed_lenOwn (i k : Nat) {x : Str} {l : Addr} {px pf : Pos} (hm : X.mg "len" = none) (hL : L[i]? = some (some (.v (.ref l)))) (hM : M[k]? = some (l, Ct.l ds))
    (hN : X.N[i]? = some x := by rfl) (hv : Vis X.env.scope x := by first | exact Or.inl rfl | exact Or.inr (Or.inl rfl) | exact Or.inr (Or.inr rfl))
    (hd : (x == ("__debug__" : Str)) = false := by decide) (hcd : (x == ("__classdict__" : Str)) = false := by decide)
    (hg : Gl X "len" := by rfl) (he : starEach [.Name x px] X.env = (false, eval (.Name x px) X.env) :: starEach [] X.env := by rfl) (hpl : (backTo pos (starEach [] X.env)).any (·.1) = false := by rfl) : ED X B M L (.Call (.Name "len" pf) [.Name x px] [] pos) (.int ds.length) :=
  pe_imp (pe_callB call_len_seq hg hm PySem.boot_len (pa_cons (pe_var hN hv hd hcd) pa_nil he) (by decide) (by decide) he hpl) fun σ H Q ⟨S, k⟩ => by
    obtain ⟨v, h1, h2⟩ := S.loc i _ hL
    have h2' : v = .ref l := h2
    subst h2'
    obtain ⟨xs, e1, z1, g⟩ := S.get hM
    exact ⟨_, h1, l, xs, rfl, .inl (SqL.of e1), by rw [dpa_len g]; exact k _ H (Same.refl H) (.int _)⟩
/-- return e -/
structure Rt (K : PySem.W.Frag) (B : Hp) (M0 : Ms) (D : Ends) (d : PyData) : Prop where
  rt : ∀ v H M L σ, (∀ q ∈ M0, q ∈ M) → Sta K B M L σ H → Dp K (msk (adr M0) H) v d → D.rt v H
theorem tr_ret {M0 : Ms} (R : Rt X.K B M0 D d) (hs : ∀ q ∈ M0, q ∈ M) (he : ED X B M L e d) : Tr X (Sta X.K B M L) (.Return (some e) pos :: rest) D :=
  tr_cons (Mid := fun _ _ => False) (ps_ret he) tr_false fun σ H nx S k => ⟨S, fun v H2 s g => R.rt v H2 M L σ hs (S.same s) (dp_mono (fun b u h => by
    by_cases hb : b ∈ adr M
    · rw [msk_in hb] at h; cases h
    · rw [msk_out hb] at h
      rw [msk_out (fun z => hb ?_)]
      · exact h
      · obtain ⟨q, hq, rfl⟩ := List.mem_map.mp z
        exact List.mem_map.mpr ⟨q, hs q hq, rfl⟩) _ _ g)⟩
theorem Sta.rebase {K : PySem.W.Frag} {B' : Hp} {σ : L2.St} {H : Hp} (S : Sta K B' M L σ H) (h : Same B B') : Sta K B M L σ H := ⟨S.len, S.loc, S.nd, S.own, Same.trans h S.ex, fun q hq => back_none h (S.fr q hq)⟩
theorem Rt.re {K : PySem.W.Frag} {B' : Hp} {M0 : Ms} (R : Rt K B M0 D d) (h : Same B B') : Rt K B' M0 D d := ⟨fun v H M L σ h1 S g => R.rt v H M L σ h1 (S.rebase h) g⟩
theorem Rt.ends {K : PySem.W.Frag} {M0 : Ms} {D' : Ends} (R : Rt K B M0 D d) (h : D'.rt = D.rt) : Rt K B M0 D' d := ⟨fun v H M L σ h1 S g => by rw [h]; exact R.rt v H M L σ h1 S g⟩
/-- if -/
theorem ps_ifT {t : TS} {tc : TT} (hc : PT X c tc) (ha : PSs X body t) : PS X (.If c body orelse pos) (fun D σ H => tc σ H fun b H1 => b = true ∧ t D σ H1) := by
  refine ⟨fun pins s σ H D I h => ?_⟩
  refine wpAny_If (thn (hc.run pins s σ H _ I h) fun d s1 ⟨H1, I1, e, q1⟩ => ?_)
  subst e
  exact ha.run pins s1 σ H1 D I1 q1
theorem ps_ifF {t : TS} {tc : TT} (hc : PT X c tc) (ha : PSs X orelse t) : PS X (.If c body orelse pos) (fun D σ H => tc σ H fun b H1 => b = false ∧ t D σ H1) := by
  refine ⟨fun pins s σ H D I h => ?_⟩
  refine wpAny_If (thn (hc.run pins s σ H _ I h) fun d s1 ⟨H1, I1, e, q1⟩ => ?_)
  subst e
  exact ha.run pins s1 σ H1 D I1 q1
theorem le_nx {D : Ends} {nx nx' : L2.St → Hp → Prop} (h : ∀ σ H, nx σ H → nx' σ H) : Le { D with nx := nx } { D with nx := nx' } := ⟨h, fun _ _ h => h, fun _ _ h => h, fun _ _ h => h⟩
theorem tr_ifT (hc : EB X B M L c true) (hb : Tr X (Sta X.K B M L) body { D with nx := Mid }) (hr : Tr X Mid rest D) : Tr X (Sta X.K B M L) (.If c body orelse pos :: rest) D :=
  tr_cons (ps_ifT hc hb) hr fun σ H nx S k => ⟨S, fun H1 s1 => ⟨rfl, S.same s1, le_nx k⟩⟩
theorem tr_ifE (hc : EB X B M L c false) (hb : Tr X (Sta X.K B M L) orelse { D with nx := Mid }) (hr : Tr X Mid rest D) : Tr X (Sta X.K B M L) (.If c body orelse pos :: rest) D :=
  tr_cons (ps_ifF hc hb) hr fun σ H nx S k => ⟨S, fun H1 s1 => ⟨rfl, S.same s1, le_nx k⟩⟩
theorem tr_ifF (hc : EB X B M L c false) (hr : Tr X (Sta X.K B M L) rest D) : Tr X (Sta X.K B M L) (.If c body [] pos :: rest) D :=
  tr_cons (ps_ifF hc pss_nil) hr fun σ H nx S k => ⟨S, fun H1 s1 => ⟨rfl, k _ _ (S.same s1)⟩⟩
/-- if c: return .. -/
theorem tr_ifR (hc : EB X B M L c true) (hb : Tr X (Sta X.K B M L) body { D with nx := fun _ _ => False }) : Tr X (Sta X.K B M L) (.If c body orelse pos :: rest) D := tr_ifT hc hb tr_false

/-! ### one's own lists -/
/-- x.append(e) -/
theorem tr_append (i k : Nat) {x : Str} {l : Addr} {ap px cp : Pos} (hL : L[i]? = some (some (.v (.ref l)))) (he : EM X B M L e d M') (hM' : M'[k]? = some (l, Ct.l ds)) (hM : ∃ (k' : Nat) (ds' : List PyData), M[k']? = some (l, Ct.l ds')) (hz : ds.length < 1000) (hr : Tr X (Sta X.K B (M'.set k (l, .l (ds ++ [d]))) L) rest D)
    (hN : X.N[i]? = some x := by rfl) (hv : Vis X.env.scope x := by first | exact Or.inl rfl | exact Or.inr (Or.inl rfl) | exact Or.inr (Or.inr rfl))
    (hd : (x == ("__debug__" : Str)) = false := by decide) (hcd : (x == ("__classdict__" : Str)) = false := by decide)
    (hbase : attributeBase (.Name x px) "append" X.env (eval (.Name x px) X.env) = eval (.Name x px) X.env := by rfl)
    (hfew : ((backTo cp (starEach [e] X.env)).all (fun x => !x.1) && (backToKw cp (keywordEach [] X.env)).all (fun x => x.1.isSome)
      && decide ([e].length + ([] : List Keyword).length + (if ([] : List Keyword).isEmpty then 0 else 1) < 30)) = true := by rfl)
    (hline : (ap.endLine == cp.line) = true := by rfl) (hst : starEach [e] X.env = (false, eval e X.env) :: starEach [] X.env := by rfl)
    (hsw : swapsWith (.Call (.Attribute (.Name x px) "append" ap) [e] [] cp) none pos.line X.env = pure false := by rfl) :
    Tr X (Sta X.K B M L) (.Expr (.Call (.Attribute (.Name x px) "append" ap) [e] [] cp) pos :: rest) D :=
  tr_cons (ps_expr (pe_bm PySem.F.plainAttrs_list PySem.F.slot_list_append PySem.F.type_list_append mt_append (pe_var hN hv hd hcd) (pa_cons he.pe pa_nil hst) hbase hfew hline hst (by rfl)) hsw) hr fun σ H nx S k => by
    obtain ⟨v, h1, h2⟩ := S.loc i _ hL
    have h2' : v = .ref l := h2
    subst h2'
    obtain ⟨k', ds', hk'⟩ := hM
    obtain ⟨xs0, e0, _, _⟩ := S.get hk'
    refine ⟨_, h1, .inl ⟨rfl, _, SqL.of e0⟩, S, fun w H2 S2 s2 g2 => ?_⟩
    obtain ⟨xs, e1, z1, g1⟩ := S2.get hM'
    refine ⟨l, xs, w, rfl, rfl, e1, small1000 z1, ?_⟩
    refine k _ _ (S2.upd hM' ⟨_, rfl, by rw [List.length_append, dpa_len g1]; simp; omega, dpa_app g1 (.cons (by rw [he.ad]; exact g2) .nil)⟩)
/-- x[a] = e -/
theorem tr_setL (i k : Nat) {x : Str} {l : Addr} {j : Int} {n : Nat} {px ps : Pos} (hL : L[i]? = some (some (.v (.ref l)))) (hM : M[k]? = some (l, Ct.l ds)) (he : ED X B M L e d) (ha : ED X B M L a (.int j)) (hj : ixN ds.length j = some n)
    (hr : Tr X (Sta X.K B (M.set k (l, .l (ds.set n d))) L) rest D)
    (hN : X.N[i]? = some x := by rfl) (hv : Vis X.env.scope x := by first | exact Or.inl rfl | exact Or.inr (Or.inl rfl) | exact Or.inr (Or.inr rfl))
    (hd : (x == ("__debug__" : Str)) = false := by decide) (hcd : (x == ("__classdict__" : Str)) = false := by decide)
    (hasn : ∀ v, assign (.Subscript (.Name x px) a ps) X.env v = (do
      let ov ← holding [v] (eval (.Name x px) X.env)
      let iv ← holding [v, ov] (eval a X.env)
      standAt ps
      holding [v, ov, iv] (setItem ov iv v)
      release [v, ov, iv] []) := by intro _; rfl)
    (hs : swapsWithSole [.Subscript (.Name x px) a ps] e pos.line X.env = pure false := by rfl) (hw : swappedStores [.Subscript (.Name x px) a ps] e X.env = pure none := by rfl)
    (h1 : (assignEach [.Subscript (.Name x px) a ps] X.env).map (·.2) = [assign (.Subscript (.Name x px) a ps) X.env] := by rfl) :
    Tr X (Sta X.K B M L) (.Assign [.Subscript (.Name x px) a ps] e pos :: rest) D :=
  tr_cons (ps_asg he (pg_sub (pe_var hN hv hd hcd) ha set_list hasn) hs hw h1) hr fun σ H nx S k => ⟨S, fun w H1 s1 g1 => by
    have S1 := S.same s1
    obtain ⟨v, h1, h2⟩ := S1.loc i _ hL
    have h2' : v = .ref l := h2
    subst h2'
    refine ⟨_, h1, S1, fun y H2 s2 g2 => ?_⟩
    cases g2
    have S2 := S1.same s2
    obtain ⟨xs, e1, z1, g⟩ := S2.get hM
    refine ⟨l, xs, j, n, rfl, rfl, e1, by rw [dpa_len g]; exact hj, ?_⟩
    exact k _ _ (S2.upd hM ⟨_, rfl, by rw [List.length_set]; exact z1, dpa_set g n (dp_mono (same_msk s2) _ _ g1)⟩)⟩
/-- x[a] += e, x[a] -= e (ints) -/
theorem tr_augL (i k : Nat) {x : Str} {l : Addr} {j y z : Int} {n : Nat} {f : Int → Int → Int} {op : Operator} {px ps : Pos} (hop : PIp X op (ipI f)) (hL : L[i]? = some (some (.v (.ref l)))) (hM : M[k]? = some (l, Ct.l ds)) (ha : ED X B M L a (.int j)) (hj0 : 0 ≤ j) (hj : ixN ds.length j = some n)
    (hy : ds[n]? = some (.int y)) (he : ED X B M L e (.int z))
    (hr : Tr X (Sta X.K B (M.set k (l, .l (ds.set n (.int (f y z))))) L) rest D)
    (hN : X.N[i]? = some x := by rfl) (hv : Vis X.env.scope x := by first | exact Or.inl rfl | exact Or.inr (Or.inl rfl) | exact Or.inr (Or.inr rfl))
    (hd : (x == ("__debug__" : Str)) = false := by decide) (hcd : (x == ("__classdict__" : Str)) = false := by decide)
    (hau : ∀ ov iv new, augStore a ov iv new = (do holding [new, ov, iv] (setItem ov iv new); release [new, ov, iv] []; pure .next) := by intros; rfl) :
    Tr X (Sta X.K B M L) (.AugAssign (.Subscript (.Name x px) a ps) op e pos :: rest) D :=
  tr_cons (ps_augS (pe_var hN hv hd hcd) ha get_list he hop set_list hau) hr fun σ H nx S k => by
    obtain ⟨v, h1, h2⟩ := S.loc i _ hL
    have h2' : v = .ref l := h2
    subst h2'
    refine ⟨_, h1, S, fun y1 H1 s1 g1 => ?_⟩
    cases g1
    have S1 := S.same s1
    obtain ⟨xs, e1, z1, g⟩ := S1.get hM
    obtain ⟨w, hw, gw⟩ := dpa_get g hy
    cases gw
    have hj' : ixN xs.length j = some n := by rw [dpa_len g]; exact hj
    refine ⟨l, xs, j, _, rfl, rfl, hj0, e1, by unfold atI; rw [hj']; exact hw, S1, fun y2 H2 s2 g2 => ?_⟩
    cases g2
    have S2 := S1.same s2
    refine ⟨y, z, rfl, rfl, l, xs, j, n, rfl, rfl, s2 _ _ e1, hj', ?_⟩
    refine k _ _ (S2.upd hM ⟨_, rfl, by rw [List.length_set]; exact z1, dpa_set (dp_monos (same_msk s2) _ _ g) n (.int _)⟩)
end
end KX
namespace KX
open PySem PySem.Spec PyProof.Rows L2
section
variable {X : Cx} {B : Hp} {M M' M2 : Ms} {L L' L2' : Ls} {a b c e : Expr} {es : List Expr} {d da db dc d1 d2 d3 : PyData} {ds : List PyData} {pos : Pos} {p q : Bool} {rest body orelse : List Stmt} {D : Ends} {Mid : L2.St → Hp → Prop} {tg it : Expr}

/-! ## what is walked -/
def tI (K : PySem.W.Frag) (B : Hp) (M : Ms) (L : Ls) (n : Nat) (Y : Nat → PyData) : TI := fun σ H R => Sta K B M L σ H ∧ ∀ (J : It) (H1 : Hp), Same H H1 →
  (∀ O : List Addr, (∀ b ∈ O, b ∈ adr M ∨ H1 b = none) → ∃ G : Hp → Prop, (∀ H2, Same (msk (adr M) H1) (msk O H2) → (∀ b ∈ O, ∃ u, H2 b = some u) → G H2) ∧ L2.Walk J n G (fun i Hh v H' => Same Hh H' ∧ Dp K (msk O H') v (Y i))) → R J H1
def EI (X : Cx) (B : Hp) (M : Ms) (L : Ls) (tg it : Expr) (n : Nat) (Y : Nat → PyData) : Prop := PI X tg it (tI X.K B M L n Y)
theorem pi_imp {w w' : TI} (h : PI X tg it w) (k : ∀ σ H R, w' σ H R → w σ H R) : PI X tg it w' := ⟨fun pins s σ H R I q => h.run pins s σ H R I (k _ _ _ q)⟩
def yAt (ds : List PyData) (i : Nat) : PyData := ds.getD i .none
theorem yAt_of {i : Nat} {d : PyData} (h : ds[i]? = some d) : yAt ds i = d := by
  unfold yAt
  rw [List.getD_eq_getElem?_getD, h]
  rfl
theorem ei_tup (he : ED X B M L it (.tuple ds)) : EI X B M L tg it ds.length (yAt ds) :=
  pi_imp (pi_tup he) fun σ H R ⟨S, k⟩ => ⟨S, fun v H1 s1 g1 => by
    obtain ⟨a, xs, rfl, h1, h2⟩ := dp_tup g1
    refine ⟨a, rfl, ⟨xs, same_t msk_same h1⟩, k (Itt X.K a) H1 s1 fun O hO => ⟨fun H2 => SqT X.K H2 a xs ∧ DpAll X.K (msk O H2) xs ds, fun H2 s2 _ => ⟨same_t msk_same (same_t s2 h1), dp_monos s2 _ _ h2⟩, ?_⟩⟩
    rw [← dpa_len h2]
    refine ⟨fun i Hh hi g => walk_tup.goes i Hh hi g.1, fun Hh g => walk_tup.stops Hh g.1, fun i Hh v H' hi g y => ?_⟩
    obtain ⟨e, y'⟩ := walk_tup.yields i Hh v H' hi g.1 y
    subst e
    obtain ⟨d, hd, gd⟩ := dpa_back g.2 y'
    rw [yAt_of hd]
    exact ⟨Same.refl _, gd⟩⟩
theorem ei_lst (he : ED X B M L it (.list ds)) : EI X B M L tg it ds.length (yAt ds) :=
  pi_imp (pi_list he) fun σ H R ⟨S, k⟩ => ⟨S, fun v H1 s1 g1 => by
    obtain ⟨a, xs, rfl, h1, h2⟩ := dp_lst g1
    refine ⟨a, rfl, ⟨xs, same_l msk_same h1⟩, k (Itl X.K a) H1 s1 fun O hO => ⟨fun H2 => SqL X.K H2 a xs ∧ DpAll X.K (msk O H2) xs ds, fun H2 s2 _ => ⟨same_l msk_same (same_l s2 h1), dp_monos s2 _ _ h2⟩, ?_⟩⟩
    rw [← dpa_len h2]
    refine ⟨fun i Hh hi g => walk_list.goes i Hh hi g.1, fun Hh g => walk_list.stops Hh g.1, fun i Hh v H' hi g y => ?_⟩
    obtain ⟨e, y'⟩ := walk_list.yields i Hh v H' hi g.1 y
    subst e
    obtain ⟨d, hd, gd⟩ := dpa_back g.2 y'
    rw [yAt_of hd]
    exact ⟨Same.refl _, gd⟩⟩
theorem ei_range {px : Pos} {j : Int} (hm : X.mg "range" = none) (ha : EA X B M L [a] [.int j]) (h1 : 0 ≤ j) (h2 : j ≤ 100000) (hg : Gl X "range" := by rfl) (hs : starEach [a] X.env = [(false, eval a X.env)] := by rfl) :
    EI X B M L tg (.Call (.Name "range" px) [a] [] pos) j.toNat (fun i => .int i) :=
  pi_imp (pi_range1 hg hm ha hs) fun σ H R ⟨S, k⟩ => ⟨S, fun vs H1 s1 g1 => by
    obtain ⟨v, rfl, g⟩ := dpa1 g1
    cases g
    refine ⟨j, rfl, by omega, by omega, k (Itr 0 j.toNat) H1 s1 fun O hO => ⟨fun _ => True, fun _ _ _ => trivial, ⟨fun i _ hi _ => hi, fun _ _ => Nat.le_refl _, fun i Hh v H' hi g y => ?_⟩⟩⟩
    obtain ⟨e, y⟩ := y
    subst e; subst y
    rw [Int.zero_add]
    exact ⟨Same.refl _, .int _⟩⟩
theorem ei_down {b c : Expr} {px : Pos} {j : Int} (hm : X.mg "range" = none) (ha : EA X B M L [a, b, c] [.int j, .int 0, .int (-1)]) (h1 : -1 ≤ j) (h2 : j ≤ 100000) (hg : Gl X "range" := by rfl)
    (hs : starEach [a, b, c] X.env = (false, eval a X.env) :: starEach [b, c] X.env := by rfl) (hpl : (backTo pos (starEach [b, c] X.env)).any (·.1) = false := by rfl) :
    EI X B M L tg (.Call (.Name "range" px) [a, b, c] [] pos) j.toNat (fun i => .int (j - i)) :=
  pi_imp (pi_range3 hg hm ha hs hpl) fun σ H R ⟨S, k⟩ => ⟨S, fun vs H1 s1 g1 => by
    cases g1 with
    | cons g1 g2 =>
      obtain ⟨v, w, rfl, g3, g4⟩ := dpa2 g2
      cases g1; cases g3; cases g4
      have hn : (j - 0).toNat = j.toNat := by rw [Int.sub_zero]
      refine ⟨j, 0, -1, j.toNat, rfl, by rw [← hn]; exact RgC.neg (by omega) (by omega) (by omega) (by omega), k (Itc j (-1) j.toNat) H1 s1 fun O hO => ⟨fun _ => True, fun _ _ _ => trivial, ⟨fun i _ hi _ => hi, fun _ _ => Nat.le_refl _, fun i Hh v H' hi g y => ?_⟩⟩⟩
      obtain ⟨e, y⟩ := y
      subst e; subst y
      rw [show j + (i : Nat) * (-1 : Int) = j - i by omega]
      exact ⟨Same.refl _, .int _⟩⟩
theorem sqA_of {K : PySem.W.Frag} {H : Hp} {v : V} {O : List Addr} (h : Dp K (msk O H) v d) (hd : d = .tuple ds ∨ d = .list ds) : ∃ l a xs, v = .ref a ∧ SqA l K (msk O H) a xs ∧ DpAll K (msk O H) xs ds := by
  rcases hd with rfl | rfl
  · obtain ⟨a, xs, rfl, h1, h2⟩ := dp_tup h
    exact ⟨false, a, xs, rfl, h1, h2⟩
  · obtain ⟨a, xs, rfl, h1, h2⟩ := dp_lst h
    exact ⟨true, a, xs, rfl, h1, h2⟩
theorem same_A {K : PySem.W.Frag} {l : Bool} {H H' : Hp} {a : Addr} {xs : List V} (s : Same H H') (h : SqA l K H a xs) : SqA l K H' a xs := by
  cases l with
  | true => exact same_l s (show SqL K H a xs from h)
  | false => exact same_t s (show SqT K H a xs from h)
def yEn (ds : List PyData) (i : Nat) : PyData := .tuple [.int i, yAt ds i]
theorem ei_enum {px tpos : Pos} {elts : List Expr} {kk : Nat} (hm : X.mg "enumerate" = none) (ha : EA X B M L [a] [d]) (hd : d = .tuple ds ∨ d = .list ds) (hg : Gl X "enumerate" := by rfl) (hs : starEach [a] X.env = [(false, eval a X.env)] := by rfl) :
    EI X B M L (.Tuple elts kk tpos) (.Call (.Name "enumerate" px) [a] [] pos) ds.length (yEn ds) :=
  pi_imp (pi_enumA hg hm ha hs) fun σ H R ⟨S, k⟩ => ⟨S, fun vs H1 s1 g1 => by
    obtain ⟨v, rfl, g⟩ := dpa1 g1
    obtain ⟨l, a, xs, rfl, h1, h2⟩ := sqA_of g hd
    refine ⟨l, a, xs, rfl, same_A msk_same h1, k (ItEA X.K l a xs) H1 s1 fun O hO => ⟨fun H2 => SqA l X.K H2 a xs ∧ DpAll X.K (msk O H2) xs ds ∧ ∀ b ∈ O, ∃ u, H2 b = some u, fun H2 s2 hb => ⟨same_A msk_same (same_A s2 h1), dp_monos s2 _ _ h2, hb⟩, ?_⟩⟩
    rw [← dpa_len h2]
    refine ⟨fun i Hh hi g => ⟨hi, g.1⟩, fun Hh g => ⟨rfl, g.1⟩, fun i Hh v H' hi g y => ?_⟩
    obtain ⟨T, x, rfl, hT, rfl, hx⟩ := y
    obtain ⟨d, hd, gd⟩ := dpa_back g.2.1 hx
    have ho : T ∉ O := fun hm => by
      obtain ⟨u, hu⟩ := g.2.2 T hm
      rw [hT] at hu; cases hu
    unfold yEn
    rw [yAt_of hd]
    exact ⟨same_new hT, fresh_tO ho hT (.cons (.int _) (.cons gd .nil))⟩⟩
def yZip (ds es : List PyData) (i : Nat) : PyData := .tuple [yAt ds i, yAt es i]
theorem ei_zip {px tpos : Pos} {elts : List Expr} {kk : Nat} {ds2 : List PyData} (hm : X.mg "zip" = none) (ha : EA X B M L [a, b] [d, d1]) (hd : d = .tuple ds ∨ d = .list ds) (hd1 : d1 = .tuple ds2 ∨ d1 = .list ds2) (hg : Gl X "zip" := by rfl)
    (hs : starEach [a, b] X.env = (false, eval a X.env) :: starEach [b] X.env := by rfl) (hpl : (backTo pos (starEach [b] X.env)).any (·.1) = false := by rfl) :
    EI X B M L (.Tuple elts kk tpos) (.Call (.Name "zip" px) [a, b] [] pos) (min ds.length ds2.length) (yZip ds ds2) :=
  pi_imp (pi_zipG hg hm ha hs hpl) fun σ H R ⟨S, k⟩ => ⟨S, fun vs H1 s1 g1 => by
    obtain ⟨v, w, rfl, g, g'⟩ := dpa2 g1
    obtain ⟨l, a, xs, rfl, h1, h2⟩ := sqA_of g hd
    obtain ⟨l2, a2, ys, rfl, h3, h4⟩ := sqA_of g' hd1
    refine ⟨l, l2, a, a2, xs, ys, rfl, same_A msk_same h1, same_A msk_same h3, k (ItZA X.K l l2 a a2 xs ys) H1 s1 fun O hO => ⟨fun H2 => (SqA l X.K H2 a xs ∧ SqA l2 X.K H2 a2 ys) ∧ (DpAll X.K (msk O H2) xs ds ∧ DpAll X.K (msk O H2) ys ds2) ∧ ∀ b ∈ O, ∃ u, H2 b = some u,
      fun H2 s2 hb => ⟨⟨same_A msk_same (same_A s2 h1), same_A msk_same (same_A s2 h3)⟩, ⟨dp_monos s2 _ _ h2, dp_monos s2 _ _ h4⟩, hb⟩, ?_⟩⟩
    rw [← dpa_len h2, ← dpa_len h4]
    refine ⟨fun i Hh hi g => ⟨by omega, by omega, g.1.1, g.1.2⟩, fun Hh g => ⟨rfl, g.1.1, g.1.2⟩, fun i Hh v H' hi g y => ?_⟩
    obtain ⟨T, x, y, rfl, hT, rfl, hx, hy⟩ := y
    obtain ⟨e1, hd, gd⟩ := dpa_back g.2.1.1 hx
    obtain ⟨e2, hd2, gd2⟩ := dpa_back g.2.1.2 hy
    have ho : T ∉ O := fun hm => by
      obtain ⟨u, hu⟩ := g.2.2 T hm
      rw [hT] at hu; cases hu
    unfold yZip
    rw [yAt_of hd, yAt_of hd2]
    exact ⟨same_new hT, fresh_tO ho hT (.cons gd (.cons gd2 .nil))⟩⟩

/-! ## targets -/
def TgOk (K : PySem.W.Frag) (g : TG) (d : PyData) (L L' : Ls) : Prop := ∀ (B : Hp) (M : Ms) (σ : L2.St) (H : Hp) (v : V) (Q : L2.St → Hp → Prop), Sta K B M L σ H → Dp K (msk (adr M) H) v d → (∀ σ', Sta K B M L' σ' H → Q σ' H) → g v σ H Q
theorem tg_name {K : PySem.W.Frag} (i : Nat) : TgOk K (gName i) d L (L.set i (some (.d d))) := fun B M σ H v Q S g k => k _ (S.set g)
theorem tg_pair {K : PySem.W.Frag} (i j : Nat) : TgOk K (gTup K 2 (gCons (gName i) (gCons (gName j) gNil))) (.tuple [d1, d2]) L ((L.set i (some (.d d1))).set j (some (.d d2))) := fun B M σ H v Q S g k => by
  obtain ⟨a, xs, rfl, h1, h2⟩ := dp_tup g
  obtain ⟨x, y, rfl, g1, g2⟩ := dpa2 h2
  exact ⟨a, _, rfl, same_t msk_same h1, rfl, x, [y], rfl, y, [], rfl, rfl, k _ ((S.set (s := .d d1) g1).set (s := .d d2) g2)⟩

/-! ## for -/
theorem tr_pr {P : Prop} {Pre : L2.St → Hp → Prop} {sts : List Stmt} (h : P → Tr X Pre sts D) : Tr X (fun σ H => P ∧ Pre σ H) sts D :=
  ⟨fun pins s σ H D' I ⟨p, le⟩ => (h p.1).run pins s σ H D' I ⟨p.2, le⟩⟩
theorem Sta.start {K : PySem.W.Frag} {σ : L2.St} {H : Hp} (S : Sta K B M L σ H) : Sta K (msk (adr M) H) M L σ H ∧ Same B (msk (adr M) H) :=
  ⟨⟨S.len, S.loc, S.nd, S.own, msk_same, fun q hq => msk_in (List.mem_map.mpr ⟨q, hq, rfl⟩)⟩, fun b u hb => by
    rw [msk_out (fun z => ?_)]
    · exact S.ex _ _ hb
    · obtain ⟨q, hq, rfl⟩ := List.mem_map.mp z
      rw [S.fr q hq] at hb
      cases hb⟩
/-- for target in it: body. Before turn i: own objects Mi i, names Li i, what holds Pr i; behind the target's store: Lt i -/
theorem tr_for {n : Nat} {Y : Nat → PyData} {g : TG} (Mi : Nat → Ms) (Li Lt : Nat → Ls) (Pr : Nat → Prop) (hp : PassesOwn (model X.prog X.w) X.A X.env X.xe) (hc : X.calm = true) (hi : EI X B M L tg it n Y) (hg : PG X tg g)
    (ht : ∀ i, i < n → TgOk X.K g (Y i) (Li i) (Lt i)) (h0 : LeL (Li 0) L) (hM0 : M = Mi 0) (hP0 : Pr 0) (had : ∀ i, adr (Mi i) = adr M)
    (hb : ∀ B1, Same B B1 → ∀ i, i < n → Pr i → Tr X (Sta X.K B1 (Mi i) (Lt i)) body { nx := fun σ H => Pr (i + 1) ∧ Sta X.K B1 (Mi (i + 1)) (Li (i + 1)) σ H, rt := D.rt })
    (hr : Pr n → Tr X (Sta X.K B (Mi n) (Li n)) rest D) (hs : ∀ x, foldedSetIterable it X.env x = pure x := by intro _; rfl) : Tr X (Sta X.K B M L) (.For tg it body [] pos :: rest) D := by
  refine tr_cons (Mid := fun σ H => Pr n ∧ Sta X.K B (Mi n) (Li n) σ H)
    (ps_for hp hc hi hg (pss_fam (ι := Hp × Nat) (P := fun j σ H => (Same B j.1 ∧ j.2 < n ∧ Pr j.2) ∧ Sta X.K j.1 (Mi j.2) (Lt j.2) σ H) (E := fun j => { nx := fun σ H => Pr (j.2 + 1) ∧ Sta X.K j.1 (Mi (j.2 + 1)) (Li (j.2 + 1)) σ H, rt := D.rt }) fun j => tr_pr fun h => hb j.1 h.1 j.2 h.2.1 h.2.2) hs)
    (tr_pr hr) fun σ H nx S k => ⟨S, fun J H1 s1 hW => ?_⟩
  obtain ⟨G, stab, W⟩ := hW (adr M) fun b hb => .inl hb
  have S1 := S.same s1
  obtain ⟨S2, sb⟩ := S1.start
  have toG : ∀ (i : Nat) (σ' : L2.St) (H' : Hp), Sta X.K (msk (adr M) H1) (Mi i) (Li i) σ' H' → G H' := fun i σ' H' S' => stab H' (fun b u hb => by
    have hbo : b ∉ adr M := fun z => by
      rw [msk_in z] at hb
      cases hb
    rw [msk_out hbo]
    exact S'.ex _ _ hb) fun b hb => S'.has b (by rw [had]; exact hb)
  refine for_it (D := { D with nx := nx }) (g := g) (tb := fun D' σ H => ∃ j : Hp × Nat, ((Same B j.1 ∧ j.2 < n ∧ Pr j.2) ∧ Sta X.K j.1 (Mi j.2) (Lt j.2) σ H) ∧ Le { nx := fun σ H => Pr (j.2 + 1) ∧ Sta X.K j.1 (Mi (j.2 + 1)) (Li (j.2 + 1)) σ H, rt := D.rt } D') W (fun i σ' H' => Pr i ∧ Sta X.K (msk (adr M) H1) (Mi i) (Li i) σ' H') ⟨hP0, by rw [← hM0]; exact S2.le h0⟩ (fun i σ' H' _ q => toG i σ' H' q.2) (fun i v σ' H' H2 hlt q y => ?_) fun σ' H' q => k _ _ ⟨q.1, q.2.rebase sb⟩
  obtain ⟨s2, gd⟩ := y
  refine ht i hlt _ _ _ _ _ _ (q.2.same s2) (by rw [had]; exact gd) fun σ2 S3 => ?_
  exact ⟨(msk (adr M) H1, i), ⟨⟨sb, hlt, q.1⟩, S3⟩, fun _ _ h => h, fun _ _ h => h, fun _ _ h => h.elim, fun _ _ h => h.elim⟩
/-- .. over one name, over a pair of names -/
theorem tr_forN {n : Nat} {Y : Nat → PyData} {x : Str} {px : Pos} (i0 : Nat) (Mi : Nat → Ms) (Li : Nat → Ls) (Pr : Nat → Prop) (hN : X.N.Nodup) (hp : PassesOwn (model X.prog X.w) X.A X.env X.xe) (hc : X.calm = true) (hi : EI X B M L (.Name x px) it n Y)
    (h0 : LeL (Li 0) L) (hM0 : M = Mi 0) (hP0 : Pr 0) (had : ∀ i, adr (Mi i) = adr M)
    (hb : ∀ B1, Same B B1 → ∀ i, i < n → Pr i → Tr X (Sta X.K B1 (Mi i) ((Li i).set i0 (some (.d (Y i))))) body { nx := fun σ H => Pr (i + 1) ∧ Sta X.K B1 (Mi (i + 1)) (Li (i + 1)) σ H, rt := D.rt })
    (hr : Pr n → Tr X (Sta X.K B (Mi n) (Li n)) rest D) (hx1 : X.N[i0]? = some x := by rfl) (hx : Loc X.env.scope x := by first | exact Or.inl rfl | exact Or.inr rfl) (hf : X.fn x = true ∨ X.env.scope.names.lookup x = some .local := by first | exact .inl rfl | exact .inr rfl)
    (hs : ∀ x, foldedSetIterable it X.env x = pure x := by intro _; rfl) : Tr X (Sta X.K B M L) (.For (.Name x px) it body [] pos :: rest) D :=
  tr_for Mi Li (fun i => (Li i).set i0 (some (.d (Y i)))) Pr hp hc hi (pg_name hN hx1 hx hf) (fun i _ => tg_name i0) h0 hM0 hP0 had hb hr hs
theorem tr_forP {n : Nat} {Y1 Y2 : Nat → PyData} {x y : Str} {px py tpos : Pos} {kk : Nat} (i0 j0 : Nat) (Mi : Nat → Ms) (Li : Nat → Ls) (Pr : Nat → Prop) (hN : X.N.Nodup) (hp : PassesOwn (model X.prog X.w) X.A X.env X.xe) (hc : X.calm = true)
    (hi : EI X B M L (.Tuple [.Name x px, .Name y py] kk tpos) it n (fun i => .tuple [Y1 i, Y2 i]))
    (h0 : LeL (Li 0) L) (hM0 : M = Mi 0) (hP0 : Pr 0) (had : ∀ i, adr (Mi i) = adr M)
    (hb : ∀ B1, Same B B1 → ∀ i, i < n → Pr i → Tr X (Sta X.K B1 (Mi i) (((Li i).set i0 (some (.d (Y1 i)))).set j0 (some (.d (Y2 i))))) body { nx := fun σ H => Pr (i + 1) ∧ Sta X.K B1 (Mi (i + 1)) (Li (i + 1)) σ H, rt := D.rt })
    (hr : Pr n → Tr X (Sta X.K B (Mi n) (Li n)) rest D) (hx1 : X.N[i0]? = some x := by rfl) (hx : Loc X.env.scope x := by first | exact Or.inl rfl | exact Or.inr rfl) (hf : X.fn x = true ∨ X.env.scope.names.lookup x = some .local := by first | exact .inl rfl | exact .inr rfl)
    (hy1 : X.N[j0]? = some y := by rfl) (hy : Loc X.env.scope y := by first | exact Or.inl rfl | exact Or.inr rfl) (hfy : X.fn y = true ∨ X.env.scope.names.lookup y = some .local := by first | exact .inl rfl | exact .inr rfl)
    (ha1 : (assignEach [.Name x px, .Name y py] X.env).map (·.2) = assign (.Name x px) X.env :: (assignEach [.Name y py] X.env).map (·.2) := by rfl) (ha2 : (assignEach [.Name y py] X.env).map (·.2) = assign (.Name y py) X.env :: (assignEach [] X.env).map (·.2) := by rfl)
    (hn : (assignEach [.Name x px, .Name y py] X.env).length = 2 := by rfl) (hst : (assignEach [.Name x px, .Name y py] X.env).findIdx? (·.1) = none := by rfl)
    (hs : ∀ x, foldedSetIterable it X.env x = pure x := by intro _; rfl) : Tr X (Sta X.K B M L) (.For (.Tuple [.Name x px, .Name y py] kk tpos) it body [] pos :: rest) D :=
  tr_for Mi Li (fun i => ((Li i).set i0 (some (.d (Y1 i)))).set j0 (some (.d (Y2 i)))) Pr hp hc hi (pg_tup hc (pgs_cons (pg_name hN hx1 hx hf) (pgs_cons (pg_name hN hy1 hy hfy) pgs_nil ha2) ha1) hn hst) (fun i _ => tg_pair i0 j0) h0 hM0 hP0 had hb hr hs
end
end KX
namespace KX
open PySem PySem.Spec PyProof.Rows L2

/-! ## a pure def -/
def startL (N : List Str) (ds : List PyData) : Ls := ds.map (fun d => some (Sh.d d)) ++ List.replicate (N.length - ds.length) none
structure Rn (K : PySem.W.Frag) (B : Hp) (M0 : Ms) (D : Ends) : Prop where
  nx : ∀ H M L σ, (∀ q ∈ M0, q ∈ M) → Sta K B M L σ H → D.nx σ H
theorem frz_adr (M : Ms) (H : Hp) : adr (M.map fun q => (q.1, Ct.x ((H q.1).getD (.lst [])))) = adr M := by
  unfold adr
  rw [List.map_map]
  rfl
section
variable {P : Program} {w : World} {K : PySem.W.Frag} {mg : Str → Option Value} {base : Heap}
theorem sta_start {N : List Str} {O : List Addr} {H : Hp} {vs : List V} {ds : List PyData} (hO : ∀ b ∈ O, ∃ u, H b = some u) (nd : O.Nodup) (h : DpAll K (msk O H) vs ds) :
    Sta K (msk O H) (O.map fun b => (b, Ct.x ((H b).getD (.lst [])))) (startL N ds) (L2.start N vs) H := by
  have ad : adr (O.map fun b => (b, Ct.x ((H b).getD (.lst [])))) = O := by
    unfold adr
    rw [List.map_map]
    exact List.map_id O
  refine ⟨?_, fun i s e => ?_, by rw [ad]; exact nd, fun q hq => ?_, msk_same, fun q hq => ?_⟩
  · unfold L2.start startL
    rw [List.length_append, List.length_append, List.length_map, List.length_map, List.length_replicate, List.length_replicate, dpa_len h]
  · rw [ad]
    unfold startL at e
    by_cases hi : i < ds.length
    · rw [List.getElem?_append_left (by simpa using hi), List.getElem?_map, List.getElem?_eq_getElem hi] at e
      cases e
      obtain ⟨v, h1, h2⟩ := dpa_get h (List.getElem?_eq_getElem hi)
      refine ⟨v, ?_, h2⟩
      unfold L2.start
      rw [List.getElem?_append_left (by simpa [dpa_len h] using hi), List.getElem?_map, h1]
      rfl
    · rw [List.getElem?_append_right (by simpa using hi), List.getElem?_replicate] at e
      split at e <;> cases e
  · rw [ad]
    obtain ⟨b, hb, rfl⟩ := List.mem_map.mp hq
    obtain ⟨u, hu⟩ := hO b hb
    show H b = some _
    rw [hu]
    rfl
  · obtain ⟨b, hb, rfl⟩ := List.mem_map.mp hq
    exact msk_in hb
theorem same_end {O : List Addr} {H H' : Hp} {M : Ms} {L : Ls} {σ : L2.St} (hs : ∀ q ∈ O.map fun b => (b, Ct.x ((H b).getD (.lst []))), q ∈ M) (S : Sta K (msk O H) M L σ H') : Same H H' := fun b u hb => by
  by_cases ho : b ∈ O
  · have := S.own _ (hs _ (List.mem_map.mpr ⟨b, ho, rfl⟩))
    have e : H' b = some ((H b).getD (.lst [])) := this
    rw [e, hb]
    rfl
  · exact S.ex b u (by rw [msk_out ho]; exact hb)
theorem fn_pure {x qual : Str} {st : Stmt} {f : Addr} {fd : FuncData} {N ps : List Str} {k : Nat} {R : List PyData → PyData → Prop} (F : Fun K x qual st f fd) (S : FnScope N ps (defScope st)) (hl : ∀ ds d, R ds d → ds.length = ps.length)
    (hbody : ∀ (cdv : Value) (A : Around) (outer : List Env) (s : Shared) (H : Hp) (E : XK), Room k (A.deeper (envOfC qual (defScope st) s.heap.objs.size f cdv)) → ∀ (B : Hp) (M0 : Ms) (D : Ends) (ds : List PyData) (d : PyData), R ds d → Rt K B M0 D d → (d = .none → Rn K B M0 D) →
      Tr (cxOf CX0 P w K mg base N qual (defScope st) f cdv A outer s H E).nox (Sta K B M0 (startL N ds)) (defBody st) D) : FnOk P w K mg base CX0 (k + 1) f fd ps (spD K R) := by
  refine F.ok S (fun vs H Q E h => ?_) (fun cdv A outer s H vs Q E hr h => ?_)
  · obtain ⟨O, ds, d, _, _, hR, hd, _⟩ := h
    rw [dpa_len hd]
    exact hl ds d hR
  · obtain ⟨O, ds, d, hO, nd, hR, hd, kq⟩ := h
    have ad : adr (O.map fun b => (b, Ct.x ((H b).getD (.lst [])))) = O := by
      unfold adr
      rw [List.map_map]
      exact List.map_id O
    refine ⟨_, hbody cdv A outer s H E hr (msk O H) (O.map fun b => (b, Ct.x ((H b).getD (.lst [])))) { nx := fun _ H' => Q .non H', rt := Q } ds d hR ⟨fun v H' M L σ hs S' g => ?_⟩ (fun e => ⟨fun H' M L σ hs S' => ?_⟩), sta_start hO nd hd, Le.refl _⟩
    · rw [ad] at g
      exact kq v H' (same_end hs S') g
    · exact kq .non H' (same_end hs S') (by rw [e]; exact .non)
end

/-! ## comprehensions -/
theorem wipe_get (σ : L2.St) (j : Nat) : ∀ vs : List Nat, (wipe σ vs)[j]? = if j ∈ vs then (if j < σ.length then some none else none) else σ[j]?
  | [] => by simp [wipe]
  | v :: vs => by
    unfold wipe
    by_cases hj : v = j
    · subst hj
      by_cases hv : v < σ.length
      · rw [List.getElem?_set_self (by rw [wipe_length]; exact hv), if_pos (by simp), if_pos hv]
      · rw [List.getElem?_eq_none (by rw [List.length_set, wipe_length]; omega), if_pos (by simp), if_neg hv]
    · rw [List.getElem?_set_ne hj, wipe_get σ j vs]
      by_cases h : j ∈ vs
      · rw [if_pos h, if_pos (List.mem_cons_of_mem _ h)]
      · rw [if_neg h, if_neg (fun z => (List.mem_cons.mp z).elim (fun e => hj e.symm) h)]
theorem wipe_set {σ : L2.St} {i : Nat} {x : Option V} {vs : List Nat} (hi : i ∈ vs) : wipe (σ.set i x) vs = wipe σ vs := by
  apply List.ext_getElem?
  intro j
  rw [wipe_get, wipe_get, List.length_set]
  by_cases h : j ∈ vs
  · rw [if_pos h, if_pos h]
  · rw [if_neg h, if_neg h, List.getElem?_set_ne (fun e => h (by rw [← e]; exact hi))]
theorem wipe_idem (σ : L2.St) (vs : List Nat) : wipe (wipe σ vs) vs = wipe σ vs := by
  apply List.ext_getElem?
  intro j
  rw [wipe_get, wipe_length]
  by_cases h : j ∈ vs
  · rw [if_pos h, wipe_get, if_pos h]
  · rw [if_neg h]
section
variable {X : Cx} {B : Hp} {M M' M2 : Ms} {L L' L2' : Ls} {a b c e : Expr} {es : List Expr} {d da db dc d1 d2 d3 : PyData} {ds : List PyData} {pos : Pos} {p q : Bool} {rest body orelse : List Stmt} {D : Ends} {tg it elt : Expr} {ifs : List Expr} {scope : Scope}
def TgW (K : PySem.W.Frag) (g : TG) (d : PyData) (L L' : Ls) (vs : List Nat) : Prop := ∀ (B : Hp) (M : Ms) (σ : L2.St) (H : Hp) (v : V) (Q : L2.St → Hp → Prop), Sta K B M L σ H → Dp K (msk (adr M) H) v d → (∀ σ', Sta K B M L' σ' H → wipe σ' vs = wipe σ vs → Q σ' H) → g v σ H Q
theorem tgw_name {K : PySem.W.Frag} {vs : List Nat} (i : Nat) (hi : i ∈ vs) : TgW K (gName i) d L (L.set i (some (.d d))) vs := fun B M σ H v Q S g k => k _ (S.set g) (wipe_set hi)
theorem tgw_pair {K : PySem.W.Frag} {vs : List Nat} (i j : Nat) (hi : i ∈ vs) (hj : j ∈ vs) : TgW K (gTup K 2 (gCons (gName i) (gCons (gName j) gNil))) (.tuple [d1, d2]) L ((L.set i (some (.d d1))).set j (some (.d d2))) vs := fun B M σ H v Q S g k => by
  obtain ⟨a, xs, rfl, h1, h2⟩ := dp_tup g
  obtain ⟨x, y, rfl, g1, g2⟩ := dpa2 h2
  exact ⟨a, _, rfl, same_t msk_same h1, rfl, x, [y], rfl, y, [], rfl, rfl, k _ ((S.set (s := .d d1) g1).set (s := .d d2) g2) (by rw [wipe_set hj, wipe_set hi])⟩
theorem pe_fam {ι : Type} {C : ι → Prop} {t : ι → TE} (h : ∀ j, C j → PE X e (t j)) : PE X e (fun σ H Q => ∃ j, C j ∧ t j σ H Q) := ⟨fun pins s σ H Q I ⟨j, hj, q⟩ => (h j hj).run pins s σ H Q I q⟩
theorem pts_fam {ι : Type} {C : ι → Prop} {t : ι → TT} (h : ∀ j, C j → PTs X ifs (t j)) : PTs X ifs (fun σ H Q => ∃ j, C j ∧ t j σ H Q) := ⟨fun pins s σ H Q I ⟨j, hj, q⟩ => (h j hj).run pins s σ H Q I q⟩
/-- what is made of n turns -/
def done (b : Nat → Bool) (F : Nat → PyData) (n : Nat) : List PyData := ((List.range n).filter b).map F
theorem done_succ_t {b : Nat → Bool} {F : Nat → PyData} {n : Nat} (h : b n = true) : done b F (n + 1) = done b F n ++ [F n] := by
  unfold done
  rw [List.range_succ, List.filter_append, List.map_append]
  simp [h]
theorem done_succ_f {b : Nat → Bool} {F : Nat → PyData} {n : Nat} (h : b n = false) : done b F (n + 1) = done b F n := by
  unfold done
  rw [List.range_succ, List.filter_append, List.map_append]
  simp [h]
theorem done_len {b : Nat → Bool} {F : Nat → PyData} {n : Nat} : (done b F n).length ≤ n := by
  unfold done
  rw [List.length_map]
  exact Nat.le_trans (List.length_filter_le _ _) (by simp)
abbrev BIx := Nat × Hp × Ms × Addr × List PyData
def teC (K : PySem.W.Frag) (M : Ms) (n : Nat) (b : Nat → Bool) (F : Nat → PyData) (Lt : Nat → Ls) : TE := fun σ H Q => ∃ j : BIx, (j.1 < n ∧ b j.1 = true ∧ adr j.2.2.1 = adr M) ∧ tP K j.2.1 ((j.2.2.2.1, .l j.2.2.2.2) :: j.2.2.1) (Lt j.1) (F j.1) σ H Q
def ttC (K : PySem.W.Frag) (M : Ms) (n : Nat) (b : Nat → Bool) (Lt : Nat → Ls) : TT := fun σ H Q => ∃ j : BIx, (j.1 < n ∧ adr j.2.2.1 = adr M) ∧ tPb K j.2.1 ((j.2.2.2.1, .l j.2.2.2.2) :: j.2.2.1) (Lt j.1) (b j.1) σ H Q
theorem lc_run {K : PySem.W.Frag} {n : Nat} {Y F : Nat → PyData} {b : Nat → Bool} {g : TG} {Lt : Nat → Ls} {vs : List Nat} (hz : n ≤ 1000) (ht : ∀ i, i < n → TgW K g (Y i) (wipeL L vs) (Lt i) vs) (σ : L2.St) (H : Hp) (Q : VK)
    (h : tPf K B M L (.l (done b F n)) σ H Q) : tLc (tI K B M L n Y) g (ttC K M n b Lt) (teC K M n b F Lt) vs σ H Q := by
  obtain ⟨S, k⟩ := h
  refine ⟨S, fun J H1 s1 hW Da hDa => ?_⟩
  have S1 := S.same s1
  have hDo := S1.out hDa
  obtain ⟨G, stab, W⟩ := hW (Da :: adr M) fun b hb => by
    rcases List.mem_cons.mp hb with rfl | hb
    · exact .inr hDa
    · exact .inl hb
  -- what is one's own stays as it is
  have adx : adr (M.map fun q => (q.1, Ct.x ((H1 q.1).getD (.lst [])))) = adr M := frz_adr M H1
  have Sx : Sta K (msk (adr M) H1) (M.map fun q => (q.1, Ct.x ((H1 q.1).getD (.lst [])))) (wipeL L vs) (wipe σ vs) H1 := by
    have S1' := S1.wipe vs
    refine ⟨S1'.len, by rw [adx]; exact S1'.loc, by rw [adx]; exact S1'.nd, fun q hq => ?_, msk_same, fun q hq => ?_⟩
    · obtain ⟨q', hq', rfl⟩ := List.mem_map.mp hq
      obtain ⟨u, hu⟩ := ct_some (S1.own q' hq')
      show H1 q'.1 = some _
      rw [hu]
      rfl
    · obtain ⟨q', hq', rfl⟩ := List.mem_map.mp hq
      exact msk_in (List.mem_map.mpr ⟨q', hq', rfl⟩)
  have hx : ∀ q ∈ M.map fun q => (q.1, Ct.x ((H1 q.1).getD (.lst []))), q.2 = Ct.x ((H1 q.1).getD (.lst [])) := fun q hq => by
    obtain ⟨q', hq', rfl⟩ := List.mem_map.mp hq
    rfl
  generalize M.map (fun q => (q.1, Ct.x ((H1 q.1).getD (.lst [])))) = Mx at adx Sx hx
  have S0 : Sta K (msk (adr M) H1) ((Da, .l (done b F 0)) :: Mx) (wipeL L vs) (wipe σ vs) (upd H1 Da (.lst [])) := Sx.grow hDa (fresh_in hDa) ⟨[], upd_same, by simp, .nil⟩
  have toG : ∀ (i : Nat) (H' : Hp), Sta K (msk (adr M) H1) ((Da, .l (done b F i)) :: Mx) (wipeL L vs) (wipe σ vs) H' → G H' := fun i H' S' => stab H' (fun c u hc => by
    have h1 : c ∉ adr M := fun z => by rw [msk_in z] at hc; cases hc
    have h2 : c ≠ Da := fun z => by
      rw [msk_out h1, z, hDa] at hc
      cases hc
    rw [msk_out (by simp [h1, h2])]
    exact S'.ex _ _ hc) fun c hc => S'.has c (by show c ∈ Da :: adr Mx; rw [adx]; exact hc)
  refine lc_it W (fun i H' => Sta K (msk (adr M) H1) ((Da, .l (done b F i)) :: Mx) (wipeL L vs) (wipe σ vs) H') S0 (fun i H' _ q => toG i H' q) (fun i v H' H2 hlt q y => ?_) fun H' q => ?_
  · obtain ⟨s2, gd⟩ := y
    have q2 := q.same s2
    refine ht i hlt _ _ _ _ _ _ q2 (by show Dp K (msk (Da :: adr Mx) H2) v (Y i); rw [adx]; exact gd) fun σ2 S3 hw => ?_
    refine ⟨by rw [hw]; exact wipe_idem σ vs, ⟨(i, msk (adr M) H1, Mx, Da, done b F i), ⟨hlt, adx⟩, S3, fun H3 s3 => ?_⟩⟩
    cases hb : b i with
    | true =>
      refine iteT ⟨(i, msk (adr M) H1, Mx, Da, done b F i), ⟨hlt, hb, adx⟩, S3.same s3, fun v4 H4 s4 g4 => ?_⟩
      have q4 := q2.same (s3.trans s4)
      obtain ⟨xs, e1, z1, g1⟩ := q4.get (k := 0) rfl
      have hl1 := dpa_len g1
      have hl2 := done_len (b := b) (F := F) (n := i)
      refine ⟨xs, e1, small1000 z1, ?_⟩
      have := q4.upd (k := 0) (c' := .l (done b F (i + 1))) (o := .lst (xs ++ [v4])) rfl ⟨_, rfl, by rw [List.length_append]; simp; omega, by rw [done_succ_t hb]; exact dpa_app g1 (.cons g4 .nil)⟩
      exact this
    | false =>
      refine iteF ?_
      rw [done_succ_f hb]
      exact q2.same s3
  · have up : Same H1 (msk [Da] H') := fun c u hc => by
      have h2 : c ≠ Da := fun z => by
        rw [z, hDa] at hc
        cases hc
      rw [msk_out (by simpa using h2)]
      by_cases h1 : c ∈ adr M
      · have hx' : c ∈ adr Mx := by rw [adx]; exact h1
        obtain ⟨q', hq', e⟩ := List.mem_map.mp hx'
        have h6 := q.own q' (List.mem_cons_of_mem _ hq')
        rw [hx q' hq'] at h6
        have h7 : H' q'.1 = some ((H1 q'.1).getD (.lst [])) := h6
        rw [e, hc] at h7
        exact h7
      · exact q.ex c u (by rw [msk_out h1]; exact hc)
    have c := q.own _ List.mem_cons_self
    refine k Da H' (back_none s1 hDa) (s1.trans up) ?_
    have e : adr ((Da, Ct.l (done b F n)) :: Mx) = Da :: adr M := by
      show Da :: adr Mx = _
      rw [adx]
    rw [e] at c
    exact c
end
end KX
namespace KX
open PySem PySem.Spec PyProof.Rows L2
section
variable {X : Cx} {B : Hp} {M M' M2 : Ms} {L L' L2' : Ls} {a b c e : Expr} {es : List Expr} {d da db dc d1 d2 d3 : PyData} {ds : List PyData} {pos : Pos} {p q : Bool} {rest body orelse : List Stmt} {D : Ends} {tg it elt : Expr} {ifs : List Expr} {scope : Scope} {ct ct2 ct3 : Ct}
/-! ## comprehensions, the forms one uses -/
abbrev BlkP (X : Cx) (scope : Scope) (T : Cx → Prop) : Prop := ∀ (s : Shared) (H : Hp) (C : Addr) (cl : List (Str × Addr)) (fp : List Addr), T (X.blk s H scope (compEnvC scope cl C X.env) fp)
theorem pe_lcG {n : Nat} {Y F : Nat → PyData} {t : Nat → Bool} {g : TG} {Lt : Nat → Ls} {own : List (Str × Nat)} (hc : X.calm = true) (hN : X.N.Nodup) (hi : EI X B M L tg it n Y) (ok : BlkOk X.N X.env.scope scope own)
    (hg : BlkP X scope fun Z => PG Z tg g) (htest : ∀ i, i < n → ∀ B1 Mx Da acc, adr Mx = adr M → BlkP X scope fun Z => PTs Z ifs (tPb X.K B1 ((Da, .l acc) :: Mx) (Lt i) (t i)))
    (he : ∀ i, i < n → t i = true → ∀ B1 Mx Da acc, adr Mx = adr M → BlkP X scope fun Z => ED Z B1 ((Da, .l acc) :: Mx) (Lt i) elt (F i)) (hs : ∀ x, foldedSetIterable it X.env x = pure x := by intro _; rfl) :
    PE X (.ListComp elt [⟨tg, it, ifs, 0⟩] scope pos) (tLc (tI X.K B M L n Y) g (ttC X.K M n t Lt) (teC X.K M n t F Lt) (own.map (·.2))) :=
  pe_lc hc hN hi ok hg (fun s H C cl fp => pts_fam (ι := BIx) (C := fun j => j.1 < n ∧ adr j.2.2.1 = adr M) (t := fun j => tPb X.K j.2.1 ((j.2.2.2.1, .l j.2.2.2.2) :: j.2.2.1) (Lt j.1) (t j.1)) fun j hj => htest j.1 hj.1 _ _ _ _ hj.2 s H C cl fp)
    (fun s H C cl fp => pe_fam (ι := BIx) (C := fun j => j.1 < n ∧ t j.1 = true ∧ adr j.2.2.1 = adr M) (t := fun j => tP X.K j.2.1 ((j.2.2.2.1, .l j.2.2.2.2) :: j.2.2.1) (Lt j.1) (F j.1)) fun j hj => he j.1 hj.1 hj.2.1 _ _ _ _ hj.2.2 s H C cl fp) hs
theorem ef_lcG {n : Nat} {Y F : Nat → PyData} {t : Nat → Bool} {g : TG} {Lt : Nat → Ls} {own : List (Str × Nat)} (hz : n ≤ 1000) (hc : X.calm = true) (hN : X.N.Nodup) (hi : EI X B M L tg it n Y) (ok : BlkOk X.N X.env.scope scope own)
    (hg : BlkP X scope fun Z => PG Z tg g) (htg : ∀ i, i < n → TgW X.K g (Y i) (wipeL L (own.map (·.2))) (Lt i) (own.map (·.2))) (htest : ∀ i, i < n → ∀ B1 Mx Da acc, adr Mx = adr M → BlkP X scope fun Z => PTs Z ifs (tPb X.K B1 ((Da, .l acc) :: Mx) (Lt i) (t i)))
    (he : ∀ i, i < n → t i = true → ∀ B1 Mx Da acc, adr Mx = adr M → BlkP X scope fun Z => ED Z B1 ((Da, .l acc) :: Mx) (Lt i) elt (F i)) (hs : ∀ x, foldedSetIterable it X.env x = pure x := by intro _; rfl) :
    EF X B M L (.ListComp elt [⟨tg, it, ifs, 0⟩] scope pos) (.l (done t F n)) :=
  pe_imp (pe_lcG hc hN hi ok hg htest he hs) fun σ H Q h => lc_run hz htg σ H Q h
theorem pts_no {B1 : Hp} {M1 : Ms} {L1 : Ls} : PTs X [] (tPb X.K B1 M1 L1 true) := ⟨fun pins s σ H Q I ⟨S, k⟩ => pts_nil.run pins s σ H Q I (k H (Same.refl H))⟩
theorem pts_1 {B1 : Hp} {M1 : Ms} {L1 : Ls} (h : EB X B1 M1 L1 c p) : PTs X [c] (tPb X.K B1 M1 L1 p) := pts_one h
theorem done_all {F : Nat → PyData} {n : Nat} : done (fun _ => true) F n = (List.range n).map F := by
  unfold done
  rw [List.filter_eq_self.mpr (fun _ _ => rfl)]
/-- [elt for x in it] -/
theorem ef_lcN {n : Nat} {Y F : Nat → PyData} {x : Str} {px : Pos} (i0 : Nat) (hz : n ≤ 1000) (hc : X.calm = true) (hN : X.N.Nodup) (hi : EI X B M L (.Name x px) it n Y) (ok : blkC X.N X.env.scope scope [(x, i0)] = true)
    (he : ∀ i, i < n → ∀ B1 Mx Da acc, adr Mx = adr M → BlkP X scope fun Z => ED Z B1 ((Da, .l acc) :: Mx) ((L.set i0 none).set i0 (some (.d (Y i)))) elt (F i))
    (hx1 : X.N[i0]? = some x := by rfl) (hx : BlkP X scope fun Z => Loc Z.env.scope x := by first | exact fun _ _ _ _ _ => Or.inl rfl | exact fun _ _ _ _ _ => Or.inr rfl) (hf : BlkP X scope fun Z => Z.fn x = true ∨ Z.env.scope.names.lookup x = some .local := by first | exact fun _ _ _ _ _ => Or.inr rfl | exact fun _ _ _ _ _ => Or.inl rfl)
    (hs : ∀ x, foldedSetIterable it X.env x = pure x := by intro _; rfl) : EF X B M L (.ListComp elt [⟨.Name x px, it, [], 0⟩] scope pos) (.l ((List.range n).map F)) := by
  rw [← done_all]
  exact ef_lcG (own := [(x, i0)]) hz hc hN hi (blkOk_by ok) (fun s H C cl fp => pg_name hN hx1 (hx s H C cl fp) (hf s H C cl fp)) (fun i _ => tgw_name i0 (by simp)) (fun i hi B1 Mx Da acc _ s H C cl fp => pts_no) (fun i hi _ => he i hi) hs
/-- [elt for x, y in it if c] -/
theorem ef_lcP {n : Nat} {Y1 Y2 F : Nat → PyData} {t : Nat → Bool} {x y : Str} {px py tpos : Pos} {kk : Nat} (i0 j0 : Nat) (hz : n ≤ 1000) (hc : X.calm = true) (hN : X.N.Nodup) (hi : EI X B M L (.Tuple [.Name x px, .Name y py] kk tpos) it n (fun i => .tuple [Y1 i, Y2 i])) (ok : blkC X.N X.env.scope scope [(x, i0), (y, j0)] = true)
    (htest : ∀ i, i < n → ∀ B1 Mx Da acc, adr Mx = adr M → BlkP X scope fun Z => PTs Z ifs (tPb X.K B1 ((Da, .l acc) :: Mx) (((((L.set j0 none).set i0 none)).set i0 (some (.d (Y1 i)))).set j0 (some (.d (Y2 i)))) (t i)))
    (he : ∀ i, i < n → t i = true → ∀ B1 Mx Da acc, adr Mx = adr M → BlkP X scope fun Z => ED Z B1 ((Da, .l acc) :: Mx) (((((L.set j0 none).set i0 none)).set i0 (some (.d (Y1 i)))).set j0 (some (.d (Y2 i)))) elt (F i))
    (hx1 : X.N[i0]? = some x := by rfl) (hy1 : X.N[j0]? = some y := by rfl)
    (hx : BlkP X scope fun Z => Loc Z.env.scope x := by first | exact fun _ _ _ _ _ => Or.inl rfl | exact fun _ _ _ _ _ => Or.inr rfl) (hf : BlkP X scope fun Z => Z.fn x = true ∨ Z.env.scope.names.lookup x = some .local := by first | exact fun _ _ _ _ _ => Or.inr rfl | exact fun _ _ _ _ _ => Or.inl rfl)
    (hy : BlkP X scope fun Z => Loc Z.env.scope y := by first | exact fun _ _ _ _ _ => Or.inl rfl | exact fun _ _ _ _ _ => Or.inr rfl) (hfy : BlkP X scope fun Z => Z.fn y = true ∨ Z.env.scope.names.lookup y = some .local := by first | exact fun _ _ _ _ _ => Or.inr rfl | exact fun _ _ _ _ _ => Or.inl rfl)
    (ha1 : BlkP X scope fun Z => (assignEach [.Name x px, .Name y py] Z.env).map (·.2) = assign (.Name x px) Z.env :: (assignEach [.Name y py] Z.env).map (·.2) := by exact fun _ _ _ _ _ => rfl) (ha2 : BlkP X scope fun Z => (assignEach [.Name y py] Z.env).map (·.2) = assign (.Name y py) Z.env :: (assignEach [] Z.env).map (·.2) := by exact fun _ _ _ _ _ => rfl)
    (hn : BlkP X scope fun Z => (assignEach [.Name x px, .Name y py] Z.env).length = 2 := by exact fun _ _ _ _ _ => rfl) (hst : BlkP X scope fun Z => (assignEach [.Name x px, .Name y py] Z.env).findIdx? (·.1) = none := by exact fun _ _ _ _ _ => rfl)
    (hs : ∀ x, foldedSetIterable it X.env x = pure x := by intro _; rfl) : EF X B M L (.ListComp elt [⟨.Tuple [.Name x px, .Name y py] kk tpos, it, ifs, 0⟩] scope pos) (.l (done t F n)) :=
  ef_lcG (own := [(x, i0), (y, j0)]) (g := gTup X.K 2 (gCons (gName i0) (gCons (gName j0) gNil))) hz hc hN hi (blkOk_by ok)
    (fun s H C cl fp => pg_tup hc (pgs_cons (pg_name hN hx1 (hx s H C cl fp) (hf s H C cl fp)) (pgs_cons (pg_name hN hy1 (hy s H C cl fp) (hfy s H C cl fp)) pgs_nil (ha2 s H C cl fp)) (ha1 s H C cl fp)) (hn s H C cl fp) (hst s H C cl fp))
    (fun i _ => tgw_pair i0 j0 (by simp) (by simp)) htest he hs
/-- name = [..] on one line -/
theorem tr_setLc (i : Nat) {x : Str} {px : Pos} {gs : List Comprehension} {res : List PyData} (he : PS X (.Assign [.Name x px] (.ListComp elt gs scope pos) pos) (tAsg (tPf X.K B M L (.l res)) (gName i))) (hr : ∀ l, l ∉ adr M → Tr X (Sta X.K B ((l, .l res) :: M) (L.set i (some (.v (.ref l))))) rest D) :
    Tr X (Sta X.K B M L) (.Assign [.Name x px] (.ListComp elt gs scope pos) pos :: rest) D :=
  tr_cons (Mid := fun σ H => ∃ l : { l : Addr // l ∉ adr M }, Sta X.K B ((l.1, .l res) :: M) (L.set i (some (.v (.ref l.1)))) σ H) he (tr_ex fun l => hr l.1 l.2) fun σ H nx S k => ⟨S, fun l H2 hl s c =>
    k _ _ ⟨⟨l, S.out hl⟩, Sta.set (S.grow hl s c) rfl⟩⟩

/-! ## several at once -/
theorem mono_cons {H H2 : Hp} {l : Addr} {O : List Addr} (hp : H l = none) (s : Same H (msk [l] H2)) : Same (msk O H) (msk (l :: O) H2) := by
  rw [msk_cons]
  exact same_msk s
theorem pa_dd (ha : ED X B M L a da) (hb : ED X B M L b db) (h1 : starEach [a, b] X.env = (false, eval a X.env) :: starEach [b] X.env := by rfl) (h2 : starEach [b] X.env = (false, eval b X.env) :: starEach [] X.env := by rfl) :
    PA X [a, b] (fun σ H Q => Sta X.K B M L σ H ∧ ∀ v w H2, Sta X.K B M L σ H2 → Dp X.K (msk (adr M) H2) v da → Dp X.K (msk (adr M) H2) w db → Q [v, w] H2) :=
  pa_imp (pa_cons ha (pa_cons hb pa_nil h2) h1) fun σ H Q ⟨S, k⟩ => ⟨S, fun v H1 s1 g1 => ⟨S.same s1, fun w H2 s2 g2 => k v w H2 (S.same (s1.trans s2)) (dp_mono (same_msk s2) _ _ g1) g2⟩⟩
theorem pa_do (ha : ED X B M L a da) (hb : EF X B M L b ct) (h1 : starEach [a, b] X.env = (false, eval a X.env) :: starEach [b] X.env := by rfl) (h2 : starEach [b] X.env = (false, eval b X.env) :: starEach [] X.env := by rfl) :
    PA X [a, b] (fun σ H Q => Sta X.K B M L σ H ∧ ∀ v l H2, l ∉ adr M → Sta X.K B ((l, ct) :: M) L σ H2 → Dp X.K (msk (l :: adr M) H2) v da → Q [v, .ref l] H2) :=
  pa_imp (pa_cons ha (pa_cons hb pa_nil h2) h1) fun σ H Q ⟨S, k⟩ => ⟨S, fun v H1 s1 g1 => ⟨S.same s1, fun l H2 hl s2 g2 => k v l H2 ((S.same s1).out hl) ((S.same s1).grow hl s2 g2) (dp_mono (mono_cons hl s2) _ _ g1)⟩⟩
theorem pa_od (ha : EF X B M L a ct) (hb : ∀ l, ED X B ((l, ct) :: M) L b db) (h1 : starEach [a, b] X.env = (false, eval a X.env) :: starEach [b] X.env := by rfl) (h2 : starEach [b] X.env = (false, eval b X.env) :: starEach [] X.env := by rfl) :
    PA X [a, b] (fun σ H Q => Sta X.K B M L σ H ∧ ∀ l w H2, l ∉ adr M → Sta X.K B ((l, ct) :: M) L σ H2 → Dp X.K (msk (l :: adr M) H2) w db → Q [.ref l, w] H2) :=
  pa_imp (pa_cons ha (pa_cons (pe_fam (ι := Addr) (C := fun _ => True) (t := fun l => tP X.K B ((l, ct) :: M) L db) fun l _ => hb l) pa_nil h2) h1) fun σ H Q ⟨S, k⟩ => ⟨S, fun l H1 hl s1 g1 =>
    ⟨l, trivial, S.grow hl s1 g1, fun w H2 s2 g2 => k l w H2 (S.out hl) ((S.grow hl s1 g1).same s2) g2⟩⟩
theorem pa_oo (ha : EF X B M L a ct) (hb : ∀ l, EF X B ((l, ct) :: M) L b ct2) (h1 : starEach [a, b] X.env = (false, eval a X.env) :: starEach [b] X.env := by rfl) (h2 : starEach [b] X.env = (false, eval b X.env) :: starEach [] X.env := by rfl) :
    PA X [a, b] (fun σ H Q => Sta X.K B M L σ H ∧ ∀ l l2 H2, Sta X.K B ((l2, ct2) :: (l, ct) :: M) L σ H2 → Q [.ref l, .ref l2] H2) :=
  pa_imp (pa_cons ha (pa_cons (pe_fam (ι := Addr) (C := fun _ => True) (t := fun l => tPf X.K B ((l, ct) :: M) L ct2) fun l _ => hb l) pa_nil h2) h1) fun σ H Q ⟨S, k⟩ => ⟨S, fun l H1 hl s1 g1 =>
    ⟨l, trivial, S.grow hl s1 g1, fun l2 H2 hl2 s2 g2 => k l l2 H2 ((S.grow hl s1 g1).grow hl2 s2 g2)⟩⟩
theorem pa_mm (ha : EM X B M L a da M') (hb : EM X B M' L b db M2) (h1 : starEach [a, b] X.env = (false, eval a X.env) :: starEach [b] X.env := by rfl) (h2 : starEach [b] X.env = (false, eval b X.env) :: starEach [] X.env := by rfl) :
    PA X [a, b] (fun σ H Q => Sta X.K B M L σ H ∧ ∀ v w H2, Sta X.K B M2 L σ H2 → Dp X.K (msk (adr M) H2) v da → Dp X.K (msk (adr M) H2) w db → Q [v, w] H2) :=
  pa_imp (pa_cons ha.pe (pa_cons hb.pe pa_nil h2) h1) fun σ H Q ⟨S, k⟩ => ⟨S, fun v H1 S1 s1 g1 => ⟨S1, fun w H2 S2 s2 g2 => by
    rw [ha.ad] at s2 g2
    exact k v w H2 S2 (dp_mono s2 _ _ g1) g2⟩⟩
theorem pa_ddd (ha : ED X B M L a da) (hb : ED X B M L b db) (hc : ED X B M L c dc) (h1 : starEach [a, b, c] X.env = (false, eval a X.env) :: starEach [b, c] X.env := by rfl) (h2 : starEach [b, c] X.env = (false, eval b X.env) :: starEach [c] X.env := by rfl) (h3 : starEach [c] X.env = (false, eval c X.env) :: starEach [] X.env := by rfl) :
    PA X [a, b, c] (fun σ H Q => Sta X.K B M L σ H ∧ ∀ v w u H2, Sta X.K B M L σ H2 → Dp X.K (msk (adr M) H2) v da → Dp X.K (msk (adr M) H2) w db → Dp X.K (msk (adr M) H2) u dc → Q [v, w, u] H2) :=
  pa_imp (pa_cons ha (pa_cons hb (pa_cons hc pa_nil h3) h2) h1) fun σ H Q ⟨S, k⟩ => ⟨S, fun v H1 s1 g1 => ⟨S.same s1, fun w H2 s2 g2 => ⟨S.same (s1.trans s2), fun u H3 s3 g3 => k v w u H3 (S.same ((s1.trans s2).trans s3)) (dp_mono (same_msk (s2.trans s3)) _ _ g1) (dp_mono (same_msk s3) _ _ g2) g3⟩⟩⟩
theorem pa_doo (ha : ED X B M L a da) (hb : EF X B M L b ct) (hc : ∀ l, EF X B ((l, ct) :: M) L c ct2) (h1 : starEach [a, b, c] X.env = (false, eval a X.env) :: starEach [b, c] X.env := by rfl) (h2 : starEach [b, c] X.env = (false, eval b X.env) :: starEach [c] X.env := by rfl) (h3 : starEach [c] X.env = (false, eval c X.env) :: starEach [] X.env := by rfl) :
    PA X [a, b, c] (fun σ H Q => Sta X.K B M L σ H ∧ ∀ v l l2 H2, Sta X.K B ((l2, ct2) :: (l, ct) :: M) L σ H2 → Dp X.K (msk (l2 :: l :: adr M) H2) v da → Q [v, .ref l, .ref l2] H2) :=
  pa_imp (pa_cons ha (pa_cons hb (pa_cons (pe_fam (ι := Addr) (C := fun _ => True) (t := fun l => tPf X.K B ((l, ct) :: M) L ct2) fun l _ => hc l) pa_nil h3) h2) h1) fun σ H Q ⟨S, k⟩ => ⟨S, fun v H1 s1 g1 => ⟨S.same s1, fun l H2 hl s2 g2 => ⟨l, trivial, (S.same s1).grow hl s2 g2, fun l2 H3 hl2 s3 g3 =>
    k v l l2 H3 (((S.same s1).grow hl s2 g2).grow hl2 s3 g3) (dp_mono (mono_cons hl2 s3) _ _ (dp_mono (mono_cons hl s2) _ _ g1))⟩⟩⟩
theorem pa_dood {f : Expr} {df : PyData} (ha : ED X B M L a da) (hb : EF X B M L b ct) (hc : ∀ l, EF X B ((l, ct) :: M) L c ct2) (hf : ∀ l l2, ED X B ((l2, ct2) :: (l, ct) :: M) L f df) (h1 : starEach [a, b, c, f] X.env = (false, eval a X.env) :: starEach [b, c, f] X.env := by rfl) (h2 : starEach [b, c, f] X.env = (false, eval b X.env) :: starEach [c, f] X.env := by rfl)
    (h3 : starEach [c, f] X.env = (false, eval c X.env) :: starEach [f] X.env := by rfl) (h4 : starEach [f] X.env = (false, eval f X.env) :: starEach [] X.env := by rfl) :
    PA X [a, b, c, f] (fun σ H Q => Sta X.K B M L σ H ∧ ∀ v l l2 w H2, Sta X.K B ((l2, ct2) :: (l, ct) :: M) L σ H2 → Dp X.K (msk (l2 :: l :: adr M) H2) v da → Dp X.K (msk (l2 :: l :: adr M) H2) w df → Q [v, .ref l, .ref l2, w] H2) :=
  pa_imp (pa_cons ha (pa_cons hb (pa_cons (pe_fam (ι := Addr) (C := fun _ => True) (t := fun l => tPf X.K B ((l, ct) :: M) L ct2) fun l _ => hc l) (pa_cons (pe_fam (ι := Addr × Addr) (C := fun _ => True) (t := fun l => tP X.K B ((l.2, ct2) :: (l.1, ct) :: M) L df) fun l _ => hf l.1 l.2) pa_nil h4) h3) h2) h1)
    fun σ H Q ⟨S, k⟩ => ⟨S, fun v H1 s1 g1 => ⟨S.same s1, fun l H2 hl s2 g2 => ⟨l, trivial, (S.same s1).grow hl s2 g2, fun l2 H3 hl2 s3 g3 => ⟨(l, l2), trivial, ((S.same s1).grow hl s2 g2).grow hl2 s3 g3, fun w H4 s4 g4 =>
    k v l l2 w H4 ((((S.same s1).grow hl s2 g2).grow hl2 s3 g3).same s4) (dp_mono (same_msk s4) _ _ (dp_mono (mono_cons hl2 s3) _ _ (dp_mono (mono_cons hl s2) _ _ g1))) g4⟩⟩⟩⟩

variable {x y z : Str} {px py pz pt pt2 : Pos} {kt k2 : Nat} {i j l : Nat}
/-- what x, y = a, b asks of its names -/
structure P2 (X : Cx) (i j : Nat) (x y : Str) (px py : Pos) (a b : Expr) (kt k2 : Nat) (pt pt2 pos : Pos) : Prop where
  hi : X.N[i]? = some x
  hj : X.N[j]? = some y
  hij : i ≠ j
  hx : X.env.scope.names.lookup x = some .local
  hy : X.env.scope.names.lookup y = some .local
  hw : swappedStores [.Tuple [.Name x px, .Name y py] kt pt] (.Tuple [a, b] k2 pt2) X.env = pure (some [x, y])
  hs : swapsWithSole [.Tuple [.Name x px, .Name y py] kt pt] (.Tuple [a, b] k2 pt2) pos.line X.env = pure false
theorem tr_dd (i j : Nat) (hc : X.calm = true) (hN : X.N.Nodup) (ha : ED X B M L a da) (hb : ED X B M L b db) (hr : Tr X (Sta X.K B M ((L.set i (some (.d da))).set j (some (.d db)))) rest D)
    (P : P2 X i j x y px py a b kt k2 pt pt2 pos := by exact ⟨rfl, rfl, by decide, rfl, rfl, rfl, rfl⟩) (h1 : starEach [a, b] X.env = (false, eval a X.env) :: starEach [b] X.env := by rfl) (h2 : starEach [b] X.env = (false, eval b X.env) :: starEach [] X.env := by rfl) :
    Tr X (Sta X.K B M L) (.Assign [.Tuple [.Name x px, .Name y py] kt pt] (.Tuple [a, b] k2 pt2) pos :: rest) D :=
  tr_cons (ps_par hc hN P.hi P.hj P.hij P.hx P.hy (pa_dd ha hb h1 h2) P.hw P.hs) hr fun σ H nx S k => ⟨S, fun v w H2 S2 g1 g2 => ⟨v, w, rfl, k _ _ ((S2.set (s := .d da) g1).set (s := .d db) g2)⟩⟩
theorem tr_do (i j : Nat) (hc : X.calm = true) (hN : X.N.Nodup) (ha : ED X B M L a da) (hb : EF X B M L b ct) (hr : ∀ l, l ∉ adr M → Tr X (Sta X.K B ((l, ct) :: M) ((L.set i (some (.d da))).set j (some (.v (.ref l))))) rest D)
    (P : P2 X i j x y px py a b kt k2 pt pt2 pos := by exact ⟨rfl, rfl, by decide, rfl, rfl, rfl, rfl⟩) (h1 : starEach [a, b] X.env = (false, eval a X.env) :: starEach [b] X.env := by rfl) (h2 : starEach [b] X.env = (false, eval b X.env) :: starEach [] X.env := by rfl) :
    Tr X (Sta X.K B M L) (.Assign [.Tuple [.Name x px, .Name y py] kt pt] (.Tuple [a, b] k2 pt2) pos :: rest) D :=
  tr_cons (Mid := fun σ H => ∃ l : { l : Addr // l ∉ adr M }, Sta X.K B ((l.1, ct) :: M) ((L.set i (some (.d da))).set j (some (.v (.ref l.1)))) σ H) (ps_par hc hN P.hi P.hj P.hij P.hx P.hy (pa_do ha hb h1 h2) P.hw P.hs) (tr_ex fun l => hr l.1 l.2)
    fun σ H nx S k => ⟨S, fun v l H2 hl S2 g1 => ⟨v, .ref l, rfl, k _ _ ⟨⟨l, hl⟩, (S2.set (s := .d da) g1).set (s := .v (.ref l)) rfl⟩⟩⟩
theorem tr_od (i j : Nat) (hc : X.calm = true) (hN : X.N.Nodup) (ha : EF X B M L a ct) (hb : ∀ l, ED X B ((l, ct) :: M) L b db) (hr : ∀ l, l ∉ adr M → Tr X (Sta X.K B ((l, ct) :: M) ((L.set i (some (.v (.ref l)))).set j (some (.d db)))) rest D)
    (P : P2 X i j x y px py a b kt k2 pt pt2 pos := by exact ⟨rfl, rfl, by decide, rfl, rfl, rfl, rfl⟩) (h1 : starEach [a, b] X.env = (false, eval a X.env) :: starEach [b] X.env := by rfl) (h2 : starEach [b] X.env = (false, eval b X.env) :: starEach [] X.env := by rfl) :
    Tr X (Sta X.K B M L) (.Assign [.Tuple [.Name x px, .Name y py] kt pt] (.Tuple [a, b] k2 pt2) pos :: rest) D :=
  tr_cons (Mid := fun σ H => ∃ l : { l : Addr // l ∉ adr M }, Sta X.K B ((l.1, ct) :: M) ((L.set i (some (.v (.ref l.1)))).set j (some (.d db))) σ H) (ps_par hc hN P.hi P.hj P.hij P.hx P.hy (pa_od ha hb h1 h2) P.hw P.hs) (tr_ex fun l => hr l.1 l.2)
    fun σ H nx S k => ⟨S, fun l w H2 hl S2 g1 => ⟨.ref l, w, rfl, k _ _ ⟨⟨l, hl⟩, (S2.set (s := .v (.ref l)) rfl).set (s := .d db) g1⟩⟩⟩
theorem tr_oo (i j : Nat) (hc : X.calm = true) (hN : X.N.Nodup) (ha : EF X B M L a ct) (hb : ∀ l, EF X B ((l, ct) :: M) L b ct2) (hr : ∀ l l2, Tr X (Sta X.K B ((l2, ct2) :: (l, ct) :: M) ((L.set i (some (.v (.ref l)))).set j (some (.v (.ref l2))))) rest D)
    (P : P2 X i j x y px py a b kt k2 pt pt2 pos := by exact ⟨rfl, rfl, by decide, rfl, rfl, rfl, rfl⟩) (h1 : starEach [a, b] X.env = (false, eval a X.env) :: starEach [b] X.env := by rfl) (h2 : starEach [b] X.env = (false, eval b X.env) :: starEach [] X.env := by rfl) :
    Tr X (Sta X.K B M L) (.Assign [.Tuple [.Name x px, .Name y py] kt pt] (.Tuple [a, b] k2 pt2) pos :: rest) D :=
  tr_cons (Mid := fun σ H => ∃ l : Addr × Addr, Sta X.K B ((l.2, ct2) :: (l.1, ct) :: M) ((L.set i (some (.v (.ref l.1)))).set j (some (.v (.ref l.2)))) σ H) (ps_par hc hN P.hi P.hj P.hij P.hx P.hy (pa_oo ha hb h1 h2) P.hw P.hs) (tr_ex fun l => hr l.1 l.2)
    fun σ H nx S k => ⟨S, fun l l2 H2 S2 => ⟨.ref l, .ref l2, rfl, k _ _ ⟨(l, l2), (S2.set (s := .v (.ref l)) rfl).set (s := .v (.ref l2)) rfl⟩⟩⟩
theorem tr_mm (i j : Nat) (hc : X.calm = true) (hN : X.N.Nodup) (ha : EM X B M L a da M') (hb : EM X B M' L b db M2) (hr : Tr X (Sta X.K B M2 ((L.set i (some (.d da))).set j (some (.d db)))) rest D)
    (P : P2 X i j x y px py a b kt k2 pt pt2 pos := by exact ⟨rfl, rfl, by decide, rfl, rfl, rfl, rfl⟩) (h1 : starEach [a, b] X.env = (false, eval a X.env) :: starEach [b] X.env := by rfl) (h2 : starEach [b] X.env = (false, eval b X.env) :: starEach [] X.env := by rfl) :
    Tr X (Sta X.K B M L) (.Assign [.Tuple [.Name x px, .Name y py] kt pt] (.Tuple [a, b] k2 pt2) pos :: rest) D :=
  tr_cons (ps_par hc hN P.hi P.hj P.hij P.hx P.hy (pa_mm ha hb h1 h2) P.hw P.hs) hr fun σ H nx S k => ⟨S, fun v w H2 S2 g1 g2 => ⟨v, w, rfl, k _ _ ((S2.set (s := .d da) (by rw [hb.ad, ha.ad]; exact g1)).set (s := .d db) (by rw [hb.ad, ha.ad]; exact g2))⟩⟩
structure P3 (X : Cx) (i j l : Nat) (x y z : Str) (px py pz : Pos) (a b c : Expr) (kt k2 : Nat) (pt pt2 pos : Pos) : Prop where
  hi : X.N[i]? = some x
  hj : X.N[j]? = some y
  hl : X.N[l]? = some z
  hij : i ≠ j
  hil : i ≠ l
  hjl : j ≠ l
  hx : X.env.scope.names.lookup x = some .local
  hy : X.env.scope.names.lookup y = some .local
  hz : X.env.scope.names.lookup z = some .local
  hw : swappedStores [.Tuple [.Name x px, .Name y py, .Name z pz] kt pt] (.Tuple [a, b, c] k2 pt2) X.env = pure (some [x, y, z])
  hs : swapsWithSole [.Tuple [.Name x px, .Name y py, .Name z pz] kt pt] (.Tuple [a, b, c] k2 pt2) pos.line X.env = pure false
theorem tr_ddd (i j l : Nat) (hcm : X.calm = true) (hN : X.N.Nodup) (ha : ED X B M L a da) (hb : ED X B M L b db) (hc : ED X B M L c dc) (hr : Tr X (Sta X.K B M (((L.set i (some (.d da))).set j (some (.d db))).set l (some (.d dc)))) rest D)
    (P : P3 X i j l x y z px py pz a b c kt k2 pt pt2 pos := by exact ⟨rfl, rfl, rfl, by decide, by decide, by decide, rfl, rfl, rfl, rfl, rfl⟩) (h1 : starEach [a, b, c] X.env = (false, eval a X.env) :: starEach [b, c] X.env := by rfl) (h2 : starEach [b, c] X.env = (false, eval b X.env) :: starEach [c] X.env := by rfl) (h3 : starEach [c] X.env = (false, eval c X.env) :: starEach [] X.env := by rfl) :
    Tr X (Sta X.K B M L) (.Assign [.Tuple [.Name x px, .Name y py, .Name z pz] kt pt] (.Tuple [a, b, c] k2 pt2) pos :: rest) D :=
  tr_cons (ps_par3 hcm hN P.hi P.hj P.hl P.hij P.hil P.hjl P.hx P.hy P.hz (pa_ddd ha hb hc h1 h2 h3) P.hw P.hs) hr fun σ H nx S k => ⟨S, fun v w u H2 S2 g1 g2 g3 => ⟨v, w, u, rfl, k _ _ (((S2.set (s := .d da) g1).set (s := .d db) g2).set (s := .d dc) g3)⟩⟩
theorem tr_doo (i j l : Nat) (hcm : X.calm = true) (hN : X.N.Nodup) (ha : ED X B M L a da) (hb : EF X B M L b ct) (hc : ∀ p, EF X B ((p, ct) :: M) L c ct2) (hr : ∀ p p2, Tr X (Sta X.K B ((p2, ct2) :: (p, ct) :: M) (((L.set i (some (.d da))).set j (some (.v (.ref p)))).set l (some (.v (.ref p2))))) rest D)
    (P : P3 X i j l x y z px py pz a b c kt k2 pt pt2 pos := by exact ⟨rfl, rfl, rfl, by decide, by decide, by decide, rfl, rfl, rfl, rfl, rfl⟩) (h1 : starEach [a, b, c] X.env = (false, eval a X.env) :: starEach [b, c] X.env := by rfl) (h2 : starEach [b, c] X.env = (false, eval b X.env) :: starEach [c] X.env := by rfl) (h3 : starEach [c] X.env = (false, eval c X.env) :: starEach [] X.env := by rfl) :
    Tr X (Sta X.K B M L) (.Assign [.Tuple [.Name x px, .Name y py, .Name z pz] kt pt] (.Tuple [a, b, c] k2 pt2) pos :: rest) D :=
  tr_cons (Mid := fun σ H => ∃ p : Addr × Addr, Sta X.K B ((p.2, ct2) :: (p.1, ct) :: M) (((L.set i (some (.d da))).set j (some (.v (.ref p.1)))).set l (some (.v (.ref p.2)))) σ H) (ps_par3 hcm hN P.hi P.hj P.hl P.hij P.hil P.hjl P.hx P.hy P.hz (pa_doo ha hb hc h1 h2 h3) P.hw P.hs)
    (tr_ex fun p => hr p.1 p.2) fun σ H nx S k => ⟨S, fun v p p2 H2 S2 g1 => ⟨v, .ref p, .ref p2, rfl, k _ _ ⟨(p, p2), ((S2.set (s := .d da) g1).set (s := .v (.ref p)) rfl).set (s := .v (.ref p2)) rfl⟩⟩⟩
/-- x, y = e -/
theorem tr_pair (i j : Nat) (hc : X.calm = true) (hN : X.N.Nodup) (he : ED X B M L e (.tuple [d1, d2])) (hr : Tr X (Sta X.K B M ((L.set i (some (.d d1))).set j (some (.d d2)))) rest D)
    (hx1 : X.N[i]? = some x := by rfl) (hx : Loc X.env.scope x := by first | exact Or.inl rfl | exact Or.inr rfl) (hf : X.fn x = true ∨ X.env.scope.names.lookup x = some .local := by first | exact .inl rfl | exact .inr rfl)
    (hy1 : X.N[j]? = some y := by rfl) (hy : Loc X.env.scope y := by first | exact Or.inl rfl | exact Or.inr rfl) (hfy : X.fn y = true ∨ X.env.scope.names.lookup y = some .local := by first | exact .inl rfl | exact .inr rfl)
    (ha1 : (assignEach [.Name x px, .Name y py] X.env).map (·.2) = assign (.Name x px) X.env :: (assignEach [.Name y py] X.env).map (·.2) := by rfl) (ha2 : (assignEach [.Name y py] X.env).map (·.2) = assign (.Name y py) X.env :: (assignEach [] X.env).map (·.2) := by rfl)
    (hn : (assignEach [.Name x px, .Name y py] X.env).length = 2 := by rfl) (hst : (assignEach [.Name x px, .Name y py] X.env).findIdx? (·.1) = none := by rfl)
    (hs : swapsWithSole [.Tuple [.Name x px, .Name y py] kt pt] e pos.line X.env = pure false := by rfl) (hw : swappedStores [.Tuple [.Name x px, .Name y py] kt pt] e X.env = pure none := by rfl)
    (hA : (assignEach [.Tuple [.Name x px, .Name y py] kt pt] X.env).map (·.2) = [assign (.Tuple [.Name x px, .Name y py] kt pt) X.env] := by rfl) :
    Tr X (Sta X.K B M L) (.Assign [.Tuple [.Name x px, .Name y py] kt pt] e pos :: rest) D :=
  tr_cons (ps_asg he (pg_tup hc (pgs_cons (pg_name hN hx1 hx hf) (pgs_cons (pg_name hN hy1 hy hfy) pgs_nil ha2) ha1) hn hst) hs hw hA) hr fun σ H nx S k => ⟨S, fun v H2 s2 g2 => tg_pair i j B M σ H2 v nx (S.same s2) g2 fun σ' S' => k _ _ S'⟩
end
end KX
namespace KX
open PySem PySem.Spec PyProof.Rows L2
/-! ## isinstance -/
def tyD : PyData → String
  | .none => "NoneType"
  | .bool _ => "bool"
  | .int _ => "int"
  | .str _ => "str"
  | .list _ => "list"
  | .tuple _ => "tuple"
  | .dict _ => "dict"
section
variable {X : Cx} {B : Hp} {M : Ms} {L : Ls} {e : Expr} {d : PyData} {pos px p1 p2 p3 p4 : Pos} {p : Bool} {kk : Nat}
theorem dp_ty {K : PySem.W.Frag} {O : List Addr} {H : Hp} {v : V} (h : Dp K (msk O H) v d) : TyX K H v (.type (tyD d)) := by
  cases h with
  | non => exact .base .non
  | bl b => exact .base (.bl b)
  | int i => exact .base (.int i)
  | str x => exact .base (.str x)
  | lst hs ha =>
    rcases same_l msk_same hs with (h | ⟨o, h⟩) | ⟨o, its, n, hk, hc, _⟩
    · exact .base (.lst h)
    · exact .base (.frz h)
    · exact .kList hk hc
  | tup hs ha =>
    rcases same_t msk_same hs with (h | ⟨o, h⟩) | ⟨o, its, n, hk, hc, _⟩
    · exact .base (.tup h)
    · exact .fTuple h
    · exact .kTuple hk hc
theorem ed_isi {T : Str} {Tn t : String} (hm : X.mg "isinstance" = none) (hmT : X.mg T = none) (hT : bootBuiltins T = some (.type Tn)) (he : ED X B M L e d) (ht : tyD d = t) (hk : kitB t Tn = some p) (hg : Gl X "isinstance" := by rfl) (hgT : Gl X T := by rfl)
    (hnT : T ≠ "__name__" := by decide) (hdT : (T == ("__debug__" : Str)) = false := by decide)
    (h1 : starEach [e, .Name T p1] X.env = (false, eval e X.env) :: starEach [.Name T p1] X.env := by rfl) (h2 : starEach [.Name T p1] X.env = (false, eval (.Name T p1) X.env) :: starEach [] X.env := by rfl) (hpl : (backTo pos (starEach [.Name T p1] X.env)).any (·.1) = false := by rfl) :
    ED X B M L (.Call (.Name "isinstance" px) [e, .Name T p1] [] pos) (.bool p) :=
  pe_imp (pe_callB call_isi hg hm (by decide +kernel) (pa_cons he (pa_cons (pe_bltn (v := .ty Tn) hgT hmT hT rfl hnT hdT) pa_nil h2) h1) (by decide) (by decide) h1 hpl) fun σ H Q ⟨S, k⟩ => ⟨S, fun v H1 s1 g1 =>
    ⟨v, .ty Tn, _, _, p, rfl, .ty Tn, dp_ty g1, by rw [ht]; exact kit_ty hk, k _ H1 s1 (.bl p)⟩⟩
theorem ed_isi2 {T U : Str} {Tn Un t : String} {q1 q2 : Bool} (hm : X.mg "isinstance" = none) (hmT : X.mg T = none) (hT : bootBuiltins T = some (.type Tn)) (hmU : X.mg U = none) (hU : bootBuiltins U = some (.type Un)) (he : ED X B M L e d) (ht : tyD d = t) (hk1 : kitB t Tn = some q1) (hk2 : kitB t Un = some q2) (hp : (q1 || q2) = p)
    (hg : Gl X "isinstance" := by rfl) (hgT : Gl X T := by rfl) (hgU : Gl X U := by rfl)
    (hnT : T ≠ "__name__" := by decide) (hdT : (T == ("__debug__" : Str)) = false := by decide) (hnU : U ≠ "__name__" := by decide) (hdU : (U == ("__debug__" : Str)) = false := by decide)
    (h1 : starEach [e, .Tuple [.Name T p1, .Name U p2] kk p3] X.env = (false, eval e X.env) :: starEach [.Tuple [.Name T p1, .Name U p2] kk p3] X.env := by rfl) (h2 : starEach [.Tuple [.Name T p1, .Name U p2] kk p3] X.env = (false, eval (.Tuple [.Name T p1, .Name U p2] kk p3) X.env) :: starEach [] X.env := by rfl)
    (h3 : starEach [.Name T p1, .Name U p2] X.env = (false, eval (.Name T p1) X.env) :: starEach [.Name U p2] X.env := by rfl) (h4 : starEach [.Name U p2] X.env = (false, eval (.Name U p2) X.env) :: starEach [] X.env := by rfl)
    (hpl : (backTo pos (starEach [.Tuple [.Name T p1, .Name U p2] kk p3] X.env)).any (·.1) = false := by rfl) :
    ED X B M L (.Call (.Name "isinstance" px) [e, .Tuple [.Name T p1, .Name U p2] kk p3] [] pos) (.bool p) :=
  pe_imp (pe_callB call_isiT hg hm (by decide +kernel) (pa_cons he (pa_cons (pe_tup (pa_cons (pe_bltn (v := .ty Tn) hgT hmT hT rfl hnT hdT) (pa_cons (pe_bltn (v := .ty Un) hgU hmU hU rfl hnU hdU) pa_nil h4) h3)) pa_nil h2) h1) (by decide) (by decide) h1 hpl) fun σ H Q ⟨S, k⟩ => ⟨S, fun v H1 s1 g1 => by
    refine ⟨by show 2 ≤ sizeLine; decide, fun l hl => ?_⟩
    have sn : Same H1 (upd H1 l (.tup [.ty Tn, .ty Un])) := same_new hl
    refine ⟨v, l, [.ty Tn, .ty Un], _, [.type Tn, .type Un], p, rfl, upd_same, .cons (.ty Tn) (.cons (.ty Un) .nil), dp_ty (dp_mono (same_msk sn) _ _ g1), ?_, k _ _ (s1.trans sn) (.bl p)⟩
    rw [ht]
    refine kitAny_cons (kit_ty hk1) (fun e1 => kitAny_cons (kit_ty hk2) (fun e2 => ?_) (fun e2 => ?_)) (fun e1 => ?_)
    · rw [← hp, e1, e2]; exact kitAny_nil
    · rw [← hp, e1, e2]; rfl
    · rw [← hp, e1]; rfl⟩
end
end KX
namespace KX
open PySem PySem.Spec PyProof.Rows L2
section
variable {X : Cx} {B : Hp} {M M' M2 : Ms} {L L' L2' : Ls} {a b c e : Expr} {es : List Expr} {d da db dc d1 d2 d3 : PyData} {ds : List PyData} {pos spos : Pos} {p q : Bool} {rest body orelse : List Stmt} {D : Ends} {tg it elt : Expr} {ifs : List Expr} {scope : Scope} {ct ct2 ct3 : Ct}
/-! ## name = [..] -/
theorem tr_lcG {n : Nat} {Y F : Nat → PyData} {t : Nat → Bool} {g : TG} {Lt : Nat → Ls} {own : List (Str × Nat)} (i : Nat) {nm : Str} {pn : Pos} (hz : n ≤ 1000) (hc : X.calm = true) (hN : X.N.Nodup) (hi : EI X B M L tg it n Y) (ok : BlkOk X.N X.env.scope scope own)
    (hg : BlkP X scope fun Z => PG Z tg g) (htg : ∀ i, i < n → TgW X.K g (Y i) (wipeL L (own.map (·.2))) (Lt i) (own.map (·.2))) (htest : ∀ i, i < n → ∀ B1 Mx Da acc, adr Mx = adr M → BlkP X scope fun Z => PTs Z ifs (tPb X.K B1 ((Da, .l acc) :: Mx) (Lt i) (t i)))
    (he : ∀ i, i < n → t i = true → ∀ B1 Mx Da acc, adr Mx = adr M → BlkP X scope fun Z => ED Z B1 ((Da, .l acc) :: Mx) (Lt i) elt (F i))
    (hr : ∀ l, l ∉ adr M → Tr X (Sta X.K B ((l, .l (done t F n)) :: M) (L.set i (some (.v (.ref l))))) rest D)
    (hn1 : X.N[i]? = some nm := by rfl) (hnl : X.env.scope.names.lookup nm = some .local := by rfl)
    (hsw : swapsWith (.ListComp elt [⟨tg, it, ifs, 0⟩] scope pos) (some (.Name nm pn)) spos.line X.env = pure true := by exact sw_true rfl rfl rfl (by decide +kernel)) (hs : ∀ x, foldedSetIterable it X.env x = pure x := by intro _; rfl) :
    Tr X (Sta X.K B M L) (.Assign [.Name nm pn] (.ListComp elt [⟨tg, it, ifs, 0⟩] scope pos) spos :: rest) D :=
  tr_cons (Mid := fun σ H => ∃ l : { l : Addr // l ∉ adr M }, Sta X.K B ((l.1, .l (done t F n)) :: M) (L.set i (some (.v (.ref l.1)))) σ H)
    (ps_setLc (i := i) hc hN hn1 hnl hsw hi ok hg
      (fun s H C cl fp => pts_fam (ι := BIx) (C := fun j => j.1 < n ∧ adr j.2.2.1 = adr M) (t := fun j => tPb X.K j.2.1 ((j.2.2.2.1, .l j.2.2.2.2) :: j.2.2.1) (Lt j.1) (t j.1)) fun j hj => htest j.1 hj.1 _ _ _ _ hj.2 s H C cl fp)
      (fun s H C cl fp => pe_fam (ι := BIx) (C := fun j => j.1 < n ∧ t j.1 = true ∧ adr j.2.2.1 = adr M) (t := fun j => tP X.K j.2.1 ((j.2.2.2.1, .l j.2.2.2.2) :: j.2.2.1) (Lt j.1) (F j.1)) fun j hj => he j.1 hj.1 hj.2.1 _ _ _ _ hj.2.2 s H C cl fp) hs)
    (tr_ex fun l => hr l.1 l.2) fun σ H nx S k => lc_run hz htg σ H _ ⟨S, fun l H2 hl s c => k _ _ ⟨⟨l, S.out hl⟩, Sta.set (S.grow hl s c) rfl⟩⟩
/-- name = [elt for x, y in it if c] -/
theorem tr_lcP {n : Nat} {Y1 Y2 F : Nat → PyData} {t : Nat → Bool} {x y nm : Str} {pn px py tpos : Pos} {kk : Nat} (i i0 j0 : Nat) (hz : n ≤ 1000) (hc : X.calm = true) (hN : X.N.Nodup) (hi : EI X B M L (.Tuple [.Name x px, .Name y py] kk tpos) it n (fun i => .tuple [Y1 i, Y2 i])) (ok : blkC X.N X.env.scope scope [(x, i0), (y, j0)] = true)
    (htest : ∀ i, i < n → ∀ B1 Mx Da acc, adr Mx = adr M → BlkP X scope fun Z => PTs Z ifs (tPb X.K B1 ((Da, .l acc) :: Mx) (((((L.set j0 none).set i0 none)).set i0 (some (.d (Y1 i)))).set j0 (some (.d (Y2 i)))) (t i)))
    (he : ∀ i, i < n → t i = true → ∀ B1 Mx Da acc, adr Mx = adr M → BlkP X scope fun Z => ED Z B1 ((Da, .l acc) :: Mx) (((((L.set j0 none).set i0 none)).set i0 (some (.d (Y1 i)))).set j0 (some (.d (Y2 i)))) elt (F i))
    (hr : ∀ l, l ∉ adr M → Tr X (Sta X.K B ((l, .l (done t F n)) :: M) (L.set i (some (.v (.ref l))))) rest D)
    (hn1 : X.N[i]? = some nm := by rfl) (hnl : X.env.scope.names.lookup nm = some .local := by rfl)
    (hx1 : X.N[i0]? = some x := by rfl) (hy1 : X.N[j0]? = some y := by rfl)
    (hx : BlkP X scope fun Z => Loc Z.env.scope x := by first | exact fun _ _ _ _ _ => Or.inl rfl | exact fun _ _ _ _ _ => Or.inr rfl) (hf : BlkP X scope fun Z => Z.fn x = true ∨ Z.env.scope.names.lookup x = some .local := by first | exact fun _ _ _ _ _ => Or.inr rfl | exact fun _ _ _ _ _ => Or.inl rfl)
    (hy : BlkP X scope fun Z => Loc Z.env.scope y := by first | exact fun _ _ _ _ _ => Or.inl rfl | exact fun _ _ _ _ _ => Or.inr rfl) (hfy : BlkP X scope fun Z => Z.fn y = true ∨ Z.env.scope.names.lookup y = some .local := by first | exact fun _ _ _ _ _ => Or.inr rfl | exact fun _ _ _ _ _ => Or.inl rfl)
    (ha1 : BlkP X scope fun Z => (assignEach [.Name x px, .Name y py] Z.env).map (·.2) = assign (.Name x px) Z.env :: (assignEach [.Name y py] Z.env).map (·.2) := by exact fun _ _ _ _ _ => rfl) (ha2 : BlkP X scope fun Z => (assignEach [.Name y py] Z.env).map (·.2) = assign (.Name y py) Z.env :: (assignEach [] Z.env).map (·.2) := by exact fun _ _ _ _ _ => rfl)
    (hn : BlkP X scope fun Z => (assignEach [.Name x px, .Name y py] Z.env).length = 2 := by exact fun _ _ _ _ _ => rfl) (hst : BlkP X scope fun Z => (assignEach [.Name x px, .Name y py] Z.env).findIdx? (·.1) = none := by exact fun _ _ _ _ _ => rfl)
    (hsw : swapsWith (.ListComp elt [⟨.Tuple [.Name x px, .Name y py] kk tpos, it, ifs, 0⟩] scope pos) (some (.Name nm pn)) spos.line X.env = pure true := by exact sw_true rfl rfl rfl (by decide +kernel)) (hs : ∀ x, foldedSetIterable it X.env x = pure x := by intro _; rfl) :
    Tr X (Sta X.K B M L) (.Assign [.Name nm pn] (.ListComp elt [⟨.Tuple [.Name x px, .Name y py] kk tpos, it, ifs, 0⟩] scope pos) spos :: rest) D :=
  tr_lcG (own := [(x, i0), (y, j0)]) (g := gTup X.K 2 (gCons (gName i0) (gCons (gName j0) gNil))) i hz hc hN hi (blkOk_by ok)
    (fun s H C cl fp => pg_tup hc (pgs_cons (pg_name hN hx1 (hx s H C cl fp) (hf s H C cl fp)) (pgs_cons (pg_name hN hy1 (hy s H C cl fp) (hfy s H C cl fp)) pgs_nil (ha2 s H C cl fp)) (ha1 s H C cl fp)) (hn s H C cl fp) (hst s H C cl fp))
    (fun i _ => tgw_pair i0 j0 (by simp) (by simp)) htest he hr hn1 hnl hsw hs
end
end KX
namespace KX
open PySem PySem.Spec PyProof.Rows L2
/-! ## the text by places -/
def top (i : Nat) : Stmt := PySem.Challenge.pw_manrods_k86_whole_sums_that_rows_tell.main.body.getD i (.Pass ⟨0, 0, 0, 0⟩)
abbrev sTuple : Stmt := top 4
abbrev sDry : Stmt := top 10
abbrev sSome : Stmt := top 11
abbrev sBrings : Stmt := top 12
abbrev sStroke : Stmt := top 13
abbrev sSpills : Stmt := top 14
abbrev sRest : Stmt := top 15
abbrev sWay : Stmt := top 16
abbrev sEasy : Stmt := top 18
abbrev sLeaks : Stmt := top 19
abbrev sLRun : Stmt := top 20
abbrev sLRow : Stmt := top 21
abbrev sWith : Stmt := top 22
abbrev sLots : Stmt := top 23
abbrev sSums : Stmt := top 24
abbrev sBox : Stmt := top 26
abbrev sTake : Stmt := top 27
abbrev sCells : Stmt := top 28
abbrev sSame : Stmt := top 29
abbrev sLists : Stmt := top 30
abbrev sBrook : Stmt := top 31
abbrev sqRest : Stmt := top 32
abbrev sqPlay : Stmt := top 33
abbrev sqOther : Stmt := top 34
abbrev sqEasy : Stmt := top 35
abbrev sqWays : Stmt := top 36
abbrev sqMild : Stmt := top 37
abbrev sqHeard : Stmt := top 38
abbrev sqLots : Stmt := top 39
abbrev sqDue : Stmt := top 40
abbrev sqHand : Stmt := top 41
abbrev sqRight : Stmt := top 42
abbrev sLaw : Stmt := top 43
/-! ## what the top has written -/
structure Txt (mg : Str → Option Value) : Prop where
  len : mg "len" = none
  range : mg "range" = none
  enumerate : mg "enumerate" = none
  zip : mg "zip" = none
  tuple : mg "tuple" = none
  list : mg "list" = none
  isinstance : mg "isinstance" = none
  min : mg "min" = none
  max : mg "max" = none
  abs : mg "abs" = none
  int : mg "int" = none
  sum : mg "sum" = none
  all : mg "all" = none
  sorted : mg "sorted" = none
  set : mg "set" = none
  bool : mg "bool" = none
  str : mg "str" = none
  room : ∃ t, mg "ROOM" = some (.int 1 t)
  spring : ∃ t, mg "SPRING" = some (.int 2 t)
  measure : ∃ t, mg "MEASURE" = some (.int 3 t)
  rod : ∃ t, mg "ROD" = some (.int 4 t)
theorem df_mk {P : Program} {w : World} {K : PySem.W.Frag} {mg : Str → Option Value} {base : Heap} {CX : CXT} {k : Nat} {x qual : Str} {st : Stmt} {f : Addr} {fd : FuncData} {ps : List Str} {sp : Sp} (F : Fun K x qual st f fd) (hm : mg x = some (.ref f)) (hb : Binds K fd ps []) (ok : FnOk P w K mg base CX k f fd ps sp) : Df P w K mg base CX k x ps sp := ⟨f, fd, hm, F.kp, hb, ok⟩
end KX
namespace KX
open PySem PySem.Spec PyProof.Rows L2
/-! ## lists by a function of the place -/
def vec (n : Nat) (f : Nat → PyData) : List PyData := (List.range n).map f
def vI (n : Nat) (f : Nat → Int) : List PyData := vec n fun k => .int (f k)
theorem vec_len (n : Nat) (f : Nat → PyData) : (vec n f).length = n := by simp [vec]
theorem vI_len (n : Nat) (f : Nat → Int) : (vI n f).length = n := vec_len n _
theorem vec_get {n : Nat} {f : Nat → PyData} {i : Nat} (h : i < n) : (vec n f)[i]? = some (f i) := by
  unfold vec
  rw [List.getElem?_map, List.getElem?_range h]
  rfl
theorem vI_get {n : Nat} {f : Nat → Int} {i : Nat} (h : i < n) : (vI n f)[i]? = some (.int (f i)) := vec_get h
theorem vec_y {n : Nat} {f : Nat → PyData} {i : Nat} (h : i < n) : yAt (vec n f) i = f i := yAt_of (vec_get h)
theorem vI_y {n : Nat} {f : Nat → Int} {i : Nat} (h : i < n) : yAt (vI n f) i = .int (f i) := vec_y h
theorem ix_nat {α : Type} {xs : List α} {i : Nat} {v : α} (h : xs[i]? = some v) : atI xs (i : Int) = some v := by
  have hi := (List.getElem?_eq_some_iff.mp h).1
  unfold atI ixN
  rw [if_pos (by omega), if_pos (by omega)]
  simpa using h
theorem ixN_nat {n i : Nat} (h : i < n) : ixN n (i : Int) = some i := by
  unfold ixN
  rw [if_pos (by omega), if_pos (by omega)]
  simp
theorem ixN_int {n : Nat} {i : Int} (h0 : 0 ≤ i) (h : i < n) : ixN n i = some i.toNat := by
  unfold ixN
  rw [if_pos h0, if_pos h]
theorem ix_last {α : Type} {xs : List α} {v : α} (h : xs[xs.length - 1]? = some v) : atI xs (-1) = some v := by
  have hi := (List.getElem?_eq_some_iff.mp h).1
  unfold atI ixN
  rw [if_neg (by omega), if_pos (by omega)]
  show xs[((-1 : Int) + (xs.length : Int)).toNat]? = some v
  rw [show ((-1 : Int) + (xs.length : Int)).toNat = xs.length - 1 by omega]
  exact h
theorem vec_at {n : Nat} {f : Nat → PyData} {i : Nat} (h : i < n) : atI (vec n f) (i : Int) = some (f i) := ix_nat (vec_get h)
theorem vI_at {n : Nat} {f : Nat → Int} {i : Nat} (h : i < n) : atI (vI n f) (i : Int) = some (.int (f i)) := vec_at h
theorem vec_last {n : Nat} {f : Nat → PyData} (h : 0 < n) : atI (vec n f) (-1) = some (f (n - 1)) := ix_last (by rw [vec_len]; exact vec_get (by omega))
theorem vI_last {n : Nat} {f : Nat → Int} (h : 0 < n) : atI (vI n f) (-1) = some (.int (f (n - 1))) := vec_last h
theorem vec_snoc (n : Nat) (f : Nat → PyData) : vec n f ++ [f n] = vec (n + 1) f := by
  unfold vec
  rw [List.range_succ, List.map_append]
  rfl
theorem vI_snoc (n : Nat) (f : Nat → Int) : vI n f ++ [.int (f n)] = vI (n + 1) f := vec_snoc n _
theorem vec_congr {n : Nat} {f g : Nat → PyData} (h : ∀ k, k < n → f k = g k) : vec n f = vec n g := by
  unfold vec
  exact List.map_congr_left fun k hk => h k (List.mem_range.mp hk)
theorem vI_congr {n : Nat} {f g : Nat → Int} (h : ∀ k, k < n → f k = g k) : vI n f = vI n g := vec_congr fun k hk => by rw [h k hk]
theorem vec_set {n : Nat} {f : Nat → PyData} {i : Nat} {v : PyData} (h : i < n) : (vec n f).set i v = vec n fun k => if k = i then v else f k := by
  apply List.ext_getElem?
  intro j
  by_cases hj : j < n
  · rw [vec_get hj]
    by_cases hij : i = j
    · subst hij
      rw [List.getElem?_set_self (by rw [vec_len]; exact h), if_pos rfl]
    · rw [List.getElem?_set_ne hij, vec_get hj, if_neg (fun e => hij e.symm)]
  · rw [List.getElem?_eq_none (by rw [List.length_set, vec_len]; omega), List.getElem?_eq_none (by rw [vec_len]; omega)]
theorem vI_set {n : Nat} {f : Nat → Int} {i : Nat} {v : Int} (h : i < n) : (vI n f).set i (.int v) = vI n fun k => if k = i then v else f k := by
  unfold vI
  rw [vec_set h]
  exact vec_congr fun k _ => by by_cases h : k = i <;> simp [h]
theorem rep_vec (n : Nat) (d : PyData) : List.replicate n d = vec n fun _ => d := by
  apply List.ext_getElem?
  intro j
  by_cases hj : j < n
  · rw [vec_get hj, List.getElem?_replicate, if_pos hj]
  · rw [List.getElem?_eq_none (by simp; omega), List.getElem?_eq_none (by rw [vec_len]; omega)]
theorem vI_map (n : Nat) (f : Nat → Int) : vI n f = ((List.range n).map f).map PyData.int := by
  unfold vI vec
  rw [List.map_map]
  rfl
theorem vec_0 (f : Nat → PyData) : vec 0 f = [] := rfl
theorem done_vec {F : Nat → PyData} {n : Nat} : done (fun _ => true) F n = vec n F := done_all
/-! ## wells -/
structure Well where
  lv : Int
  room : Int
  spr : Int
  meas : Int
  rod : Int
def wD (w : Well) : PyData := .tuple [.int w.lv, .int w.room, .int w.spr, .int w.meas, .int w.rod]
def wsD (n : Nat) (W : Nat → Well) : PyData := .tuple (vec n fun k => wD (W k))
/-- the rod that rises at a rest -/
def up (r : Nat) : Int := 1 - ((r % 2 : Nat) : Int)
def tk (W : Nat → Well) (h : Nat → Int) (r k : Nat) : Int := if (W k).rod = up r then h k else 0
def stk (W : Nat → Well) (h : Nat → Int) (r k : Nat) : Int := h k - tk W h r k + (if k = 0 then 0 else tk W h r (k - 1))
def rst (W : Nat → Well) (h : Nat → Int) (r k : Nat) : Int := stk W h r k + (if r % 2 = 1 then (W k).spr else 0)
/-- what is held behind r rests -/
def hd (W : Nat → Well) : Nat → Nat → Int
  | 0, _ => 0
  | r + 1, k => rst W (hd W r) r k
/-- what comes out of n CISTERNS -/
def out (n : Nat) (W : Nat → Well) (r : Nat) : Int := tk W (hd W r) r (n - 1)
/-- nothing is left behind, nothing spills -/
def Calm (n : Nat) (W : Nat → Well) (h : Nat → Int) : Prop := ∀ k, k < n → 0 ≤ h k ∧ h k ≤ (W k).meas ∧ (0 < k → h k ≤ (W k).room)
def Good (n : Nat) (W : Nat → Well) (many : Nat) : Prop := ∀ r, r ≤ many → Calm n W (hd W r)
theorem ed_to {X : Cx} {B : Hp} {M : Ms} {L : Ls} {e : Expr} {d d' : PyData} (h : ED X B M L e d) (q : d = d') : ED X B M L e d' := q ▸ h
theorem up_mod (r : Nat) : ((r : Int) % 2 = 0) ↔ r % 2 = 0 := by omega
end KX
namespace KX
open PySem PySem.Spec PyProof.Rows L2
section
variable {X : Cx} {B : Hp} {M : Ms} {L : Ls} {a b c e : Expr} {d : PyData} {i j l : Int} {pos : Pos} {p q : Bool}
/-- i <= j < l -/
theorem eb_chain (h1 : i ≤ j) (h2 : decide (j < l) = p) (ha : ED X B M L a (.int i)) (hb : ED X B M L b (.int j)) (hc : ED X B M L c (.int l)) (hm : lastMarks [.LtE, .Lt] [b, c] = false := by with_unfolding_all rfl) : EB X B M L (.Compare a [.LtE, .Lt] [b, c] pos) p :=
  pt_imp (pt_chain op_le op_lt ha hb hc hm) fun σ H Q ⟨S, k⟩ => ⟨S, fun x H1 s1 g1 => ⟨S.same s1, fun y H2 s2 g2 => by
    cases g1; cases g2
    refine ⟨i, j, rfl, rfl, true, by simp [h1], iteT ⟨S.same (s1.trans s2), fun z H3 s3 g3 => ?_⟩⟩
    cases g3
    exact ⟨j, l, rfl, rfl, p, by rw [← h2], k H3 ((s1.trans s2).trans s3)⟩⟩⟩
end
section
variable {P : Program} {w : World} {K : PySem.W.Frag} {mg : Str → Option Value} {base : Heap}
/-! ## dry_held -/
def rDry (ds : List PyData) (d : PyData) : Prop := ∃ ws, ds = [.tuple ws] ∧ 1 ≤ ws.length ∧ ws.length ≤ 1000 ∧ d = .tuple (List.replicate ws.length (.int 0))
theorem scDry : FnScope ["waters"] ["waters"] (defScope sDry) := ⟨rfl, rfl, rfl, by decide +kernel, rfl, by decide +kernel, by decide +kernel⟩
theorem ok_dry {f : Addr} {fd : FuncData} (F : Fun K "dry_held" "dry_held" sDry f fd) (T : Txt mg) : FnOk P w K mg base CX0 1 f fd ["waters"] (spD K rDry) := by
  refine fn_pure F scDry (fun ds d h => by obtain ⟨ws, rfl, _⟩ := h; rfl) fun cdv A outer s H E hr B M0 D ds d hR R _ => ?_
  obtain ⟨ws, rfl, h1, h2, rfl⟩ := hR
  exact tr_ret R (fun q h => h) (ed_rep (i := (ws.length : Int)) (by omega) (by omega) (ed_tup (ea_cons ed_int ea_nil)) (ed_lenT T.len (ea_cons (ed_name 0 rfl) ea_nil)))
/-! ## some_cistern -/
def rSome (ds : List PyData) (d : PyData) : Prop := ∃ ws, ∃ k : Nat, ds = [.tuple ws, .int k] ∧ k < ws.length ∧ d = .none
theorem scSome : FnScope ["waters", "number"] ["waters", "number"] (defScope sSome) := ⟨rfl, rfl, rfl, by decide +kernel, rfl, by decide +kernel, by decide +kernel⟩
theorem ok_some {f : Addr} {fd : FuncData} (F : Fun K "some_cistern" "some_cistern" sSome f fd) (T : Txt mg) : FnOk P w K mg base CX0 1 f fd ["waters", "number"] (spD K rSome) := by
  refine fn_pure F scSome (fun ds d h => by obtain ⟨ws, k, rfl, _⟩ := h; rfl) fun cdv A outer s H E hr B M0 D ds d hR R Rn => ?_
  obtain ⟨ws, k, rfl, h1, rfl⟩ := hR
  refine tr_ifF (eb_not' rfl (eb_chain (p := true) (Int.natCast_nonneg k) (decide_eq_true (by omega)) ed_int (ed_name 1 rfl) (ed_lenT T.len (ea_cons (ed_name 0 rfl) ea_nil)))) ?_
  exact tr_nil fun σ H S => (Rn rfl).nx H M0 _ σ (fun q h => h) S
/-! ## brings -/
def rBrings (ds : List PyData) (d : PyData) : Prop := ∃ (n : Nat) (W : Nat → Well) (h : Nat → Int) (r : Nat), ds = [wsD n W, .tuple (vI n h), .int r, .tuple [], .tuple (vI n fun _ => 0)] ∧ n ≤ 900 ∧ Calm n W h ∧ d = .tuple (vI n (tk W h r))
theorem scBrings : FnScope ["waters", "held", "made", "loose", "leaks", "rises", "found", "number", "own", "takes"] ["waters", "held", "made", "loose", "leaks"] (defScope sBrings) := ⟨rfl, rfl, rfl, by decide +kernel, rfl, by decide +kernel, by decide +kernel⟩
theorem ok_brings {f : Addr} {fd : FuncData} (F : Fun K "brings" "brings" sBrings f fd) (T : Txt mg) : FnOk P w K mg base CX0 1 f fd ["waters", "held", "made", "loose", "leaks"] (spD K rBrings) := by
  refine fn_pure F scBrings (fun ds d h => by obtain ⟨n, W, h, r, rfl, _⟩ := h; rfl) fun cdv A outer s H E hr B M0 D ds d hR R Rn => ?_
  obtain ⟨n, W, h, r, rfl, hn, hC, rfl⟩ := hR
  have hup : up r = if (r : Int) % 2 = 0 then 1 else 0 := by
    unfold up
    split <;> omega
  refine tr_do (da := .int (up r)) (ct := .l []) 5 6 rfl scBrings.nd ?_ (ef_lst ea_nil) fun l hl => ?_
  · rw [hup]
    by_cases c : (r : Int) % 2 = 0
    · rw [if_pos c]
      exact ed_ifT (eb_eq (decide_eq_true c) (ed_mod (by decide) (ed_name 2 rfl) ed_int) ed_int) ed_int
    · rw [if_neg c]
      exact ed_ifF (eb_eq (decide_eq_false c) (ed_mod (by decide) (ed_name 2 rfl) ed_int) ed_int) ed_int
  obtain ⟨t3, hm3⟩ := T.measure
  obtain ⟨t4, hm4⟩ := T.rod
  refine tr_forP 7 8 (fun i => (l, .l (vI i (tk W h r))) :: M0) (fun _ => [some (.d (wsD n W)), some (.d (.tuple (vI n h))), some (.d (.int r)), some (.d (.tuple [])), some (.d (.tuple (vI n fun _ => 0))), some (.d (.int (up r))), some (.v (.ref l)), none, none, none]) (fun _ => True)
    scBrings.nd .never rfl (ei_enum T.enumerate (ea_cons (ed_name 0 rfl) ea_nil) (.inl rfl)) (by repeat constructor) rfl trivial (fun i => rfl) (fun B1 hB i hi _ => ?_) (fun _ => ?_)
  · rw [vec_len] at hi
    rw [vec_y hi]
    obtain ⟨c1, c2, c3⟩ := hC i hi
    refine tr_set (d := .int (tk W h r i)) 9 scBrings.nd ?_ ?_
    · unfold tk
      by_cases c : (W i).rod = up r
      · rw [if_pos c]
        refine ed_ifT (eb_w (ew_andT (eb_eq (decide_eq_true c) (ed_ixT rfl (ed_name 8 rfl) (ed_glob hm4)) (ed_name 5 rfl)) (ew_and1 (eb_notIn0 (ed_name 3 rfl) (ed_name 7 rfl))))) ?_
        exact ed_to (ed_min2 rfl T.min (ea_cons (ed_ixT rfl (ed_name 8 rfl) (ed_glob hm3)) (ea_cons (ed_ixT (vI_at hi) (ed_name 1 rfl) (ed_name 7 rfl)) ea_nil))) (by congr 1; split <;> omega)
      · rw [if_neg c]
        exact ed_ifF (eb_w (ew_andF (eb_eq (decide_eq_false c) (ed_ixT rfl (ed_name 8 rfl) (ed_glob hm4)) (ed_name 5 rfl)))) ed_int
    have t0 : 0 ≤ tk W h r i := by
      unfold tk
      split <;> omega
    refine tr_append (d := .int (tk W h r i)) 6 0 rfl (em_of (ed_to (ed_max2 rfl T.max (ea_cons ed_int (ea_cons (ed_sub (ed_name 9 rfl) (ed_ixT (vI_at hi) (ed_name 4 rfl) (ed_name 7 rfl))) ea_nil))) (by congr 1; split <;> omega))) rfl ⟨0, _, rfl⟩ (by rw [vI_len]; omega) ?_
    exact tr_end (by repeat constructor) (by rw [vI_snoc]; rfl) fun σ H S => ⟨trivial, S⟩
  · rw [vec_len]
    refine tr_freeze 6 rfl ?_
    exact tr_ret R (fun q h => h) (ed_tupL T.tuple (ea_cons (ed_name 6 rfl) ea_nil))
end
end KX
namespace KX
open PySem PySem.Spec PyProof.Rows L2
section
variable {P : Program} {w : World} {K : PySem.W.Frag} {mg : Str → Option Value} {base : Heap}
/-! ## behind_stroke -/
def rStroke (ds : List PyData) (d : PyData) : Prop := ∃ (n : Nat) (W : Nat → Well) (h : Nat → Int) (r : Nat), ds = [wsD n W, .tuple (vI n h), .int r, .tuple [], .tuple (vI n fun _ => 0)] ∧ 1 ≤ n ∧ n ≤ 900 ∧ Calm n W h ∧ d = .tuple [.list (vI n (stk W h r)), .int (tk W h r (n - 1))]
def fnd (W : Nat → Well) (h : Nat → Int) (r i k : Nat) : Int := if k < i then stk W h r k else h k + (if k = i ∧ k ≠ 0 then tk W h r (k - 1) else 0)
abbrev pBr : List Str := ["waters", "held", "made", "loose", "leaks"]
theorem scStroke : FnScope ["waters", "held", "made", "loose", "leaks", "found", "brought", "number", "more"] pBr (defScope sStroke) := ⟨rfl, rfl, rfl, by decide +kernel, rfl, by decide +kernel, by decide +kernel⟩
theorem ok_stroke {f : Addr} {fd : FuncData} (F : Fun K "behind_stroke" "behind_stroke" sStroke f fd) (T : Txt mg) (D1 : Df P w K mg base CX0 1 "brings" pBr (spD K rBrings)) : FnOk P w K mg base CX0 2 f fd pBr (spD K rStroke) := by
  refine fn_pure F scStroke (fun ds d h => by obtain ⟨n, W, h, r, rfl, _⟩ := h; rfl) fun cdv A outer s H E hr B M0 D ds d hR R Rn => ?_
  obtain ⟨n, W, h, r, rfl, h1, hn, hC, rfl⟩ := hR
  refine tr_od (ct := .l (vI n h)) (db := .tuple (vI n (tk W h r))) 5 6 rfl scStroke.nd (ef_listT (by rw [vI_len]; omega) T.list (ea_cons (ed_name 1 rfl) ea_nil))
    (fun l => ed_call D1 hr ⟨n, W, h, r, rfl, hn, hC, rfl⟩ (ea_cons (ed_name 0 rfl) (ea_cons (ed_name 1 rfl) (ea_cons (ed_name 2 rfl) (ea_cons (ed_name 3 rfl) (ea_cons (ed_name 4 rfl) ea_nil)))))) fun l hl => ?_
  refine tr_forP 7 8 (fun i => (l, .l (vI n (fnd W h r i))) :: M0) (fun _ => [some (.d (wsD n W)), some (.d (.tuple (vI n h))), some (.d (.int r)), some (.d (.tuple [])), some (.d (.tuple (vI n fun _ => 0))), some (.v (.ref l)), some (.d (.tuple (vI n (tk W h r)))), none, none]) (fun _ => True)
    scStroke.nd .never rfl (ei_enum T.enumerate (ea_cons (ed_name 6 rfl) ea_nil) (.inl rfl)) (by repeat constructor) ?_ trivial (fun i => rfl) (fun B1 hB i hi _ => ?_) (fun _ => ?_)
  · rw [show vI n h = vI n (fnd W h r 0) from vI_congr fun k _ => by unfold fnd; rw [if_neg (by omega), if_neg (by omega)]; omega]
  · rw [vI_len] at hi
    rw [vI_y hi]
    refine tr_augL 5 0 ip_sub rfl rfl (ed_name 7 rfl) (by omega) (ixN_nat (by rw [vI_len]; exact hi)) (vI_get hi) (ed_name 8 rfl) ?_
    have e1 : (vI n (fnd W h r i)).set i (.int (fnd W h r i i - tk W h r i)) = vI n (fun k => if k = i then stk W h r i else fnd W h r i k) := by
      rw [vI_set hi]
      refine vI_congr fun k _ => ?_
      by_cases c : k = i
      · rw [if_pos c, if_pos c]
        unfold fnd stk
        rw [if_neg (by omega)]
        by_cases c0 : i = 0
        · rw [if_neg (by omega), if_pos c0]; omega
        · rw [if_pos ⟨rfl, c0⟩, if_neg c0]; omega
      · rw [if_neg c, if_neg c]
    show Tr _ (Sta _ _ ((l, .l ((vI n (fnd W h r i)).set i (.int (fnd W h r i i - tk W h r i)))) :: M0) _) _ _
    rw [e1]
    by_cases c : i + 1 < n
    · refine tr_ifT (eb_lt (decide_eq_true (by rw [vI_len]; omega)) (ed_add (ed_name 7 rfl) ed_int) (ed_lenOwn 5 0 T.len rfl rfl)) (Mid := fun σ H => Sta K B1 ((l, .l (vI n (fnd W h r (i + 1)))) :: M0) [some (.d (wsD n W)), some (.d (.tuple (vI n h))), some (.d (.int r)), some (.d (.tuple [])), some (.d (.tuple (vI n fun _ => 0))), some (.v (.ref l)), some (.d (.tuple (vI n (tk W h r)))), none, none] σ H) ?_ (tr_nil fun σ H S => ⟨trivial, S⟩)
      refine tr_augL 5 0 ip_add rfl rfl (ed_add (ed_name 7 rfl) ed_int) (by omega) (n := i + 1) ?_ (vI_get c) (ed_name 8 rfl) ?_
      · rw [show ((i : Int) + 1) = ((i + 1 : Nat) : Int) by omega]
        exact ixN_nat (by rw [vI_len]; exact c)
      refine tr_end (by repeat constructor) ?_ fun σ H S => S
      show _ :: M0 = _ :: M0
      congr 3
      rw [vI_set c]
      refine vI_congr fun k _ => ?_
      by_cases c1 : k = i + 1
      · rw [if_pos c1, if_neg (by omega)]
        unfold fnd
        rw [c1, if_neg (by omega), if_neg (by omega), if_neg (by omega), if_pos ⟨rfl, by omega⟩, show i + 1 - 1 = i by omega]
        omega
      · rw [if_neg c1]
        by_cases c2 : k = i
        · rw [if_pos c2]
          unfold fnd
          rw [c2, if_pos (by omega)]
        · rw [if_neg c2]
          unfold fnd
          by_cases c3 : k < i
          · rw [if_pos c3, if_pos (by omega)]
          · rw [if_neg c3, if_neg (by omega), if_neg (by omega), if_neg (by omega)]
    · refine tr_ifF (eb_lt (decide_eq_false (by rw [vI_len]; omega)) (ed_add (ed_name 7 rfl) ed_int) (ed_lenOwn 5 0 T.len rfl rfl)) ?_
      refine tr_end (by repeat constructor) ?_ fun σ H S => ⟨trivial, S⟩
      show _ :: M0 = _ :: M0
      congr 3
      refine vI_congr fun k hk => ?_
      by_cases c2 : k = i
      · rw [if_pos c2]
        unfold fnd
        rw [c2, if_pos (by omega)]
      · rw [if_neg c2]
        unfold fnd
        rw [if_pos (by omega), if_pos (by omega)]
  · rw [vI_len]
    refine tr_freeze 5 rfl ?_
    rw [show vI n (fnd W h r n) = vI n (stk W h r) from vI_congr fun k hk => by unfold fnd; rw [if_pos hk]]
    exact tr_ret R (fun q h => h) (ed_tup (ea_cons (ed_name 5 rfl) (ea_cons (ed_ixT (vI_last (by omega)) (ed_name 6 rfl) (ed_neg ed_int)) ea_nil)))
/-! ## behind_spills -/
def rSpills (ds : List PyData) (d : PyData) : Prop := ∃ (n : Nat) (W : Nat → Well) (h : Nat → Int), ds = [wsD n W, .list (vI n h)] ∧ 1 ≤ n ∧ n ≤ 900 ∧ (∀ k, 0 < k → k < n → h k ≤ (W k).room) ∧ d = .tuple (vI n h)
theorem scSpills : FnScope ["waters", "standing", "found", "number", "more"] ["waters", "standing"] (defScope sSpills) := ⟨rfl, rfl, rfl, by decide +kernel, rfl, by decide +kernel, by decide +kernel⟩
theorem ok_spills {f : Addr} {fd : FuncData} (F : Fun K "behind_spills" "behind_spills" sSpills f fd) (T : Txt mg) : FnOk P w K mg base CX0 1 f fd ["waters", "standing"] (spD K rSpills) := by
  refine fn_pure F scSpills (fun ds d h => by obtain ⟨n, W, h, rfl, _⟩ := h; rfl) fun cdv A outer s H E hr B M0 D ds d hR R Rn => ?_
  obtain ⟨n, W, h, rfl, h1, hn, hC, rfl⟩ := hR
  obtain ⟨t1, hm1⟩ := T.room
  refine tr_own (ct := .l (vI n h)) 2 scSpills.nd (ef_listL (by rw [vI_len]; omega) T.list (ea_cons (ed_name 1 rfl) ea_nil)) fun l hl => ?_
  refine tr_forN 3 (fun i => (l, .l (vI n h)) :: M0) (fun _ => [some (.d (wsD n W)), some (.d (.list (vI n h))), some (.v (.ref l)), none, none]) (fun _ => True)
    scSpills.nd .never rfl (ei_down (j := (n : Int) - 1) T.range (ea_cons (ed_sub (ed_to (ed_lenOwn 2 0 T.len rfl rfl) (by rw [vI_len])) ed_int) (ea_cons ed_int (ea_cons (ed_neg ed_int) ea_nil))) (by omega) (by omega)) (by repeat constructor) rfl trivial (fun i => rfl) (fun B1 hB i hi _ => ?_) (fun _ => ?_)
  · have hk : ((n : Int) - 1 - (i : Int)) = ((n - 1 - i : Nat) : Int) := by omega
    rw [hk]
    generalize hk' : n - 1 - i = k
    have k0 : 0 < k := by omega
    have kn : k < n := by omega
    have hroom := hC k k0 kn
    refine tr_set (d := .int 0) 4 scSpills.nd (ed_to (ed_max2 rfl T.max (ea_cons ed_int (ea_cons (ed_sub (ed_ixOwn 2 0 rfl rfl (ed_name 3 rfl) (vI_at kn)) (ed_ixT rfl (ed_ixT (vec_at kn) (ed_name 0 rfl) (ed_name 3 rfl)) (ed_glob hm1))) ea_nil))) (by congr 1; split <;> omega)) ?_
    refine tr_augL 2 0 ip_sub rfl rfl (ed_name 3 rfl) (by omega) (ixN_nat (by rw [vI_len]; exact kn)) (vI_get kn) (ed_name 4 rfl) ?_
    have e1 : (vI n h).set k (.int (h k - 0)) = vI n h := by
      rw [vI_set kn]
      exact vI_congr fun j _ => by by_cases c : j = k <;> simp [c]
    show Tr _ (Sta _ _ ((l, .l ((vI n h).set k (.int (h k - 0)))) :: M0) _) _ _
    rw [e1]
    have hk1 : ((k : Int) - 1) = ((k - 1 : Nat) : Int) := by omega
    refine tr_augL 2 0 ip_add rfl rfl (n := k - 1) (ed_sub (ed_name 3 rfl) ed_int) (by omega) (by rw [hk1]; exact ixN_nat (by rw [vI_len]; omega)) (vI_get (by omega)) (ed_name 4 rfl) ?_
    refine tr_end (by repeat constructor) ?_ fun σ H S => ⟨trivial, S⟩
    show _ :: M0 = _ :: M0
    congr 3
    rw [vI_set (by omega)]
    exact vI_congr fun j _ => by by_cases c : j = k - 1 <;> simp [c]
  · refine tr_freeze 2 rfl ?_
    exact tr_ret R (fun q h => h) (ed_tupL T.tuple (ea_cons (ed_name 2 rfl) ea_nil))
end
end KX
namespace KX
open PySem PySem.Spec PyProof.Rows L2
section
variable {P : Program} {w : World} {K : PySem.W.Frag} {mg : Str → Option Value} {base : Heap}
/-! ## behind_rest -/
def rRest (ds : List PyData) (d : PyData) : Prop := ∃ (n : Nat) (W : Nat → Well) (h : Nat → Int) (r : Nat), ds = [wsD n W, .tuple (vI n h), .int r, .int r, .bool true, .tuple [], .tuple (vI n fun _ => 0)] ∧ 1 ≤ n ∧ n ≤ 900 ∧ Calm n W h ∧ (∀ k, 0 < k → k < n → rst W h r k ≤ (W k).room) ∧
  d = .tuple [.tuple (vI n (rst W h r)), .int (tk W h r (n - 1))]
abbrev pRest : List Str := ["waters", "held", "rest", "made", "moved", "loose", "leaks"]
abbrev nRest : List Str := ["waters", "held", "rest", "made", "moved", "loose", "leaks", "standing", "out", "part", "own"]
theorem scRest : FnScope nRest pRest (defScope sRest) := ⟨rfl, rfl, rfl, by decide +kernel, rfl, by decide +kernel, by decide +kernel⟩
theorem ok_rest {f : Addr} {fd : FuncData} (F : Fun K "behind_rest" "behind_rest" sRest f fd) (T : Txt mg) (D1 : Df P w K mg base CX0 2 "behind_stroke" pBr (spD K rStroke)) (D2 : Df P w K mg base CX0 1 "behind_spills" ["waters", "standing"] (spD K rSpills)) : FnOk P w K mg base CX0 3 f fd pRest (spD K rRest) := by
  refine fn_pure F scRest (fun ds d h => by obtain ⟨n, W, h, r, rfl, _⟩ := h; rfl) fun cdv A outer s H E hr B M0 D ds d hR R Rn => ?_
  obtain ⟨n, W, h, r, rfl, h1, hn, hC, hS, rfl⟩ := hR
  obtain ⟨t2, hm2⟩ := T.spring
  refine tr_pair (d1 := .list (vI n (stk W h r))) (d2 := .int (tk W h r (n - 1))) 7 8 rfl scRest.nd
    (ed_ifT (eb_val (ed_name 4 rfl)) (ed_call D1 hr ⟨n, W, h, r, rfl, h1, hn, hC, rfl⟩ (ea_cons (ed_name 0 rfl) (ea_cons (ed_name 1 rfl) (ea_cons (ed_name 3 rfl) (ea_cons (ed_name 5 rfl) (ea_cons (ed_name 6 rfl) ea_nil))))))) ?_
  by_cases c : r % 2 = 1
  · refine tr_ifT (eb_eq (decide_eq_true (by omega)) (ed_mod (by decide) (ed_name 2 rfl) ed_int) ed_int) (Mid := fun σ H => Sta K B M0 [some (.d (wsD n W)), some (.d (.tuple (vI n h))), some (.d (.int r)), some (.d (.int r)), some (.d (.bool true)), some (.d (.tuple [])), some (.d (.tuple (vI n fun _ => 0))), some (.d (.list (vI n (rst W h r)))), some (.d (.int (tk W h r (n - 1)))), none, none] σ H) ?_ ?_
    · refine tr_lcP (F := fun i => .int (rst W h r i)) (t := fun _ => true) 7 9 10 (n := min (vI n (stk W h r)).length (vec n fun k => wD (W k)).length) (by rw [vI_len]; omega) rfl scRest.nd (ei_zip T.zip (ea_cons (ed_name 7 rfl) (ea_cons (ed_name 0 rfl) ea_nil)) (.inr rfl) (.inl rfl)) (by show blkC nRest (defScope sRest) _ _ = true; decide +kernel)
        (fun i hi B1 Mx Da acc ad s H C cl fp => pts_no) (fun i hi _ B1 Mx Da acc ad s H C cl fp => ?_) fun l hl => ?_
      · rw [vI_len, vec_len] at hi
        have hi' : i < n := by omega
        rw [vI_y hi', vec_y hi']
        exact ed_to (ed_add (ed_name 9 rfl) (ed_ixT rfl (ed_name 10 rfl) (ed_glob hm2))) (by unfold rst; rw [if_pos c])
      · refine tr_freeze 7 rfl ?_
        refine tr_end (by repeat constructor) rfl fun σ H S => ?_
        rw [done_vec, vI_len, vec_len, show min n n = n by omega] at S
        exact S
    · exact tr_ret R (fun q h => h) (ed_tup (ea_cons (ed_call D2 (hr.mono (by decide)) ⟨n, W, _, rfl, h1, hn, hS, rfl⟩ (ea_cons (ed_name 0 rfl) (ea_cons (ed_name 7 rfl) ea_nil))) (ea_cons (ed_name 8 rfl) ea_nil)))
  · refine tr_ifF (eb_eq (decide_eq_false (by omega)) (ed_mod (by decide) (ed_name 2 rfl) ed_int) ed_int) ?_
    have e : vI n (stk W h r) = vI n (rst W h r) := vI_congr fun k _ => by unfold rst; rw [if_neg c]; omega
    rw [e]
    exact tr_ret R (fun q h => h) (ed_tup (ea_cons (ed_call D2 (hr.mono (by decide)) ⟨n, W, _, rfl, h1, hn, hS, rfl⟩ (ea_cons (ed_name 0 rfl) (ea_cons (ed_name 7 rfl) ea_nil))) (ea_cons (ed_name 8 rfl) ea_nil)))
end
end KX
namespace KX
open PySem PySem.Spec PyProof.Rows L2
section
variable {X : Cx} {B : Hp} {M M' M2 : Ms} {L L' L2' : Ls} {a b c e : Expr} {es : List Expr} {d da db dc d1 d2 d3 : PyData} {ds : List PyData} {pos spos : Pos} {p q : Bool} {rest body orelse : List Stmt} {D : Ends} {tg it elt : Expr}
/-- e, dropped -/
theorem tr_expr (he : ED X B M L e d) (hr : Tr X (Sta X.K B M L) rest D) (hs : swapsWith e none pos.line X.env = pure false := by rfl) : Tr X (Sta X.K B M L) (.Expr e pos :: rest) D :=
  tr_cons (ps_expr he hs) hr fun σ H nx S k => ⟨S, fun v H2 s2 g2 => k _ _ (S.same s2)⟩
/-- x op= e, ints -/
theorem tr_aug (i : Nat) {x : Str} {op : Operator} {f : Int → Int → Int} {y z : Int} {px : Pos} (hN : X.N.Nodup) (hop : PIp X op (ipI f)) (hL : L[i]? = some (some (.d (.int y)))) (he : ED X B M L e (.int z)) (hr : Tr X (Sta X.K B M (L.set i (some (.d (.int (f y z)))))) rest D)
    (hi : X.N[i]? = some x := by rfl) (hx : Loc X.env.scope x := by first | exact Or.inl rfl | exact Or.inr rfl) (hf : X.fn x = true ∨ X.env.scope.names.lookup x = some .local := by first | exact .inl rfl | exact .inr rfl) :
    Tr X (Sta X.K B M L) (.AugAssign (.Name x px) op e pos :: rest) D :=
  tr_cons (ps_aug hN hi hx he hop hf) hr fun σ H nx S k => by
    obtain ⟨v, h1, h2⟩ := S.loc i _ hL
    have h2' : Dp X.K (msk (adr M) H) v (.int y) := h2
    cases h2'
    refine ⟨_, h1, S, fun w H2 s2 g2 => ?_⟩
    cases g2
    exact ⟨y, z, rfl, rfl, k _ _ ((S.same s2).set (s := .d (.int (f y z))) (.int _))⟩
/-- list(range(a)) -/
theorem ed_listRg {pr px : Pos} {j : Int} (hc : X.calm = true) (hml : X.mg "list" = none) (hmr : X.mg "range" = none) (ha : ED X B M L a (.int j)) (h1 : 0 ≤ j) (h2 : j ≤ 100000) (hg : Gl X "list" := by rfl) (hgr : Gl X "range" := by rfl)
    (na : starEach [a] X.env = (false, eval a X.env) :: starEach [] X.env := by rfl) (nb : starEach [.Call (.Name "range" pr) [a] [] spos] X.env = (false, eval (.Call (.Name "range" pr) [a] [] spos) X.env) :: starEach [] X.env := by rfl) :
    ED X B M L (.Call (.Name "list" px) [.Call (.Name "range" pr) [a] [] spos] [] pos) (.list (vI j.toNat fun i => (i : Nat))) :=
  pe_imp (pe_listRg hc hg hml (prg_1 hgr hmr ha na) nb) fun σ H Q ⟨S, k⟩ => ⟨S, fun v H1 s1 g1 => by
    cases g1
    refine ⟨j, rfl, ⟨by omega, by omega, by omega, by omega, by omega⟩, fun l hl => ?_⟩
    refine k _ _ (s1.trans (same_new hl)) (fresh_l (S.same s1) hl ?_)
    have e1 : rgV 0 j = ((List.range j.toNat).map fun i => ((i : Nat) : Int)).map V.int := by
      unfold rgV
      rw [List.map_map, Int.sub_zero]
      exact List.map_congr_left fun i _ => by simp
    rw [e1, vI_map]
    exact dpa_ints _⟩
end
/-! ### slices -/
theorem cutD_drop {ds : List PyData} {k : Nat} : cutD ds (some (k : Int)) none = ds.drop k := by
  unfold cutD
  rw [HT.sIx_none, HT.sIx_nat]
  rw [List.take_of_length_le (by rw [List.length_drop]; omega)]
  by_cases h : k ≤ ds.length
  · rw [Nat.min_eq_left h]
  · rw [Nat.min_eq_right (by omega), List.drop_eq_nil_of_le (Nat.le_refl _), List.drop_eq_nil_of_le (by omega)]
theorem cutD_take {ds : List PyData} {k : Nat} : cutD ds none (some (k : Int)) = ds.take k := by
  unfold cutD
  rw [HT.sIx_nat, show HT.sIx ds.length 0 none = 0 from rfl, List.drop_zero, Nat.sub_zero]
  by_cases h : k ≤ ds.length
  · rw [Nat.min_eq_left h]
  · rw [Nat.min_eq_right (by omega), List.take_of_length_le (Nat.le_refl _), List.take_of_length_le (by omega)]
theorem cutD_init {ds : List PyData} : cutD ds none (some (-1)) = ds.take (ds.length - 1) := by
  unfold cutD
  rw [show HT.sIx ds.length 0 none = 0 from rfl, List.drop_zero, Nat.sub_zero, show HT.sIx ds.length ds.length (some (-1)) = ds.length - 1 from by
    unfold HT.sIx
    simp only
    rw [if_pos (by decide)]
    omega]
end KX
namespace KX
open PySem PySem.Spec PyProof.Rows L2
/-- the rest at which lift k + i is due, when started from CISTERN k -/
def wy (W : Nat → Well) (k : Nat) : Nat → Nat
  | 0 => 1
  | i + 1 => if (W (k + i)).rod = (((wy W k i + 1) % 2 : Nat) : Int) then wy W k i + 2 else wy W k i + 1
def way (n : Nat) (W : Nat → Well) (k : Nat) : Nat := wy W k (n - k)
theorem yAt_drop {n k i : Nat} {f : Nat → PyData} (h : k + i < n) : yAt ((vec n f).drop k) i = f (k + i) := yAt_of (by rw [List.getElem?_drop]; exact vec_get h)
section
variable {P : Program} {w : World} {K : PySem.W.Frag} {mg : Str → Option Value} {base : Heap}
/-! ## way_out -/
def rWay (ds : List PyData) (d : PyData) : Prop := ∃ (n : Nat) (W : Nat → Well) (k : Nat), ds = [wsD n W, .int k] ∧ n ≤ 900 ∧ k < n ∧ d = .int (way n W k)
theorem scWay : FnScope ["waters", "number", "rest", "own"] ["waters", "number"] (defScope sWay) := ⟨rfl, rfl, rfl, by decide +kernel, rfl, by decide +kernel, by decide +kernel⟩
theorem ok_way {f : Addr} {fd : FuncData} (F : Fun K "way_out" "way_out" sWay f fd) (T : Txt mg) (D1 : Df P w K mg base CX0 1 "some_cistern" ["waters", "number"] (spD K rSome)) : FnOk P w K mg base CX0 2 f fd ["waters", "number"] (spD K rWay) := by
  refine fn_pure F scWay (fun ds d h => by obtain ⟨n, W, k, rfl, _⟩ := h; rfl) fun cdv A outer s H E hr B M0 D ds d hR R Rn => ?_
  obtain ⟨n, W, k, rfl, hn, hk, rfl⟩ := hR
  obtain ⟨t4, hm4⟩ := T.rod
  refine tr_expr (ed_call D1 hr ⟨_, k, rfl, by rw [vec_len]; exact hk, rfl⟩ (ea_cons (ed_name 0 rfl) (ea_cons (ed_name 1 rfl) ea_nil))) ?_
  refine tr_set (d := .int 1) 2 scWay.nd ed_int ?_
  refine tr_forN 3 (fun _ => M0) (fun i => [some (.d (wsD n W)), some (.d (.int k)), some (.d (.int (wy W k i))), none]) (fun _ => True)
    scWay.nd .never rfl (ei_tup (ed_cutT (ed_name 0 rfl) (eo_some (ed_name 1 rfl)) eo_none)) (by repeat constructor) rfl trivial (fun i => rfl) (fun B1 hB i hi _ => ?_) (fun _ => ?_)
  · rw [cutD_drop, List.length_drop, vec_len] at hi
    rw [cutD_drop, yAt_drop (by omega)]
    refine tr_aug 2 scWay.nd ip_add rfl ed_int ?_
    by_cases c : (W (k + i)).rod = (((wy W k i + 1) % 2 : Nat) : Int)
    · refine tr_ifT (eb_eq (decide_eq_true (by rw [c]; omega)) (ed_ixT rfl (ed_name 3 rfl) (ed_glob hm4)) (ed_mod (by decide) (ed_name 2 rfl) ed_int)) (Mid := fun σ H => Sta K B1 M0 [some (.d (wsD n W)), some (.d (.int k)), some (.d (.int (wy W k (i + 1)))), none] σ H) ?_ (tr_nil fun σ H S => ⟨trivial, S⟩)
      refine tr_aug 2 scWay.nd ip_add rfl ed_int ?_
      refine tr_end ?_ rfl fun σ H S => S
      have e : (((wy W k i : Nat) : Int) + 1 + 1) = ((wy W k (i + 1) : Nat) : Int) := by
        show _ = (((if _ then _ else _ : Nat)) : Int)
        rw [if_pos c]; omega
      dsimp only [List.set]
      rw [e]
      repeat constructor
    · refine tr_ifF (eb_eq (decide_eq_false (fun z => c (by rw [z]; omega))) (ed_ixT rfl (ed_name 3 rfl) (ed_glob hm4)) (ed_mod (by decide) (ed_name 2 rfl) ed_int)) ?_
      refine tr_end ?_ rfl fun σ H S => ⟨trivial, S⟩
      have e : (((wy W k i : Nat) : Int) + 1) = ((wy W k (i + 1) : Nat) : Int) := by
        show _ = (((if _ then _ else _ : Nat)) : Int)
        rw [if_neg c]; omega
      dsimp only [List.set]
      rw [e]
      repeat constructor
  · rw [cutD_drop, List.length_drop, vec_len]
    exact tr_ret R (fun q h => h) (ed_name 2 rfl)
end
end KX
namespace KX
open PySem PySem.Spec PyProof.Rows L2
/-! ## tuple_of -/
/-- data of lists and tuples, at most N deep -/
def Dep : Nat → PyData → Prop
  | _, .none => True
  | _, .bool _ => True
  | _, .int _ => True
  | _, .str x => SeqAt.shaped (.str x) = true
  | _, .dict _ => False
  | 0, .list _ => False
  | 0, .tuple _ => False
  | N + 1, .list ds => ds.length ≤ 900 ∧ ∀ x ∈ ds, Dep N x
  | N + 1, .tuple ds => ds.length ≤ 900 ∧ ∀ x ∈ ds, Dep N x
def tupN : Nat → PyData → PyData
  | N + 1, .list ds => .tuple (ds.map (tupN N))
  | N + 1, .tuple ds => .tuple (ds.map (tupN N))
  | _, d => d
theorem list_vec (ds : List PyData) : ds = vec ds.length (yAt ds) := by
  apply List.ext_getElem?
  intro j
  by_cases hj : j < ds.length
  · rw [vec_get hj]
    exact (List.getElem?_eq_getElem hj).trans (by rw [yAt_of (List.getElem?_eq_getElem hj)])
  · rw [List.getElem?_eq_none (by omega), List.getElem?_eq_none (by rw [vec_len]; omega)]
theorem yAt_mem {ds : List PyData} {i : Nat} (h : i < ds.length) : yAt ds i ∈ ds := by
  rw [yAt_of (List.getElem?_eq_getElem h)]
  exact List.getElem_mem h
theorem vec_map (n : Nat) (f : Nat → PyData) (g : PyData → PyData) : (vec n f).map g = vec n fun i => g (f i) := by
  unfold vec
  rw [List.map_map]
  rfl
section
variable {P : Program} {w : World} {K : PySem.W.Frag} {mg : Str → Option Value} {base : Heap}
def rTup (N : Nat) (ds : List PyData) (d : PyData) : Prop := ∃ x, ds = [x] ∧ Dep N x ∧ d = tupN N x
abbrev nTuple : List Str := ["thing", "part"]
theorem scTuple : FnScope nTuple ["thing"] (defScope sTuple) := ⟨rfl, rfl, rfl, by decide +kernel, rfl, by decide +kernel, by decide +kernel⟩
theorem ok_tup {f : Addr} {fd : FuncData} (F : Fun K "tuple_of" "tuple_of" sTuple f fd) (T : Txt mg) (hm : mg "tuple_of" = some (.ref f)) (hb : Binds K fd ["thing"] []) : ∀ N : Nat, FnOk P w K mg base CX0 (N + 1) f fd ["thing"] (spD K (rTup N)) := by
  intro N
  induction N with
  | zero =>
    refine fn_pure F scTuple (fun ds d h => by obtain ⟨x, rfl, _⟩ := h; rfl) fun cdv A outer s H E hr B M0 D ds d hR R Rn => ?_
    obtain ⟨x, rfl, hx, hd⟩ := hR
    have go : ∀ x : PyData, kitB (tyD x) "list" = some false → kitB (tyD x) "tuple" = some false → Dep 0 x → Rt K B M0 D x → Tr (cxOf CX0 P w K mg base nTuple "tuple_of" (defScope sTuple) f cdv A outer s H E).nox (Sta K B M0 (startL nTuple [x])) (defBody sTuple) D := fun x h1 h2 _ R => by
      refine tr_ifF (eb_val (ed_isi2 T.isinstance T.list (by decide +kernel) T.tuple (by decide +kernel) (ed_name 0 rfl) rfl h1 h2 rfl)) ?_
      exact tr_ret R (fun q h => h) (ed_name 0 rfl)
    cases x with
    | none => exact go _ (by decide +kernel) (by decide +kernel) hx (by rw [hd] at R; exact R)
    | bool b => exact go _ (by show kitB "bool" _ = _; decide +kernel) (by show kitB "bool" _ = _; decide +kernel) hx (by rw [hd] at R; exact R)
    | int i => exact go _ (by show kitB "int" _ = _; decide +kernel) (by show kitB "int" _ = _; decide +kernel) hx (by rw [hd] at R; exact R)
    | str x => exact go _ (by show kitB "str" _ = _; decide +kernel) (by show kitB "str" _ = _; decide +kernel) hx (by rw [hd] at R; exact R)
    | list ds => exact hx.elim
    | tuple ds => exact hx.elim
    | dict ds => exact hx.elim
  | succ N ih =>
    have D1 : Df P w K mg base CX0 (N + 1) "tuple_of" ["thing"] (spD K (rTup N)) := df_mk F hm hb ih
    refine fn_pure F scTuple (fun ds d h => by obtain ⟨x, rfl, _⟩ := h; rfl) fun cdv A outer s H E hr B M0 D ds d hR R Rn => ?_
    obtain ⟨x, rfl, hx, rfl⟩ := hR
    have go : ∀ x : PyData, kitB (tyD x) "list" = some false → kitB (tyD x) "tuple" = some false → Rt K B M0 D x → Tr (cxOf CX0 P w K mg base nTuple "tuple_of" (defScope sTuple) f cdv A outer s H E).nox (Sta K B M0 (startL nTuple [x])) (defBody sTuple) D := fun x h1 h2 R => by
      refine tr_ifF (eb_val (ed_isi2 T.isinstance T.list (by decide +kernel) T.tuple (by decide +kernel) (ed_name 0 rfl) rfl h1 h2 rfl)) ?_
      exact tr_ret R (fun q h => h) (ed_name 0 rfl)
    have go2 : ∀ (x : PyData) (ds : List PyData) (p q : Bool), (p || q) = true → kitB (tyD x) "list" = some p → kitB (tyD x) "tuple" = some q → (x = .tuple ds ∨ x = .list ds) → ds.length ≤ 900 → (∀ y ∈ ds, Dep N y) → Rt K B M0 D (.tuple (ds.map (tupN N))) →
        Tr (cxOf CX0 P w K mg base nTuple "tuple_of" (defScope sTuple) f cdv A outer s H E).nox (Sta K B M0 (startL nTuple [x])) (defBody sTuple) D := fun x ds p q hpq h1 h2 hx hz hd R => by
      refine tr_ifR (eb_val (ed_isi2 T.isinstance T.list (by decide +kernel) T.tuple (by decide +kernel) (ed_name 0 rfl) rfl h1 h2 hpq)) ?_
      have e : ds.map (tupN N) = (List.range ds.length).map fun i => tupN N (yAt ds i) := by
        conv => lhs; rw [list_vec ds]
        exact vec_map _ _ _
      rw [e] at R
      rcases hx with rfl | rfl
      · refine tr_ret (R.ends rfl) (fun q h => h) ?_
        refine ed_tupL T.tuple (ea_cons (ed_of_f ?_) ea_nil)
        refine ef_lcN 1 (by omega : ds.length ≤ 1000) rfl scTuple.nd (ei_tup (ed_name 0 rfl)) (by show blkC nTuple (defScope sTuple) _ _ = true; decide +kernel) fun i hi B1 Mx Da acc ad s H C cl fp => ?_
        exact ed_call D1 hr ⟨_, rfl, hd _ (yAt_mem hi), rfl⟩ (ea_cons (ed_name 1 rfl) ea_nil)
      · refine tr_ret (R.ends rfl) (fun q h => h) ?_
        refine ed_tupL T.tuple (ea_cons (ed_of_f ?_) ea_nil)
        refine ef_lcN 1 (by omega : ds.length ≤ 1000) rfl scTuple.nd (ei_lst (ed_name 0 rfl)) (by show blkC nTuple (defScope sTuple) _ _ = true; decide +kernel) fun i hi B1 Mx Da acc ad s H C cl fp => ?_
        exact ed_call D1 hr ⟨_, rfl, hd _ (yAt_mem hi), rfl⟩ (ea_cons (ed_name 1 rfl) ea_nil)
    cases x with
    | none => exact go _ (by decide +kernel) (by decide +kernel) R
    | bool b => exact go _ (by show kitB "bool" _ = _; decide +kernel) (by show kitB "bool" _ = _; decide +kernel) R
    | int i => exact go _ (by show kitB "int" _ = _; decide +kernel) (by show kitB "int" _ = _; decide +kernel) R
    | str x => exact go _ (by show kitB "str" _ = _; decide +kernel) (by show kitB "str" _ = _; decide +kernel) R
    | list ds => exact go2 _ ds true false rfl (by show kitB "list" _ = _; decide +kernel) (by show kitB "list" _ = _; decide +kernel) (.inr rfl) hx.1 hx.2 R
    | tuple ds => exact go2 _ ds false true rfl (by show kitB "tuple" _ = _; decide +kernel) (by show kitB "tuple" _ = _; decide +kernel) (.inl rfl) hx.1 hx.2 R
    | dict ds => exact hx.elim
end
end KX
namespace KX
open PySem PySem.Spec PyProof.Rows L2
def flow (W : Nat → Well) : Nat → Int
  | 0 => 0
  | k + 1 => flow W k + (W k).spr
def easyAt (W : Nat → Well) (k : Nat) : Bool := decide (flow W (k + 1) ≤ (W k).meas) && (decide (k = 0) || decide (flow W (k + 1) ≤ (W k).room))
def easyB (n : Nat) (W : Nat → Well) : Bool := (List.range n).all (easyAt W)
theorem easyB_iff {n : Nat} {W : Nat → Well} : easyB n W = true ↔ ∀ k, k < n → easyAt W k = true := by
  unfold easyB
  rw [List.all_eq_true]
  exact ⟨fun h k hk => h k (List.mem_range.mpr hk), fun h k hk => h k (List.mem_range.mp hk)⟩
theorem easyB_no {n k : Nat} {W : Nat → Well} (hk : k < n) (h : easyAt W k = false) : easyB n W = false := by
  cases e : easyB n W with
  | false => rfl
  | true => rw [easyB_iff.mp e k hk] at h; cases h
section
variable {P : Program} {w : World} {K : PySem.W.Frag} {mg : Str → Option Value} {base : Heap}
/-! ## is_easy -/
def rEasy (ds : List PyData) (d : PyData) : Prop := ∃ (n : Nat) (W : Nat → Well), ds = [wsD n W] ∧ n ≤ 900 ∧ d = .bool (easyB n W)
theorem scEasy : FnScope ["waters", "flow", "number", "cistern"] ["waters"] (defScope sEasy) := ⟨rfl, rfl, rfl, by decide +kernel, rfl, by decide +kernel, by decide +kernel⟩
theorem ok_easy {f : Addr} {fd : FuncData} (F : Fun K "is_easy" "is_easy" sEasy f fd) (T : Txt mg) : FnOk P w K mg base CX0 1 f fd ["waters"] (spD K rEasy) := by
  refine fn_pure F scEasy (fun ds d h => by obtain ⟨n, W, rfl, _⟩ := h; rfl) fun cdv A outer s H E hr B M0 D ds d hR R Rn => ?_
  obtain ⟨n, W, rfl, hn, rfl⟩ := hR
  refine tr_set (d := .int 0) 1 scEasy.nd ed_int ?_
  refine tr_forP 2 3 (fun _ => M0) (fun i => [some (.d (wsD n W)), some (.d (.int (flow W i))), none, none]) (fun i => ∀ k, k < i → easyAt W k = true)
    scEasy.nd .never rfl (ei_enum T.enumerate (ea_cons (ed_name 0 rfl) ea_nil) (.inl rfl)) (by repeat constructor) rfl (fun k hk => absurd hk (by omega)) (fun i => rfl) (fun B1 hB i hi hp => ?_) (fun hp => ?_)
  · rw [vec_len] at hi
    rw [vec_y hi]
    refine tr_set (d := .int (flow W (i + 1))) 1 scEasy.nd (ed_add (ed_name 1 rfl) (ed_ixT rfl (ed_name 3 rfl) ed_int)) ?_
    by_cases c1 : flow W (i + 1) ≤ (W i).meas
    · by_cases c2 : i = 0
      · refine tr_ifF (eb_w (ew_orF (eb_gt (decide_eq_false (by omega)) (ed_name 1 rfl) (ed_ixT rfl (ed_name 3 rfl) ed_int)) (ew_or1 (eb_w (ew_andF (eb_gt (decide_eq_false (by omega)) (ed_name 2 rfl) ed_int)))))) ?_
        refine tr_end (by repeat constructor) rfl fun σ H S => ⟨fun k hk => ?_, S⟩
        by_cases hki : k < i
        · exact hp k hki
        · rw [show k = i by omega]
          unfold easyAt
          rw [decide_eq_true c1, decide_eq_true c2]; rfl
      · by_cases c3 : flow W (i + 1) ≤ (W i).room
        · refine tr_ifF (eb_w (ew_orF (eb_gt (decide_eq_false (by omega)) (ed_name 1 rfl) (ed_ixT rfl (ed_name 3 rfl) ed_int)) (ew_or1 (eb_w (ew_andT (eb_gt (decide_eq_true (by omega)) (ed_name 2 rfl) ed_int) (ew_and1 (eb_gt (decide_eq_false (by omega)) (ed_name 1 rfl) (ed_ixT rfl (ed_name 3 rfl) ed_int)))))))) ?_
          refine tr_end (by repeat constructor) rfl fun σ H S => ⟨fun k hk => ?_, S⟩
          by_cases hki : k < i
          · exact hp k hki
          · rw [show k = i by omega]
            unfold easyAt
            rw [decide_eq_true c1, decide_eq_true c3, Bool.or_true]; rfl
        · refine tr_ifR (eb_w (ew_orF (eb_gt (decide_eq_false (by omega)) (ed_name 1 rfl) (ed_ixT rfl (ed_name 3 rfl) ed_int)) (ew_or1 (eb_w (ew_andT (eb_gt (decide_eq_true (by omega)) (ed_name 2 rfl) ed_int) (ew_and1 (eb_gt (decide_eq_true (by omega)) (ed_name 1 rfl) (ed_ixT rfl (ed_name 3 rfl) ed_int)))))))) ?_
          exact tr_ret ((R.re hB).ends rfl) (fun q h => h) (ed_to ed_bool (by rw [easyB_no hi (by unfold easyAt; rw [decide_eq_false c2, decide_eq_false c3, Bool.or_false, Bool.and_false])]))
    · refine tr_ifR (eb_w (ew_orT (eb_gt (decide_eq_true (by omega)) (ed_name 1 rfl) (ed_ixT rfl (ed_name 3 rfl) ed_int)))) ?_
      exact tr_ret ((R.re hB).ends rfl) (fun q h => h) (ed_to ed_bool (by rw [easyB_no hi (by unfold easyAt; rw [decide_eq_false c1, Bool.false_and])]))
  · rw [vec_len] at hp ⊢
    exact tr_ret R (fun q h => h) (ed_to ed_bool (by rw [easyB_iff.mpr hp]))
/-! ## leaks_then -/
def rLeaks (ds : List PyData) (d : PyData) : Prop := ∃ (n : Nat) (W : Nat → Well) (r : Int), ds = [wsD n W, .none, .int r] ∧ n ≤ 900 ∧ d = .tuple (vI n fun _ => 0)
theorem scLeaks : FnScope ["waters", "leak", "rest", "found"] ["waters", "leak", "rest"] (defScope sLeaks) := ⟨rfl, rfl, rfl, by decide +kernel, rfl, by decide +kernel, by decide +kernel⟩
theorem ok_leaks {f : Addr} {fd : FuncData} (F : Fun K "leaks_then" "leaks_then" sLeaks f fd) (T : Txt mg) : FnOk P w K mg base CX0 1 f fd ["waters", "leak", "rest"] (spD K rLeaks) := by
  refine fn_pure F scLeaks (fun ds d h => by obtain ⟨n, W, r, rfl, _⟩ := h; rfl) fun cdv A outer s H E hr B M0 D ds d hR R Rn => ?_
  obtain ⟨n, W, r, rfl, hn, rfl⟩ := hR
  refine tr_own (ct := .l (vI n fun _ => 0)) 3 scLeaks.nd ?_ fun l hl => ?_
  · have e : List.replicate (((vec n fun k => wD (W k)).length : Nat) : Int).toNat (PyData.int 0) = vI n fun _ => 0 := by
      rw [vec_len, Int.toNat_natCast]
      exact rep_vec n _
    rw [← e]
    exact ef_rep (by omega) (by rw [vec_len]; omega) (ea_cons ed_int ea_nil) (ed_lenT T.len (ea_cons (ed_name 0 rfl) ea_nil))
  · refine tr_ifF (eb_w (ew_andF (eb_notN rfl (ed_name 1 rfl)))) ?_
    refine tr_freeze 3 rfl ?_
    exact tr_ret R (fun q h => h) (ed_tupL T.tuple (ea_cons (ed_name 3 rfl) ea_nil))
/-! ## leaky_run -/
def hdD (n : Nat) (W : Nat → Well) (r : Nat) : PyData := .tuple (vI n (hd W r))
def rLRun (ds : List PyData) (d : PyData) : Prop := ∃ (x : PyData) (n : Nat) (W : Nat → Well) (many : Nat), ds = [x, .none, .int many] ∧ Dep 2 x ∧ tupN 2 x = wsD n W ∧ 1 ≤ n ∧ n ≤ 900 ∧ many ≤ 900 ∧ Good n W many ∧
  d = .tuple [.list (vI many (out n W)), .list (vec (many + 1) (hdD n W))]
abbrev nLRun : List Str := ["waters", "leak", "many", "own", "fault", "row", "rows", "rest", "held", "out"]
theorem scLRun : FnScope nLRun ["waters", "leak", "many"] (defScope sLRun) := ⟨rfl, rfl, rfl, by decide +kernel, rfl, by decide +kernel, by decide +kernel⟩
theorem ok_lrun {f : Addr} {fd : FuncData} (F : Fun K "leaky_run" "leaky_run" sLRun f fd) (T : Txt mg) (D1 : Df P w K mg base CX0 3 "tuple_of" ["thing"] (spD K (rTup 2))) (D2 : Df P w K mg base CX0 1 "dry_held" ["waters"] (spD K rDry))
    (D3 : Df P w K mg base CX0 3 "behind_rest" pRest (spD K rRest)) (D4 : Df P w K mg base CX0 1 "leaks_then" ["waters", "leak", "rest"] (spD K rLeaks)) : FnOk P w K mg base CX0 4 f fd ["waters", "leak", "many"] (spD K rLRun) := by
  refine fn_pure F scLRun (fun ds d h => by obtain ⟨x, n, W, many, rfl, _⟩ := h; rfl) fun cdv A outer s H E hr B M0 D ds d hR R Rn => ?_
  obtain ⟨x, n, W, many, rfl, hx, ex, h1, hn, hm, hG, rfl⟩ := hR
  refine tr_dd (da := wsD n W) (db := .none) 3 4 rfl scLRun.nd (ed_call D1 hr ⟨x, rfl, hx, ex.symm⟩ (ea_cons (ed_name 0 rfl) ea_nil)) (ed_call D1 hr ⟨.none, rfl, trivial, rfl⟩ (ea_cons (ed_name 1 rfl) ea_nil)) ?_
  refine tr_oo (ct := .l []) (ct2 := .l [hdD n W 0]) 5 6 rfl scLRun.nd (ef_lst ea_nil) (fun l => ef_lst (ea_cons (ed_to (ed_call D2 (hr.mono (by decide)) ⟨_, rfl, by rw [vec_len]; exact h1, by rw [vec_len]; omega, rfl⟩ (ea_cons (ed_name 3 rfl) ea_nil)) ?_) ea_nil)) fun l l2 => ?_
  · rw [vec_len, rep_vec]; rfl
  refine tr_forN 7 (fun i => (l2, .l (vec (i + 1) (hdD n W))) :: (l, .l (vI i (out n W))) :: M0) (fun _ => [some (.d x), some (.d .none), some (.d (.int many)), some (.d (wsD n W)), some (.d .none), some (.v (.ref l)), some (.v (.ref l2)), none, none, none]) (fun _ => True)
    scLRun.nd .never rfl (ei_lst (ed_listRg (j := many) rfl T.list T.range (ed_name 2 rfl) (by omega) (by omega))) (by repeat constructor) rfl trivial (fun i => rfl) (fun B1 hB i hi _ => ?_) (fun _ => ?_)
  · rw [vI_len, Int.toNat_natCast] at hi
    rw [vI_y (by rw [Int.toNat_natCast]; exact hi)]
    have c1 := hG i (by omega)
    have c2 := hG (i + 1) (by omega)
    refine tr_pair (d1 := hdD n W (i + 1)) (d2 := .int (out n W i)) 8 9 rfl scLRun.nd
      (ed_call D3 (hr.mono (by decide)) ⟨n, W, hd W i, i, rfl, h1, hn, c1, fun k k0 kn => (c2 k kn).2.2 k0, rfl⟩
        (ea_cons (ed_name 3 rfl) (ea_cons (ed_ixOwn 6 0 rfl rfl (ed_neg ed_int) (vec_last (by omega))) (ea_cons (ed_name 7 rfl) (ea_cons (ed_name 7 rfl) (ea_cons ed_bool (ea_cons (ed_tup ea_nil) (ea_cons (ed_call D4 (hr.mono (by decide)) ⟨n, W, _, rfl, hn, rfl⟩ (ea_cons (ed_name 3 rfl) (ea_cons (ed_name 4 rfl) (ea_cons (ed_name 7 rfl) ea_nil)))) ea_nil)))))))) ?_
    refine tr_append (d := .int (out n W i)) 5 1 rfl (em_of (ed_name 9 rfl)) rfl ⟨1, _, rfl⟩ (by rw [vI_len]; omega) ?_
    refine tr_append (d := hdD n W (i + 1)) 6 0 rfl (em_of (ed_name 8 rfl)) rfl ⟨0, _, rfl⟩ (by rw [vec_len]; omega) ?_
    exact tr_end (by repeat constructor) (by rw [vI_snoc, vec_snoc]; rfl) fun σ H S => ⟨trivial, S⟩
  · rw [vI_len, Int.toNat_natCast]
    refine tr_freeze 6 rfl ?_
    refine tr_freeze 5 rfl ?_
    exact tr_ret R (fun q h => h) (ed_tup (ea_cons (ed_name 5 rfl) (ea_cons (ed_name 6 rfl) ea_nil)))
/-! ## leaky_row -/
def rLRow (ds : List PyData) (d : PyData) : Prop := ∃ (x : PyData) (n : Nat) (W : Nat → Well) (many : Nat), ds = [x, .none, .int many] ∧ Dep 2 x ∧ tupN 2 x = wsD n W ∧ 1 ≤ n ∧ n ≤ 900 ∧ many ≤ 900 ∧ Good n W many ∧
  d = .tuple (vI many (out n W))
theorem scLRow : FnScope ["waters", "leak", "many"] ["waters", "leak", "many"] (defScope sLRow) := ⟨rfl, rfl, rfl, by decide +kernel, rfl, by decide +kernel, by decide +kernel⟩
theorem ok_lrow {f : Addr} {fd : FuncData} (F : Fun K "leaky_row" "leaky_row" sLRow f fd) (T : Txt mg) (D1 : Df P w K mg base CX0 4 "leaky_run" ["waters", "leak", "many"] (spD K rLRun)) : FnOk P w K mg base CX0 5 f fd ["waters", "leak", "many"] (spD K rLRow) := by
  refine fn_pure F scLRow (fun ds d h => by obtain ⟨x, n, W, many, rfl, _⟩ := h; rfl) fun cdv A outer s H E hr B M0 D ds d hR R Rn => ?_
  obtain ⟨x, n, W, many, rfl, hx, ex, h1, hn, hm, hG, rfl⟩ := hR
  exact tr_ret R (fun q h => h) (ed_tupL T.tuple (ea_cons (ed_ixT rfl (ed_call D1 hr ⟨x, n, W, many, rfl, hx, ex, h1, hn, hm, hG, rfl⟩ (ea_cons (ed_name 0 rfl) (ea_cons (ed_name 1 rfl) (ea_cons (ed_name 2 rfl) ea_nil)))) ed_int) ea_nil))
/-! ## with_springs -/
def wSp (W : Nat → Well) (s : Nat → Int) : Nat → Well := fun k => { W k with spr := s k }
def rWith (ds : List PyData) (d : PyData) : Prop := ∃ (x : PyData) (n : Nat) (W : Nat → Well) (sp : Nat → Int), ds = [x, .list (vI n sp)] ∧ Dep 2 x ∧ tupN 2 x = wsD n W ∧ n ≤ 900 ∧ d = wsD n (wSp W sp)
theorem scWith : FnScope ["waters", "springs", "made", "cistern", "spring"] ["waters", "springs"] (defScope sWith) := ⟨rfl, rfl, rfl, by decide +kernel, rfl, by decide +kernel, by decide +kernel⟩
theorem ok_with {f : Addr} {fd : FuncData} (F : Fun K "with_springs" "with_springs" sWith f fd) (T : Txt mg) (D1 : Df P w K mg base CX0 3 "tuple_of" ["thing"] (spD K (rTup 2))) : FnOk P w K mg base CX0 4 f fd ["waters", "springs"] (spD K rWith) := by
  refine fn_pure F scWith (fun ds d h => by obtain ⟨x, n, W, sp, rfl, _⟩ := h; rfl) fun cdv A outer s H E hr B M0 D ds d hR R Rn => ?_
  obtain ⟨x, n, W, sp, rfl, hx, ex, hn, rfl⟩ := hR
  refine tr_own (ct := .l []) 2 scWith.nd (ef_lst ea_nil) fun l hl => ?_
  refine tr_forP 3 4 (fun i => (l, .l (vec i fun k => wD (wSp W sp k))) :: M0) (fun _ => [some (.d x), some (.d (.list (vI n sp))), some (.v (.ref l)), none, none]) (fun _ => True)
    scWith.nd .never rfl (ei_zip T.zip (ea_cons (ed_call D1 hr ⟨x, rfl, hx, ex.symm⟩ (ea_cons (ed_name 0 rfl) ea_nil)) (ea_cons (ed_name 1 rfl) ea_nil)) (.inl rfl) (.inr rfl)) (by repeat constructor) rfl trivial (fun i => rfl) (fun B1 hB i hi _ => ?_) (fun _ => ?_)
  · rw [vec_len, vI_len] at hi
    have hi' : i < n := by omega
    rw [vec_y hi', vI_y hi']
    refine tr_append (d := wD (wSp W sp i)) 2 0 rfl (em_of (ed_to (ed_catT ?_ (ed_catT ?_ (ed_cutT (ed_name 3 rfl) eo_none (eo_some ed_int)) (ed_tup (ea_cons (ed_name 4 rfl) ea_nil))) (ed_cutT (ed_name 3 rfl) (eo_some ed_int) eo_none)) rfl)) rfl ⟨0, _, rfl⟩ (by rw [vec_len]; omega) ?_
    · show (5 : Nat) ≤ 1000; decide
    · show (3 : Nat) ≤ 1000; decide
    exact tr_end (by repeat constructor) (by rw [vec_snoc]; rfl) fun σ H S => ⟨trivial, S⟩
  · rw [vec_len, vI_len, show min n n = n by omega]
    refine tr_freeze 2 rfl ?_
    exact tr_ret R (fun q h => h) (ed_tupL T.tuple (ea_cons (ed_name 2 rfl) ea_nil))
end
end KX
namespace KX
open PySem PySem.Spec PyProof.Rows L2 L2.DX
/-! ## d.items() of a dict with int keys; sorted of it -/
section
variable {X : Cx}
def rItemsK : V → List V → Hp → VK → Prop := fun x xs H Q => ∃ (a : Addr) (kvs : List (Key × V)), x = .ref a ∧ xs = [] ∧ H a = some (.dK kvs) ∧ ∀ p, H p = none → Q (.ref p) (upd H p (itemsO p a))
theorem mt_itemsK : MtR X "dict.items" rItemsK := by
  intro pins s σ H x xs v us Q I rx rxs h
  obtain ⟨a, kvs, rfl, rfl, ha, q⟩ := h
  cases rx
  cases rxs
  obtain ⟨z, hd, vs, rel, o, es, ep, ho, hx, hdat, _⟩ := (show ObjOk X.prog X.w H s.heap a (.dK kvs) from I.hok a _ ha)
  refine DT.callItems (es := es) (ep := ep) hd ⟨o, ho, hx, hdat⟩ ?_
  have hf : H s.heap.objs.size = none := I.hok.fresh (Nat.le_refl _)
  exact ⟨.ref s.heap.objs.size, upd H s.heap.objs.size (itemsO s.heap.objs.size a), I.laid (t' := s.toks) (fun b u e => Heap.get?_push_of_some _ e) (Nat.le_refl _) (itemsO_ok (Heap.get?_push_size _ rfl)), rfl, q _ hf⟩
/-- a pair (k, (n, ..)) -/
def encI (q : Int × List Int) : PyData := .tuple [.int q.1, .tuple (q.2.map .int)]
theorem pairs_get {K : Type} [DecidableEq K] {prog : Program} {w : World} {knd : KeyKind prog w K} {es : List DictEntry} {kvs : List (K × Value)} (h : Pairs knd es kvs) {j : Nat} {e : DictEntry} (he : es[j]? = some e) : ∃ kv, kvs[j]? = some kv ∧ knd.is kv.1 e.key = true ∧ e.val = kv.2 := by
  induction h generalizing j with
  | nil => simp at he
  | cons h1 h2 _ ih =>
    cases j with
    | zero => simp at he; subst he; exact ⟨_, rfl, h1, h2⟩
    | succ j => exact ih (by simpa using he)
theorem readsInts {h : Heap} : ∀ {ns : List Int} {us : List Value}, Vals (ns.map V.int) us → ReadsAll h us (ns.map .int) []
  | [], _, r => by cases r; exact .nil
  | n :: ns, _, r => by
    cases r with
    | cons r1 r2 =>
      obtain ⟨t, rfl⟩ := r1
      exact ReadsAll.cons (as := []) (bs := []) (.int n t) (readsInts r2)
theorem depth_encI (q : Int × List Int) : (encI q).depth = 2 := by
  simp [encI, PyData.depth, PyData.depthAll, PySem.W.depth_ints]
def rSortIK (K : PySem.W.Frag) : List V → Hp → VK → Prop := fun vs H Q => ∃ (p a : Addr) (ys : List (Key × V)) (ks : List (Int × List Int)), vs = [.ref p] ∧ H p = some (itemsO p a) ∧ H a = some (.dK ys) ∧ ys.length ≤ 1000 ∧
  Paired (fun (y : Key × V) (q : Int × List Int) => y.1 = Sum.inl q.1 ∧ Dp K H y.2 (.tuple (q.2.map .int))) ys ks ∧
  ∀ (H' : Hp) (l : Addr) (zs : List (Addr × Int × List Int)), Same H H' → (zs.map (·.2)).Perm ks → (zs.map (·.2)).Pairwise (fun x y => PySem.W.dataLe false encI x y = true) → H l = none → H' l = some (.lst (zs.map fun z => V.ref z.1)) →
    (∀ z ∈ zs, H z.1 = none ∧ ∃ (j : Nat) (v : V), ys[j]? = some (Sum.inl z.2.1, v) ∧ ks[j]? = some z.2 ∧ H' z.1 = some (.tup [.int z.2.1, v])) → Q (.ref l) H'
theorem cr_sortedIK (hc : X.calm = true) (hu : X.A.units + 64 < cLine) : CallR X (.builtin "sorted") (rSortIK X.K) := by
  intro pins s σ H vs us Q I r h
  obtain ⟨p, a, ys, ks, rfl, hp, ha, h64, hv, q⟩ := h
  obtain rfl := Vals.ref1 r
  have view : s.heap.IsItemsView p a := (show ObjOk X.prog X.w H s.heap p (itemsO p a) from I.hok p _ hp).1
  obtain ⟨z, hd, xs', rel, o, es, ep, ho, hx, hdat, _, hes, hn⟩ := (show ObjOk X.prog X.w H s.heap a (.dK ys) from I.hok a _ ha)
  have l1 : ys.length = xs'.length := Paired.length rel
  have l2 : es.toList.length = xs'.length := hes.length
  have l2' : es.size = ys.length := by rw [← Array.length_toList, l2, l1]
  have l3 : ys.length = ks.length := Paired.length hv
  have hh : X.A.handled = none := I.ok.hd hc
  refine DT.sortedI (es := es) (ep := ep) hh view ⟨o, ho, hx, hdat⟩ (by rw [sizeLine_eq]; omega) fun h' tk as hk hlt hl hG => ?_
  have lak : as.length = ks.length := by omega
  have nd : as.Nodup := List.Pairwise.imp (fun h => Nat.ne_of_lt h) hG.rise
  -- the pairs that were made
  have pr : ∀ (j : Nat) (b : Addr), as[j]? = some b → ∃ (y : Key × V) (e : Int × List Int) (t : Tok) (u : Value), ys[j]? = some y ∧ ks[j]? = some e ∧ y.1 = Sum.inl e.1 ∧ Dp X.K H y.2 (.tuple (e.2.map .int)) ∧ RelV y.2 u ∧ h'.get? b = some { cls := .type "tuple", data := .seq #[Value.int e.1 t, u] } := by
    intro j b hj
    obtain ⟨en, he, hg⟩ := hG.pairs j b hj
    obtain ⟨kv, hkv, k1, k2⟩ := pairs_get hes (by rw [Array.getElem?_toList]; exact he)
    obtain ⟨y, hy, r1, r2⟩ := pget rel hkv
    have hjk : j < ks.length := by rw [← l3]; exact (List.getElem?_eq_some_iff.mp hy).1
    obtain ⟨y', hy', r3, r4⟩ := pget hv (List.getElem?_eq_getElem hjk)
    rw [hy] at hy'
    cases hy'
    have kr : RelV (kV kv.1) en.key := keyIs_rel k1
    rw [← r1, r3] at kr
    obtain ⟨t, et⟩ := kr
    refine ⟨y, ks[j], t, en.val, hy, List.getElem?_eq_getElem hjk, r3, r4, by rw [k2]; exact r2, ?_⟩
    rw [hg, et]
  -- the heap of the sort
  have hob : (h'.push { cls := .type "list", data := .seq (as.map Value.ref).toArray }).get? h'.objs.size = some (seqObj "list" (as.map Value.ref).toArray 0) := Heap.get?_push_size _ rfl
  have kb : ∀ b o, s.heap.get? b = some o → (h'.push { cls := .type "list", data := .seq (as.map Value.ref).toArray }).get? b = some o := fun b o e => Heap.get?_push_of_some _ (hk b o e)
  have ne0 : ∀ b o, h'.get? b = some o → b ≠ h'.objs.size := fun b o e => Nat.ne_of_lt (Heap.lt_size e)
  generalize hh2 : h'.push { cls := .type "list", data := .seq (as.map Value.ref).toArray } = h2 at hob kb ⊢
  have ka : ∀ b o, h'.get? b = some o → h2.get? b = some o := fun b o e => by rw [← hh2]; exact Heap.get?_push_of_some _ e
  have idz : ∀ z ∈ as.zip ks, ∃ j : Nat, as[j]? = some z.1 ∧ ks[j]? = some z.2 := by
    intro z' hz'
    obtain ⟨j, hj⟩ := List.mem_iff_getElem?.mp hz'
    exact ⟨j, List.getElem?_zip_eq_some.mp hj⟩
  have each : PySem.W.EachIs (fun (v : Value) (b : Addr × Int × List Int) => v = .ref b.1) (as.map Value.ref) (as.zip ks) := by
    refine PySem.W.EachIs.of_zip (by rw [List.length_map, List.length_zip]; omega) fun p hp => ?_
    obtain ⟨j, hj⟩ := List.mem_iff_getElem?.mp hp
    obtain ⟨j1, j2⟩ := List.getElem?_zip_eq_some.mp hj
    obtain ⟨j3, j4⟩ := List.getElem?_zip_eq_some.mp j2
    rw [List.getElem?_map, j3] at j1
    exact (Option.some.inj j1).symm
  have er : PySem.W.EachIs (fun (v : Value) (b : Addr × Int × List Int) => ∃ as, Reads h2 v (encI b.2) as ∧ h'.objs.size ∉ as) (as.map Value.ref) (as.zip ks) := by
    refine (PySem.W.each_mem each).mono fun v b hb => ?_
    obtain ⟨ev, hb⟩ := hb
    subst ev
    obtain ⟨j, j1, j2⟩ := idz b hb
    obtain ⟨y, e, t, u, hy, he, r3, r4, r5, hg⟩ := pr j b.1 j1
    rw [j2] at he
    cases he
    obtain ⟨c, ws, ew, hT, hD⟩ := dp_tup r4
    rw [ew] at r5
    obtain rfl : u = Value.ref c := r5
    obtain ⟨its, rv, ⟨oc, hoc, hcc, nc, hdc⟩, _⟩ := I.tuple hT
    have := dpa_ints_inv hD
    subst this
    refine ⟨[], ?_, by simp⟩
    refine Reads.tuple (ka _ _ hg) rfl rfl ?_
    show ReadsAll h2 [Value.int b.2.1 t, Value.ref c] [.int b.2.1, .tuple (b.2.2.map .int)] []
    exact ReadsAll.cons (as := []) (bs := []) (.int _ _) (ReadsAll.cons (as := []) (bs := []) (Reads.tuple (kb _ _ hoc) hcc hdc (by simpa using readsInts rv)) .nil)
  refine PySem.W.list_sort_data (s := { s with heap := h2, toks := tk }) (bs := as.zip ks) (enc := fun b => encI b.2) (R := fun v b => v = .ref b.1) (n := 0) hob each
    er (PySem.W.AllAlike.of fun b b' => by simp [PySem.W.alike, PySem.W.alikeAll, encI, PySem.W.alike_ints]) (PySem.W.Sortable.tuples fun b => ⟨_, _, rfl⟩) (by rw [List.length_zip, sizeLine_eq]; omega)
    (fun b hb => by rw [depth_encI]; show X.A.units + 1 + 1 + 2 < cLine; omega) fun out hlo eo => ?_
  · show EP X pins σ Q (.ref h'.objs.size) { s with heap := sortedHeap h2 h'.objs.size (as.map Value.ref) (List.toArray out), toks := tk }
    have pz : ((as.zip ks).mergeSort (PySem.W.dataLe false fun b => encI b.2)).Perm (as.zip ks) := List.mergeSort_perm _ _
    have srt : ((as.zip ks).mergeSort (PySem.W.dataLe false fun b => encI b.2)).Pairwise (fun x y => PySem.W.dataLe false (fun b : Addr × Int × List Int => encI b.2) x y = true) := PySem.W.sort_pairwise (PySem.W.sortLe_total _ _ _) _
    generalize hzs : (as.zip ks).mergeSort (PySem.W.dataLe false fun b => encI b.2) = zs at pz srt eo
    have idx : ∀ z ∈ zs, ∃ j : Nat, as[j]? = some z.1 ∧ ks[j]? = some z.2 := fun z hz => idz z (pz.mem_iff.mp hz)
    have hout : out = zs.map fun z => Value.ref z.1 := by
      clear hzs pz srt idx hlo
      induction eo with
      | nil => rfl
      | cons h1 _ ih => exact congr (congrArg List.cons h1) ih
    have hperm : (zs.map (·.2)).Perm ks := by
      have e := pz.map (·.2)
      have m2 : (as.zip ks).map (·.2) = ks := List.map_snd_zip (by rw [lak]; exact Nat.le_refl _)
      rw [m2] at e
      exact e
    -- behind the sort
    have kF : ∀ b o, b ≠ h'.objs.size → h2.get? b = some o → (sortedHeap h2 h'.objs.size (as.map Value.ref) (List.toArray out)).get? b = some o := fun b o hb e => (PyProof.Rows.sortedHeap_old hb (Heap.lt_size e)).trans e
    have kS : ∀ b o, s.heap.get? b = some o → (sortedHeap h2 h'.objs.size (as.map Value.ref) (List.toArray out)).get? b = some o := fun b o e => kF b o (ne0 _ _ (hk b o e)) (kb b o e)
    obtain ⟨eF, heF⟩ := PyProof.Rows.sortedHeap_at (vs := as.map Value.ref) (out := List.toArray out) hob
    have I1 : Inv X pins σ H { s with heap := sortedHeap h2 h'.objs.size (as.map Value.ref) (List.toArray out), toks := tk } := I.kept (t' := tk) kS
    have hn0 : H h'.objs.size = none := I.hok.fresh (Nat.le_of_lt hlt)
    have hlen : (zs.map fun z => V.ref z.1).length ≤ sizeLine := by
      have e := hperm.length_eq
      rw [List.length_map] at e
      rw [List.length_map, sizeLine_eq]
      omega
    have rv : Vals (zs.map fun z => V.ref z.1) out := by
      rw [hout]
      exact vals_maps (fun z : Addr × Int × List Int => V.ref z.1) (fun z => Value.ref z.1) zs fun _ _ => rfl
    have I2 : Inv X pins σ (upd H h'.objs.size (.lst (zs.map fun z => V.ref z.1))) { s with heap := sortedHeap h2 h'.objs.size (as.map Value.ref) (List.toArray out), toks := tk } :=
      I1.take (h' := sortedHeap h2 h'.objs.size (as.map Value.ref) (List.toArray out)) (t' := tk) (fun b ob _ e => e) (I.fpOk (Nat.le_of_lt hlt) hn0) ⟨hlen, out, eF, rv, heF⟩
    obtain ⟨H2, I3, g, qt⟩ := takeT (P := fun b vs => ∃ (j : Nat) (y : Key × V) (e : Int × List Int), as[j]? = some b ∧ ys[j]? = some y ∧ ks[j]? = some e ∧ y.1 = Sum.inl e.1 ∧ vs = [.int e.1, y.2]) I as _ I2 nd fun b hb => by
      obtain ⟨j, hj⟩ := List.mem_iff_getElem?.mp hb
      obtain ⟨y, e, t, u, hy, he, r3, r4, r5, hg⟩ := pr j b hj
      have hbl : s.heap.objs.size ≤ b := Nat.le_of_lt (hG.above b hb)
      refine ⟨hbl, ?_, [.int e.1, y.2], ⟨j, y, e, hj, hy, he, r3, rfl⟩, fun H3 => ⟨(by rw [sizeLine_eq]; show 2 ≤ 16777216; omega), [Value.int e.1 t, u], .cons ⟨_, rfl⟩ (.cons r5 .nil), ⟨_, kF _ _ (ne0 _ _ hg) (ka _ _ hg), rfl, 0, rfl⟩⟩⟩
      rw [upd_ne (ne0 _ _ hg)]
      exact I.hok.fresh hbl
    have gr : Same H H2 := fun b o e => g b o (by rw [upd_ne (ne_of_none e hn0)]; exact e)
    refine ⟨.ref h'.objs.size, H2, I3, rfl, q H2 h'.objs.size zs gr hperm (List.pairwise_map.mpr srt) hn0 (g _ _ upd_same) fun z' hz' => ?_⟩
    obtain ⟨i, i1, i2⟩ := idx z' hz'
    refine ⟨I.hok.fresh (Nat.le_of_lt (hG.above _ (List.mem_of_getElem? i1))), ?_⟩
    obtain ⟨vs, ⟨j, y, e, j1, jy, j2, ey, ev⟩, hH⟩ := qt z'.1 (List.mem_of_getElem? i1)
    have eij : i = j := (List.getElem?_inj (List.getElem?_eq_some_iff.mp i1).1 nd).mp (i1.trans j1.symm)
    subst eij
    have ee : e = z'.2 := Option.some.inj (j2.symm.trans i2)
    rw [ev, ee] at hH
    rw [ee] at ey
    refine ⟨i, y.2, ?_, i2, hH⟩
    rw [jy, ← ey]
end
end KX
namespace KX
open PySem PySem.Spec PyProof.Rows L2 L2.DX
/-! ## dicts with int keys -/
def valD {β : Type} (kvs : List (Int × β)) (k : Int) : Option β := (kvs.find? fun kv => decide (kv.1 = k)).map (·.2)
def putD {β : Type} (kvs : List (Int × β)) (k : Int) (v : β) : List (Int × β) :=
  if (kvs.any fun kv => decide (kv.1 = k)) = true then kvs.map (fun kv => if kv.1 = k then (kv.1, v) else kv) else kvs ++ [(k, v)]
theorem valD_map {β γ : Type} (f : β → γ) (kvs : List (Int × β)) (k : Int) : valD (kvs.map fun q => (q.1, f q.2)) k = (valD kvs k).map f := by
  unfold valD
  rw [List.find?_map, Option.map_map, Option.map_map]
  rfl
theorem putD_map {β γ : Type} (f : β → γ) (kvs : List (Int × β)) (k : Int) (v : β) : putD (kvs.map fun q => (q.1, f q.2)) k (f v) = (putD kvs k v).map fun q => (q.1, f q.2) := by
  unfold putD
  rw [List.any_map]
  have e : ((fun kv : Int × γ => decide (kv.1 = k)) ∘ fun q : Int × β => (q.1, f q.2)) = fun kv => decide (kv.1 = k) := rfl
  rw [e]
  split
  · rw [List.map_map, List.map_map]
    refine List.map_congr_left fun q _ => ?_
    by_cases h : q.1 = k <;> simp [h]
  · simp
theorem putD_len {β : Type} (kvs : List (Int × β)) (k : Int) (v : β) : (putD kvs k v).length ≤ kvs.length + 1 := by
  unfold putD
  split
  · rw [List.length_map]; omega
  · rw [List.length_append]; simp
abbrev KP (K : PySem.W.Frag) (H : Hp) : Key × V → Int × PyData → Prop := fun p q => p.1 = Sum.inl q.1 ∧ Dp K H p.2 q.2
theorem kp_val {K : PySem.W.Frag} {H : Hp} {k : Int} : ∀ {ys : List (Key × V)} {kvs : List (Int × PyData)}, Paired (KP K H) ys kvs → (∀ d, valD kvs k = some d → ∃ v, valV ys (Sum.inl k) = some v ∧ Dp K H v d) ∧ (valD kvs k = none → valV ys (Sum.inl k) = none)
  | _, _, .nil => ⟨fun d h => by simp [valD] at h, fun _ => rfl⟩
  | _, _, .cons (a := y) (b := q) h t => by
    obtain ⟨i1, i2⟩ := kp_val (k := k) t
    by_cases e : q.1 = k
    · have e1 : y.1 = Sum.inl k := by rw [h.1, e]
      refine ⟨fun d hd => ⟨y.2, valV_pos e1, ?_⟩, fun hn => ?_⟩
      · simp [valD, List.find?_cons, e] at hd
        subst hd
        exact h.2
      · simp [valD, List.find?_cons, e] at hn
    · have e1 : ¬ y.1 = Sum.inl k := fun z => e (by rw [h.1] at z; exact Sum.inl.inj z)
      have e2 : ∀ r, valD (q :: r) k = valD r k := fun r => by simp [valD, List.find?_cons, e]
      rw [e2, valV_neg e1]
      exact ⟨i1, i2⟩
theorem kp_any {K : PySem.W.Frag} {H : Hp} {k : Int} : ∀ {ys : List (Key × V)} {kvs : List (Int × PyData)}, Paired (KP K H) ys kvs → (ys.any fun kv => decide (kv.1 = (Sum.inl k : Key))) = kvs.any fun kv => decide (kv.1 = k)
  | _, _, .nil => rfl
  | _, _, .cons (a := y) (b := q) h t => by
    rw [List.any_cons, List.any_cons, kp_any t]
    congr 1
    rw [decide_eq_decide, h.1]
    exact ⟨fun z => Sum.inl.inj z, fun z => by rw [z]⟩
theorem kp_app {K : PySem.W.Frag} {H : Hp} {a : Key × V} {b : Int × PyData} (hb : KP K H a b) : ∀ {ys : List (Key × V)} {kvs : List (Int × PyData)}, Paired (KP K H) ys kvs → Paired (KP K H) (ys ++ [a]) (kvs ++ [b])
  | _, _, .nil => .cons hb .nil
  | _, _, .cons h t => .cons h (kp_app hb t)
theorem kp_put1 {K : PySem.W.Frag} {H : Hp} {k : Int} {v : V} {d : PyData} (g : Dp K H v d) : ∀ {ys : List (Key × V)} {kvs : List (Int × PyData)}, Paired (KP K H) ys kvs →
    Paired (KP K H) (ys.map fun kv => if kv.1 = (Sum.inl k : Key) then (kv.1, v) else kv) (kvs.map fun kv => if kv.1 = k then (kv.1, d) else kv)
  | _, _, .nil => .nil
  | _, _, .cons (a := y) (b := q) h t => by
    refine .cons ?_ (kp_put1 g t)
    dsimp only
    by_cases e : q.1 = k
    · rw [if_pos e, if_pos (by rw [h.1, e])]
      exact ⟨h.1, g⟩
    · rw [if_neg e, if_neg (fun z => e (by rw [h.1] at z; exact Sum.inl.inj z))]
      exact h
theorem kp_put {K : PySem.W.Frag} {H : Hp} {k : Int} {v : V} {d : PyData} {ys : List (Key × V)} {kvs : List (Int × PyData)} (h : Paired (KP K H) ys kvs) (g : Dp K H v d) : Paired (KP K H) (putK ys (Sum.inl k) v) (putD kvs k d) := by
  unfold putK putD
  rw [kp_any h]
  split
  · exact kp_put1 g h
  · exact kp_app ⟨rfl, g⟩ h
section
variable {X : Cx} {B : Hp} {M M' : Ms} {L L' L2' : Ls} {a b c e : Expr} {es : List Expr} {d da db dc d1 d2 d3 : PyData} {ds : List PyData} {pos spos : Pos} {p q : Bool} {rest body orelse : List Stmt} {D : Ends} {tg it elt : Expr} {kvs : List (Int × PyData)}
theorem ef_dict : EF X B M L (.Dict [] [] pos) (.k []) :=
  pe_imp pe_dnewK fun σ H Q ⟨S, k⟩ p hp => k p _ hp (fresh_in hp) ⟨[], upd_same, by simp, .nil⟩
/-- x.get(a, b) of one's own dict -/
theorem ed_getK (i k : Nat) {x : Str} {l : Addr} {j : Int} {ap px cp : Pos} (hu : X.A.units + 64 < cLine) (hL : L[i]? = some (some (.v (.ref l)))) (hM : M[k]? = some (l, Ct.k kvs)) (ha : ED X B M L a (.int j)) (hb : ED X B M L b db) (hd0 : d = (valD kvs j).getD db)
    (m : M2 X (.Name x px) "get" ap a b cp := by exact ⟨rfl, rfl, rfl, rfl⟩) (hN : X.N[i]? = some x := by rfl) (hv : Vis X.env.scope x := by first | exact Or.inl rfl | exact Or.inr (Or.inl rfl) | exact Or.inr (Or.inr rfl))
    (hd : (x == ("__debug__" : Str)) = false := by decide) (hcd : (x == ("__classdict__" : Str)) = false := by decide) : ED X B M L (.Call (.Attribute (.Name x px) "get" ap) [a, b] [] cp) d :=
  pe_imp (pe_dget2 (by omega) (pe_var hN hv hd hcd) ha hb m) fun σ H Q ⟨S, kq⟩ => by
    obtain ⟨v, h1, h2⟩ := S.loc i _ hL
    have h2' : v = .ref l := h2
    subst h2'
    obtain ⟨ys, e1, z1, g⟩ := S.get hM
    refine ⟨_, h1, l, rfl, .inl ⟨ys, .inl e1⟩, S, fun y H2 s2 g2 => ⟨S.same s2, fun z H3 s3 g3 => ?_⟩⟩
    cases g2
    have S3 := S.same (s2.trans s3)
    obtain ⟨ys3, e3, z3, g4⟩ := S3.get hM
    refine ⟨valV ys3 (Sum.inl j), DGet.k (k := Sum.inl j) e3, ?_⟩
    obtain ⟨q1, q2⟩ := kp_val (k := j) g4
    subst hd0
    cases ev : valD kvs j with
    | none =>
      rw [q2 ev]
      exact kq z H3 (s2.trans s3) (by rw [ev]; exact g3)
    | some d =>
      obtain ⟨v, hv, gv⟩ := q1 d ev
      rw [hv]
      exact kq v H3 (s2.trans s3) (by rw [ev]; exact gv)
/-- x[a] = e of one's own dict -/
theorem tr_setK (i k : Nat) {x : Str} {l : Addr} {j : Int} {px ps : Pos} (hu : X.A.units + 64 < cLine) (hL : L[i]? = some (some (.v (.ref l)))) (hM : M[k]? = some (l, Ct.k kvs)) (hz : kvs.length < 1000) (he : ED X B M L e d) (ha : ED X B M L a (.int j))
    (hr : Tr X (Sta X.K B (M.set k (l, .k (putD kvs j d))) L) rest D)
    (hN : X.N[i]? = some x := by rfl) (hv : Vis X.env.scope x := by first | exact Or.inl rfl | exact Or.inr (Or.inl rfl) | exact Or.inr (Or.inr rfl))
    (hd : (x == ("__debug__" : Str)) = false := by decide) (hcd : (x == ("__classdict__" : Str)) = false := by decide)
    (hasn : ∀ v, assign (.Subscript (.Name x px) a ps) X.env v = (do
      let ov ← holding [v] (eval (.Name x px) X.env)
      let iv ← holding [v, ov] (eval a X.env)
      standAt ps
      holding [v, ov, iv] (setItem ov iv v)
      release [v, ov, iv] []) := by intro _; rfl)
    (hs : swapsWithSole [.Subscript (.Name x px) a ps] e pos.line X.env = pure false := by rfl) (hw : swappedStores [.Subscript (.Name x px) a ps] e X.env = pure none := by rfl)
    (h1 : (assignEach [.Subscript (.Name x px) a ps] X.env).map (·.2) = [assign (.Subscript (.Name x px) a ps) X.env] := by rfl) :
    Tr X (Sta X.K B M L) (.Assign [.Subscript (.Name x px) a ps] e pos :: rest) D :=
  tr_cons (ps_asg he (pg_sub (pe_var hN hv hd hcd) ha (set_dict (by omega)) hasn) hs hw h1) hr fun σ H nx S kq => ⟨S, fun w H1 s1 g1 => by
    have S1 := S.same s1
    obtain ⟨v, h1, h2⟩ := S1.loc i _ hL
    have h2' : v = .ref l := h2
    subst h2'
    refine ⟨_, h1, S1, fun y H2 s2 g2 => ?_⟩
    cases g2
    have S2 := S1.same s2
    obtain ⟨ys, e1, z1, g⟩ := S2.get hM
    have hl : ys.length = kvs.length := Paired.length g
    refine ⟨l, _, rfl, DPut.k (k := Sum.inl j) e1 (by have := @small1000 (ys.length) (by omega); omega), ?_⟩
    refine kq _ _ (S2.upd hM ⟨_, rfl, ?_, kp_put g (dp_mono (same_msk s2) _ _ g1)⟩)
    have := putD_len kvs j d
    have e5 : (putK ys (Sum.inl j) w).length = (putD kvs j d).length := Paired.length (kp_put g (dp_mono (same_msk s2) _ _ g1))
    omega⟩
/-- strictly upward lists with the same items are the same -/
theorem up_one {β : Type} (k : β → Int) : ∀ {xs ys : List β}, xs.Perm ys → xs.Pairwise (fun a b => k a < k b) → ys.Pairwise (fun a b => k a < k b) → xs = ys
  | [], ys, h, _, _ => h.nil_eq
  | x :: xs, [], h, _, _ => absurd h.length_eq (by simp)
  | x :: xs, y :: ys, h, hx, hy => by
    rw [List.pairwise_cons] at hx hy
    have e : x = y := by
      rcases List.mem_cons.mp (h.mem_iff.mp List.mem_cons_self) with e | m1
      · exact e
      · rcases List.mem_cons.mp (h.mem_iff.mpr (List.mem_cons_self (a := y) (l := ys))) with e | m2
        · exact e.symm
        · have := hx.1 _ m2
          have := hy.1 _ m1
          omega
    subst e
    rw [up_one k (List.Perm.cons_inv h) hx.2 hy.2]
theorem dataLe_encI {x y : Int × List Int} (hne : x.1 ≠ y.1) (h : PySem.W.dataLe false encI x y = true) : x.1 < y.1 := by
  rw [PySem.W.dataLe_eq] at h
  have h' : (!PySem.W.dataLt (encI y) (encI x)) = true := h
  unfold encI at h'
  rw [PySem.W.dataLt_pair (by simp [PySem.W.alike]) (by simp [PySem.W.alike, PySem.W.alike_ints]), PySem.W.dataLt_int, if_neg (by simp [PyData.eqv]; omega)] at h'
  have : ¬ y.1 < x.1 := by simpa using h'
  omega
theorem sorted_one {zs cs ks : List (Int × List Int)} (h1 : zs.Perm ks) (h2 : zs.Pairwise fun x y => PySem.W.dataLe false encI x y = true) (h3 : cs.Perm ks) (h4 : cs.Pairwise fun a b => a.1 < b.1) : zs = cs := by
  have hp : zs.Perm cs := h1.trans h3.symm
  refine up_one (·.1) hp ?_ h4
  have nd : cs.Pairwise fun a b => a.1 ≠ b.1 := h4.imp fun h => by omega
  have nd2 : zs.Pairwise fun a b => a.1 ≠ b.1 := (hp.pairwise_iff (fun {a b} h => Ne.symm h)).mpr nd
  exact (h2.and nd2).imp fun ⟨u, v⟩ => dataLe_encI v u
/-- sorted(x.items()), x one's own dict of tuples of ints -/
theorem ed_sortedItems (i k : Nat) {x : Str} {l : Addr} {ap px cp ps : Pos} {ks cs : List (Int × List Int)} (hc : X.calm = true) (hu : X.A.units + 64 < cLine) (hm : X.mg "sorted" = none) (hL : L[i]? = some (some (.v (.ref l)))) (hM : M[k]? = some (l, Ct.k (ks.map fun q => (q.1, .tuple (q.2.map .int)))))
    (hp : cs.Perm ks) (hs : cs.Pairwise fun a b => a.1 < b.1)
    (hN : X.N[i]? = some x := by rfl) (hv : Vis X.env.scope x := by first | exact Or.inl rfl | exact Or.inr (Or.inl rfl) | exact Or.inr (Or.inr rfl))
    (hd : (x == ("__debug__" : Str)) = false := by decide) (hcd : (x == ("__classdict__" : Str)) = false := by decide)
    (hbase : attributeBase (.Name x px) "items" X.env (eval (.Name x px) X.env) = eval (.Name x px) X.env := by rfl) (hline : (ap.endLine == cp.line) = true := by rfl) (hg : Gl X "sorted" := by rfl)
    (he : starEach [.Call (.Attribute (.Name x px) "items" ap) [] [] cp] X.env = (false, eval (.Call (.Attribute (.Name x px) "items" ap) [] [] cp) X.env) :: starEach [] X.env := by rfl) :
    ED X B M L (.Call (.Name "sorted" ps) [.Call (.Attribute (.Name x px) "items" ap) [] [] cp] [] pos) (.list (cs.map encI)) :=
  pe_imp (pe_callB (cr_sortedIK hc hu) hg hm (by decide +kernel) (pa_cons (pe_bm0 PySem.F.plainAttrs_dict PySem.F.slot_dict_items PySem.F.type_dict_items mt_itemsK (pe_var hN hv hd hcd) hbase hline) pa_nil he) (by decide) (by decide) he rfl) fun σ H Q ⟨S, kq⟩ => by
    obtain ⟨v, h1, h2⟩ := S.loc i _ hL
    have h2' : v = .ref l := h2
    subst h2'
    obtain ⟨ys, e1, z1, g⟩ := S.get hM
    refine ⟨_, h1, .inr (.inr (.inl ⟨rfl, .inl ⟨ys, e1⟩⟩)), l, ys, rfl, rfl, e1, fun p hpn => ?_⟩
    have sn : Same H (upd H p (itemsO p l)) := same_new hpn
    have S1 := S.same sn
    obtain ⟨ys1, e2, z2, g2⟩ := S1.get hM
    have ey : ys1 = ys := by
      have := sn _ _ e1
      rw [e2] at this
      exact (HO.dK.inj (Option.some.inj this))
    subst ey
    have gg : ∀ {H' : Hp}, Paired (KP X.K H') ys1 (ks.map fun q => (q.1, PyData.tuple (q.2.map .int))) → Paired (fun (y : Key × V) (q : Int × List Int) => y.1 = Sum.inl q.1 ∧ Dp X.K H' y.2 (.tuple (q.2.map .int))) ys1 ks := by
      intro H' h
      clear z2 e2 g2 g z1 e1 hM hp
      induction ks generalizing ys1 with
      | nil => cases h; exact .nil
      | cons q ks ih =>
        cases h with
        | cons h t => exact .cons h (ih _ t)
    refine ⟨p, l, ys1, ks, rfl, upd_same, e2, z2, gg (Paired.mapP g2 fun a b r => ⟨r.1, dp_mono msk_same _ _ r.2⟩), fun H' l' zs s' hpz hsz hl' hH' hz => ?_⟩
    have ez : zs.map (·.2) = cs := sorted_one hpz hsz hp hs
    have st := sn.trans s'
    have g3 := gg g2
    refine kq _ H' st ?_
    rw [← ez, List.map_map]
    refine .lst (SqL.of (by rw [msk_out (S1.out hl')]; exact hH')) ?_
    clear hpz hsz ez hH'
    induction zs with
    | nil => exact .nil
    | cons z zs ih =>
      refine .cons ?_ (ih fun y hy => hz y (List.mem_cons_of_mem _ hy))
      obtain ⟨n1, j, v, hy, hk, hT⟩ := hz z List.mem_cons_self
      obtain ⟨y', hy', r1, r2⟩ := pget g3 hk
      rw [hy] at hy'
      cases hy'
      exact .tup (SqT.of (by rw [msk_out (S1.out n1)]; exact hT)) (.cons (.int _) (.cons (dp_mono (same_msk s') _ _ r2) .nil))
end
end KX
namespace KX
open PySem PySem.Spec PyProof.Rows L2
/-- the dict of lots behind i CISTERNS -/
def lotsT (n : Nat) (W : Nat → Well) : Nat → List (Int × List Int)
  | 0 => []
  | i + 1 => putD (lotsT n W i) (way n W i) (((valD (lotsT n W i) (way n W i)).getD []) ++ [(i : Int)])
theorem lotsT_len (n : Nat) (W : Nat → Well) : ∀ i, (lotsT n W i).length ≤ i
  | 0 => Nat.le_refl _
  | i + 1 => Nat.le_trans (putD_len _ _ _) (Nat.succ_le_succ (lotsT_len n W i))
def tI2 (ns : List Int) : PyData := .tuple (ns.map .int)
section
variable {P : Program} {w : World} {K : PySem.W.Frag} {mg : Str → Option Value} {base : Heap}
/-! ## lots_by_way -/
def rLots (ds : List PyData) (d : PyData) : Prop := ∃ (n : Nat) (W : Nat → Well) (cs : List (Int × List Int)), ds = [wsD n W] ∧ n ≤ 900 ∧ cs.Perm (lotsT n W n) ∧ (cs.Pairwise fun a b => a.1 < b.1) ∧ d = .list (cs.map encI)
theorem scLots : FnScope ["waters", "found", "number", "cistern", "way"] ["waters"] (defScope sLots) := ⟨rfl, rfl, rfl, by decide +kernel, rfl, by decide +kernel, by decide +kernel⟩
theorem ok_lots {f : Addr} {fd : FuncData} (F : Fun K "lots_by_way" "lots_by_way" sLots f fd) (T : Txt mg) (D1 : Df P w K mg base CX0 2 "way_out" ["waters", "number"] (spD K rWay)) : FnOk P w K mg base CX0 3 f fd ["waters"] (spD K rLots) := by
  refine fn_pure F scLots (fun ds d h => by obtain ⟨n, W, cs, rfl, _⟩ := h; rfl) fun cdv A outer s H E hr B M0 D ds d hR R Rn => ?_
  obtain ⟨n, W, cs, rfl, hn, hp, hs, rfl⟩ := hR
  refine tr_own (ct := .k []) 1 scLots.nd ef_dict fun l hl => ?_
  refine tr_forP 2 3 (fun i => (l, .k ((lotsT n W i).map fun q => (q.1, tI2 q.2))) :: M0) (fun _ => [some (.d (wsD n W)), some (.v (.ref l)), none, none, none]) (fun _ => True)
    scLots.nd .never rfl (ei_enum T.enumerate (ea_cons (ed_name 0 rfl) ea_nil) (.inl rfl)) (by repeat constructor) rfl trivial (fun i => rfl) (fun B1 hB i hi _ => ?_) (fun _ => ?_)
  · rw [vec_len] at hi
    have hl := lotsT_len n W i
    refine tr_set (d := .int (way n W i)) 4 scLots.nd (ed_call D1 hr ⟨n, W, i, rfl, hn, hi, rfl⟩ (ea_cons (ed_name 0 rfl) (ea_cons (ed_name 2 rfl) ea_nil))) ?_
    refine tr_setK (d := tI2 (((valD (lotsT n W i) (way n W i)).getD []) ++ [(i : Int)])) 1 0 hr.units rfl rfl (by rw [List.length_map]; omega) (ed_to (ed_catT (ds := ((valD (lotsT n W i) (way n W i)).getD []).map .int) (es' := [.int i]) ?_ (ed_getK 1 0 hr.units rfl rfl (ed_name 4 rfl) (ed_tup ea_nil) ?_) (ed_tup (ea_cons (ed_name 2 rfl) ea_nil))) ?_) (ed_name 4 rfl) ?_
    · have hv : ∀ ns, valD (lotsT n W i) (way n W i) = some ns → ns.length ≤ i := by
        have key : ∀ j, j ≤ n → ∀ q ∈ lotsT n W j, q.2.length ≤ j := by
          intro j
          induction j with
          | zero => intro _ q hq; cases hq
          | succ j ih =>
            intro hj q hq
            unfold lotsT putD at hq
            have hv : ((valD (lotsT n W j) (way n W j)).getD []).length ≤ j := by
              cases e : valD (lotsT n W j) (way n W j) with
              | none => simp
              | some ns =>
                obtain ⟨q', hq', e'⟩ := Option.map_eq_some_iff.mp e
                have := ih (by omega) q' (List.mem_of_find?_eq_some hq')
                rw [e'] at this
                exact this
            split at hq
            · obtain ⟨q', hq', rfl⟩ := List.mem_map.mp hq
              have := ih (by omega) q' hq'
              try dsimp only
              split
              · try dsimp only
                rw [List.length_append]
                simp
                omega
              · omega
            · rcases List.mem_append.mp hq with hq | hq
              · have := ih (by omega) q hq
                omega
              · rw [List.mem_singleton.mp hq]
                dsimp only
                rw [List.length_append]
                simp
                omega
        intro ns e
        obtain ⟨q', hq', e'⟩ := Option.map_eq_some_iff.mp e
        have := key i (by omega) q' (List.mem_of_find?_eq_some hq')
        rw [e'] at this
        exact this
      rw [List.length_map]
      cases e : valD (lotsT n W i) (way n W i) with
      | none => simp
      | some ns =>
        have := hv ns e
        simp
        omega
    · rw [valD_map tI2]
      cases valD (lotsT n W i) (way n W i) <;> rfl
    · unfold tI2
      rw [List.map_append]
      rfl
    refine tr_end (by repeat constructor) ?_ fun σ H S => ⟨trivial, S⟩
    show (l, Ct.k (putD ((lotsT n W i).map fun q => (q.1, tI2 q.2)) (way n W i) _)) :: M0 = _
    rw [putD_map tI2]
    rfl
  · rw [vec_len]
    exact tr_ret R (fun q h => List.mem_cons_of_mem _ h) (ed_sortedItems 1 0 rfl hr.units T.sorted rfl rfl hp hs)
end
end KX
namespace KX
open PySem PySem.Spec PyProof.Rows L2
/-! # plain laws of the wells -/
def Rods (n : Nat) (W : Nat → Well) : Prop := ∀ k, k < n → (W k).rod = 0 ∨ (W k).rod = 1
def Sprs (n : Nat) (W : Nat → Well) : Prop := ∀ k, k < n → 0 ≤ (W k).spr
theorem flow_nn {n : Nat} {W : Nat → Well} (h : Sprs n W) : ∀ k, k ≤ n → 0 ≤ flow W k
  | 0, _ => Int.le_refl _
  | k + 1, hk => by
    have := flow_nn h k (by omega)
    have := h k (by omega)
    show 0 ≤ flow W k + (W k).spr
    omega
/-- what CISTERN k holds at most before rest r -/
def capI (W : Nat → Well) (r k : Nat) : Int :=
  if r % 2 = 0 then (if (W k).rod = 1 then flow W (k + 1) else (W k).spr + (if 0 < k ∧ (W (k - 1)).rod = 0 then flow W k else 0))
  else (if (W k).rod = 1 then (if 0 < k ∧ (W (k - 1)).rod = 1 then flow W k else 0) else flow W (k + 1))
theorem cap_flow {n : Nat} {W : Nat → Well} (h : Sprs n W) {r k : Nat} (hk : k < n) : capI W r k ≤ flow W (k + 1) := by
  have h1 := h k hk
  have h2 := flow_nn h k (by omega)
  have e : flow W (k + 1) = flow W k + (W k).spr := rfl
  unfold capI
  split
  · split
    · omega
    · split <;> omega
  · split
    · split <;> omega
    · omega
theorem tk_le {W : Nat → Well} {h : Nat → Int} {r k : Nat} (h0 : 0 ≤ h k) : 0 ≤ tk W h r k ∧ tk W h r k ≤ h k := by
  unfold tk
  split <;> omega
theorem cap_step {n : Nat} {W : Nat → Well} (hr : Rods n W) (h : Sprs n W) : ∀ r k, k < n → 0 ≤ hd W r k ∧ hd W r k ≤ capI W r k
  | 0, k, hk => by
    have h1 := h k hk
    have h2 := flow_nn h k (by omega)
    have e : flow W (k + 1) = flow W k + (W k).spr := rfl
    refine ⟨Int.le_refl _, ?_⟩
    show 0 ≤ capI W 0 k
    unfold capI
    rw [if_pos rfl]
    split
    · omega
    · split <;> omega
  | r + 1, k, hk => by
    have h1 := h k hk
    have h2 := flow_nn h k (by omega)
    have e : flow W (k + 1) = flow W k + (W k).spr := rfl
    obtain ⟨a1, a2⟩ := cap_step hr h r k hk
    have b1 : 0 < k → 0 ≤ hd W r (k - 1) ∧ hd W r (k - 1) ≤ capI W r (k - 1) := fun h0 => cap_step hr h r (k - 1) (by omega)
    have b2 : 0 < k → capI W r (k - 1) ≤ flow W k := fun h0 => by
      have := cap_flow h (r := r) (k := k - 1) (by omega)
      rw [show k - 1 + 1 = k by omega] at this
      exact this
    have b3 : 0 < k → (W (k - 1)).rod = 0 ∨ (W (k - 1)).rod = 1 := fun h0 => hr (k - 1) (by omega)
    have e2 : hd W (r + 1) k = rst W (hd W r) r k := rfl
    rw [e2]
    unfold rst stk tk up
    unfold capI at a2 ⊢
    rcases Nat.mod_two_eq_zero_or_one r with p | p
    · have p' : (r + 1) % 2 = 1 := by omega
      rw [p] at a2 ⊢
      rw [p']
      simp only [if_true, Int.natCast_zero, show ¬ ((1 : Nat) = 0) by decide, if_false, show ¬ ((0 : Nat) = 1) by decide] at a2 ⊢
      rcases hr k hk with q | q
      · simp only [q, show ¬ ((0 : Int) = 1) by decide, if_false] at a2 ⊢
        by_cases h0 : 0 < k
        · obtain ⟨c1, c2⟩ := b1 h0
          have c3 := b2 h0
          rcases b3 h0 with u | u
          · simp [u, h0, show ¬ k = 0 by omega] at a2 ⊢; omega
          · simp [u, h0, show ¬ k = 0 by omega] at a2 ⊢; omega
        · have : k = 0 := by omega
          subst this
          simp at a1 a2 e ⊢
          omega
      · simp only [q, if_true] at a2 ⊢
        by_cases h0 : 0 < k
        · obtain ⟨c1, c2⟩ := b1 h0
          have c3 := b2 h0
          rcases b3 h0 with u | u
          · simp [u, h0, show ¬ k = 0 by omega] at a2 ⊢
          · simp [u, h0, show ¬ k = 0 by omega] at a2 ⊢; omega
        · have : k = 0 := by omega
          subst this
          simp at a2 ⊢
    · have p' : (r + 1) % 2 = 0 := by omega
      rw [p] at a2 ⊢
      rw [p']
      simp only [if_true, show ¬ ((1 : Nat) = 0) by decide, if_false] at a2 ⊢
      rcases hr k hk with q | q
      · simp only [q, show ¬ ((0 : Int) = 1) by decide, if_false] at a2 ⊢
        by_cases h0 : 0 < k
        · obtain ⟨c1, c2⟩ := b1 h0
          have c3 := b2 h0
          rcases b3 h0 with u | u
          · simp [u, h0, show ¬ k = 0 by omega] at a2 ⊢; omega
          · simp [u, h0, show ¬ k = 0 by omega] at a2 ⊢; omega
        · have : k = 0 := by omega
          subst this
          simp at a1 a2 e ⊢
          omega
      · simp only [q, if_true] at a2 ⊢
        by_cases h0 : 0 < k
        · obtain ⟨c1, c2⟩ := b1 h0
          have c3 := b2 h0
          rcases b3 h0 with u | u
          · simp [u, h0, show ¬ k = 0 by omega] at a2 ⊢; omega
          · simp [u, h0, show ¬ k = 0 by omega] at a2 ⊢; omega
        · have : k = 0 := by omega
          subst this
          simp at a1 a2 e ⊢
          omega
theorem easyAt_le {W : Nat → Well} {k : Nat} (h : easyAt W k = true) : flow W (k + 1) ≤ (W k).meas ∧ (0 < k → flow W (k + 1) ≤ (W k).room) := by
  unfold easyAt at h
  rw [Bool.and_eq_true, Bool.or_eq_true] at h
  exact ⟨of_decide_eq_true h.1, fun h0 => by
    rcases h.2 with q | q
    · have := of_decide_eq_true q; omega
    · exact of_decide_eq_true q⟩
/-- an easy run spills nothing and leaves nothing behind -/
theorem good_easy {n : Nat} {W : Nat → Well} (hr : Rods n W) (h : Sprs n W) (he : easyB n W = true) (many : Nat) : Good n W many := fun r _ k hk => by
  obtain ⟨a1, a2⟩ := cap_step hr h r k hk
  have a3 := cap_flow h (r := r) hk
  obtain ⟨e1, e2⟩ := easyAt_le (easyB_iff.mp he k hk)
  exact ⟨a1, by omega, fun h0 => by have := e2 h0; omega⟩
/-! ## what comes out -/
def sumTo : Nat → (Nat → Int) → Int
  | 0, _ => 0
  | n + 1, f => sumTo n f + f n
theorem sumTo_congr {f g : Nat → Int} : ∀ {n : Nat}, (∀ k, k < n → f k = g k) → sumTo n f = sumTo n g
  | 0, _ => rfl
  | n + 1, h => by
    show sumTo n f + f n = sumTo n g + g n
    rw [sumTo_congr fun k hk => h k (by omega), h n (by omega)]
theorem sumTo_add {f g : Nat → Int} : ∀ n : Nat, sumTo n (fun k => f k + g k) = sumTo n f + sumTo n g
  | 0 => rfl
  | n + 1 => by
    show sumTo n (fun k => f k + g k) + (f n + g n) = (sumTo n f + f n) + (sumTo n g + g n)
    rw [sumTo_add n]; omega
theorem sumTo_sub {f g : Nat → Int} : ∀ n : Nat, sumTo n (fun k => f k - g k) = sumTo n f - sumTo n g
  | 0 => rfl
  | n + 1 => by
    show sumTo n (fun k => f k - g k) + (f n - g n) = (sumTo n f + f n) - (sumTo n g + g n)
    rw [sumTo_sub n]; omega
theorem sumTo_zero : ∀ {n : Nat} {f : Nat → Int}, (∀ k, k < n → f k = 0) → sumTo n f = 0
  | 0, _, _ => rfl
  | n + 1, f, h => by
    show sumTo n f + f n = 0
    rw [sumTo_zero fun k hk => h k (by omega), h n (by omega)]; rfl
theorem sumTo_le {f g : Nat → Int} : ∀ {n : Nat}, (∀ k, k < n → f k ≤ g k) → sumTo n f ≤ sumTo n g
  | 0, _ => Int.le_refl _
  | n + 1, h => by
    show sumTo n f + f n ≤ sumTo n g + g n
    have := sumTo_le (n := n) fun k hk => h k (by omega)
    have := h n (by omega)
    omega
def tm (s : Int) (w r : Nat) : Int := if w ≤ r ∧ w % 2 = r % 2 then s else 0
def br (W : Nat → Well) (r k : Nat) : Int := tk W (hd W r) r k
def brp (W : Nat → Well) (r k : Nat) : Int := if k = 0 then 0 else br W r (k - 1)
theorem br_0 (W : Nat → Well) (k : Nat) : br W 0 k = 0 := by
  unfold br tk
  split <;> rfl
theorem hd_1 (W : Nat → Well) (k : Nat) : hd W 1 k = 0 := by
  show rst W (hd W 0) 0 k = 0
  unfold rst stk
  have h1 := br_0 W k
  have h2 := br_0 W (k - 1)
  unfold br at h1 h2
  rw [h1, h2]
  show (0 : Int) - 0 + _ + _ = 0
  split <;> simp
theorem br_1 (W : Nat → Well) (k : Nat) : br W 1 k = 0 := by
  unfold br tk
  rw [hd_1]
  split <;> rfl
theorem up_2 (r : Nat) : up (r + 2) = up r := by
  unfold up
  rw [show (r + 2) % 2 = r % 2 by omega]
theorem hd_s (W : Nat → Well) (r k : Nat) : hd W (r + 1) k = hd W r k - br W r k + brp W r k + (if r % 2 = 1 then (W k).spr else 0) := by
  show rst W (hd W r) r k = _
  unfold rst stk brp br
  rfl
theorem br_rec (W : Nat → Well) (r k : Nat) : br W (r + 2) k = if (W k).rod = up r then (W k).spr + brp W (r + 1) k + brp W r k else 0 := by
  have e0 : br W (r + 2) k = if (W k).rod = up (r + 2) then hd W (r + 2) k else 0 := rfl
  rw [e0, up_2]
  by_cases c : (W k).rod = up r
  · rw [if_pos c, if_pos c, hd_s W (r + 1), hd_s W r]
    have e1 : br W r k = hd W r k := by
      unfold br tk
      rw [if_pos c]
    have e2 : br W (r + 1) k = 0 := by
      unfold br tk
      rw [if_neg (by rw [c]; unfold up; omega)]
    rw [e1, e2]
    rcases Nat.mod_two_eq_zero_or_one r with p | p
    · rw [if_neg (by omega), if_pos (by omega)]; omega
    · rw [if_pos (by omega), if_neg (by omega)]; omega
  · rw [if_neg c, if_neg c]
theorem wy_step {W : Nat → Well} {k i : Nat} : wy W k (i + 1) = if (W (k + i)).rod = (((wy W k i + 1) % 2 : Nat) : Int) then wy W k i + 2 else wy W k i + 1 := rfl
theorem wy_ge (W : Nat → Well) (k : Nat) : ∀ i, i + 1 ≤ wy W k i
  | 0 => Nat.le_refl _
  | i + 1 => by
    have := wy_ge W k i
    rw [wy_step]
    split <;> omega
theorem wy_le (W : Nat → Well) (k : Nat) : ∀ i, wy W k i ≤ 2 * i + 1
  | 0 => Nat.le_refl _
  | i + 1 => by
    have := wy_le W k i
    rw [wy_step]
    split <;> omega
/-- the parity of the rest of a lift -/
theorem wy_par {W : Nat → Well} {k i : Nat} (h : (W (k + i)).rod = 0 ∨ (W (k + i)).rod = 1) : (W (k + i)).rod = up (wy W k (i + 1)) := by
  rw [wy_step]
  split
  · rename_i c
    rw [c]
    unfold up
    omega
  · rename_i c
    unfold up
    rcases h with h | h <;> rw [h] at c ⊢ <;> omega
theorem tm_step {s rod : Int} {w r : Nat} (hr : rod = 0 ∨ rod = 1) : tm s (if rod = (((w + 1) % 2 : Nat) : Int) then w + 2 else w + 1) (r + 2) = if rod = up r then tm s w (r + 1) + tm s w r else 0 := by
  unfold tm up
  rcases Nat.mod_two_eq_zero_or_one r with p | p <;> rcases Nat.mod_two_eq_zero_or_one w with q | q <;> rcases hr with h | h <;> subst h
  all_goals
    have p1 : (r + 1) % 2 = (r % 2 + 1) % 2 := by omega
    have p2 : (r + 2) % 2 = r % 2 := by omega
    have q1 : (w + 1) % 2 = (w % 2 + 1) % 2 := by omega
    rw [p2, p1, q1, p, q]
    simp
    try rw [show (w + 2) % 2 = w % 2 by omega, q]
    try rw [show (w + 1) % 2 = (w % 2 + 1) % 2 by omega, q]
    try simp
    try omega
end KX
namespace KX
open PySem PySem.Spec PyProof.Rows L2
theorem tm_late {s : Int} {w r : Nat} (h : r < w) : tm s w r = 0 := by
  unfold tm
  rw [if_neg (by omega)]
theorem tm_one (s : Int) (r : Nat) : tm s 1 (r + 1) + tm s 1 r = s := by
  unfold tm
  rcases Nat.mod_two_eq_zero_or_one r with p | p
  · rw [if_pos (by omega), if_neg (by omega)]; omega
  · rw [if_neg (by omega), if_pos (by omega)]; omega
theorem tm_next {W : Nat → Well} {k i n : Nat} {s : Int} {r : Nat} (hk : k + i = n) (hr : (W n).rod = 0 ∨ (W n).rod = 1) : tm s (wy W k (i + 1)) (r + 2) = if (W n).rod = up r then tm s (wy W k i) (r + 1) + tm s (wy W k i) r else 0 := by
  rw [wy_step, hk]
  exact tm_step hr
theorem br_sum {W : Nat → Well} : ∀ (n r : Nat), Rods (n + 1) W → br W r n = sumTo (n + 1) fun k => tm (W k).spr (wy W k (n + 1 - k)) r
  | n, 0, hr => by
    rw [br_0]
    exact (sumTo_zero fun k hk => tm_late (by have := wy_ge W k (n + 1 - k); omega)).symm
  | n, 1, hr => by
    rw [br_1]
    exact (sumTo_zero fun k hk => tm_late (by have := wy_ge W k (n + 1 - k); omega)).symm
  | n, r + 2, hr => by
    have hn := hr n (by omega)
    have hb : ∀ s, brp W s n = sumTo n fun k => tm (W k).spr (wy W k (n - k)) s := by
      intro s
      cases n with
      | zero => rfl
      | succ m => exact br_sum m s fun k hk => hr k (by omega)
    have h1 : ∀ k, k < n → tm (W k).spr (wy W k (n + 1 - k)) (r + 2) = if (W n).rod = up r then tm (W k).spr (wy W k (n - k)) (r + 1) + tm (W k).spr (wy W k (n - k)) r else 0 := fun k hk => by
      rw [show n + 1 - k = (n - k) + 1 by omega]
      exact tm_next (by omega) hn
    have h2 : tm (W n).spr (wy W n (n + 1 - n)) (r + 2) = if (W n).rod = up r then (W n).spr else 0 := by
      rw [show n + 1 - n = 0 + 1 by omega, tm_next (n := n) (i := 0) rfl hn]
      show (if _ then tm _ 1 (r + 1) + tm _ 1 r else 0) = _
      rw [tm_one]
    rw [br_rec]
    show _ = (sumTo n fun k => tm (W k).spr (wy W k (n + 1 - k)) (r + 2)) + tm (W n).spr (wy W n (n + 1 - n)) (r + 2)
    rw [h2, sumTo_congr h1]
    by_cases c : (W n).rod = up r
    · have e3 : (sumTo n fun k => if (W n).rod = up r then tm (W k).spr (wy W k (n - k)) (r + 1) + tm (W k).spr (wy W k (n - k)) r else 0) = sumTo n (fun k => tm (W k).spr (wy W k (n - k)) (r + 1)) + sumTo n fun k => tm (W k).spr (wy W k (n - k)) r :=
        (sumTo_congr fun k _ => by rw [if_pos c]).trans (sumTo_add n)
      rw [if_pos c, if_pos c, hb, hb, e3]
      omega
    · rw [if_neg c, if_neg c, sumTo_zero fun k _ => by rw [if_neg c]]
      rfl
/-- what comes out of an easy run -/
theorem out_sum {n : Nat} {W : Nat → Well} (h1 : 1 ≤ n) (hr : Rods n W) (r : Nat) : out n W r = sumTo n fun k => tm (W k).spr (way n W k) r := by
  obtain ⟨m, rfl⟩ : ∃ m, n = m + 1 := ⟨n - 1, by omega⟩
  exact br_sum m r hr
/-! ## ways -/
def eqW (W : Nat → Well) (k : Nat) : Bool := decide ((W k).rod = 1) && decide ((W (k + 1)).rod = 0)
theorem eqW_iff {W : Nat → Well} {k : Nat} : eqW W k = true ↔ (W k).rod = 1 ∧ (W (k + 1)).rod = 0 := by
  unfold eqW
  rw [Bool.and_eq_true, decide_eq_true_iff, decide_eq_true_iff]
theorem wy_pair {W : Nat → Well} {k : Nat} (h0 : (W k).rod = 0 ∨ (W k).rod = 1) (h1 : (W (k + 1)).rod = 0 ∨ (W (k + 1)).rod = 1) : ∀ i, wy W k (i + 2) = wy W (k + 1) (i + 1) + (if eqW W k = true then 0 else 2)
  | 0 => by
    have e0 : wy W k 0 = 1 := rfl
    have e1 : wy W (k + 1) 0 = 1 := rfl
    have s1 : wy W k 1 = if (W k).rod = (((1 + 1) % 2 : Nat) : Int) then 3 else 2 := wy_step
    have s2 : wy W (k + 1) 1 = if (W (k + 1)).rod = (((1 + 1) % 2 : Nat) : Int) then 3 else 2 := wy_step
    have s3 : wy W k 2 = if (W (k + 1)).rod = (((wy W k 1 + 1) % 2 : Nat) : Int) then wy W k 1 + 2 else wy W k 1 + 1 := wy_step
    unfold eqW
    rcases h0 with h0 | h0 <;> rcases h1 with h1 | h1 <;> rw [h0] at s1 <;> rw [h1] at s2 s3 <;> simp at s1 s2 <;> rw [s1] at s3 <;> simp at s3 <;> rw [s2, h0, h1] <;> simp <;> omega
  | i + 1 => by
    have ih := wy_pair h0 h1 i
    have s3 : wy W k (i + 3) = if (W (k + (i + 2))).rod = (((wy W k (i + 2) + 1) % 2 : Nat) : Int) then wy W k (i + 2) + 2 else wy W k (i + 2) + 1 := wy_step
    have s2 : wy W (k + 1) (i + 2) = if (W (k + 1 + (i + 1))).rod = (((wy W (k + 1) (i + 1) + 1) % 2 : Nat) : Int) then wy W (k + 1) (i + 1) + 2 else wy W (k + 1) (i + 1) + 1 := wy_step
    rw [show k + 1 + (i + 1) = k + (i + 2) by omega] at s2
    have e : (wy W k (i + 2) + 1) % 2 = (wy W (k + 1) (i + 1) + 1) % 2 := by
      rw [ih]
      split <;> omega
    rw [e] at s3
    show wy W k (i + 3) = _
    rw [s3, s2, ih]
    split <;> omega
theorem way_step {n : Nat} {W : Nat → Well} {k : Nat} (hr : Rods n W) (hk : k + 1 < n) : way n W k = way n W (k + 1) + (if eqW W k = true then 0 else 2) := by
  unfold way
  obtain ⟨i, hi⟩ : ∃ i, n - k = i + 2 := ⟨n - k - 2, by omega⟩
  rw [hi, show n - (k + 1) = i + 1 by omega]
  exact wy_pair (hr k (by omega)) (hr (k + 1) hk) i
theorem way_par {n : Nat} {W : Nat → Well} {k : Nat} (hr : Rods n W) (hk : k < n) : way n W k % 2 = way n W (n - 1) % 2 := by
  obtain ⟨d, hd⟩ : ∃ d, n - 1 = k + d := ⟨n - 1 - k, by omega⟩
  rw [hd]
  induction d with
  | zero => rfl
  | succ d ih =>
    by_cases hk2 : k + 1 < n
    · have key : ∀ e, k + e < n → way n W k % 2 = way n W (k + e) % 2 := by
        intro e
        induction e with
        | zero => intro _; rfl
        | succ e ih2 =>
          intro he
          rw [ih2 (by omega), way_step hr (k := k + e) (by omega), show k + e + 1 = k + (e + 1) by omega]
          split <;> omega
      exact key (d + 1) (by omega)
    · omega
theorem way_anti {n : Nat} {W : Nat → Well} {k : Nat} (hr : Rods n W) : ∀ e, k + e < n → way n W (k + e) ≤ way n W k
  | 0, _ => Nat.le_refl _
  | e + 1, h => by
    have h1 := way_anti hr (k := k) e (by omega)
    have h2 := way_step hr (k := k + e) (by omega)
    rw [show k + e + 1 = k + (e + 1) by omega] at h2
    split at h2 <;> omega
theorem way_mono {n : Nat} {W : Nat → Well} {k j : Nat} (hr : Rods n W) (hkj : k ≤ j) (hj : j < n) : way n W j ≤ way n W k := by
  have := way_anti hr (k := k) (j - k) (by omega)
  rw [show k + (j - k) = j by omega] at this
  exact this
theorem way_lt {n : Nat} {W : Nat → Well} {k j : Nat} (hr : Rods n W) (hkj : k < j) (hj : j < n) (he : eqW W k = false) : way n W j < way n W k := by
  have h1 := way_mono hr (k := k + 1) (j := j) (by omega) hj
  have h2 := way_step hr (k := k) (by omega)
  rw [he] at h2
  simp at h2
  omega
theorem eqW_no2 {W : Nat → Well} {k : Nat} (h : eqW W (k + 1) = true) : eqW W k = false := by
  cases e : eqW W k with
  | false => rfl
  | true =>
    have := (eqW_iff.mp h).1
    have := (eqW_iff.mp e).2
    omega
theorem way_ge {n : Nat} {W : Nat → Well} {k : Nat} (hk : k < n) : 2 ≤ way n W k := by
  have := wy_ge W k (n - k)
  unfold way
  omega
theorem way_le {n : Nat} {W : Nat → Well} {k : Nat} : way n W k ≤ 2 * n + 1 := by
  have := wy_le W k (n - k)
  unfold way
  omega
/-! ## lots -/
def lastK (n : Nat) (W : Nat → Well) (k : Nat) : Bool := decide (k + 1 = n) || !eqW W k
def lotK (W : Nat → Well) (k : Nat) : List Int := if 0 < k ∧ eqW W (k - 1) = true then [(k : Int) - 1, k] else [(k : Int)]
def mkL (n : Nat) (W : Nat → Well) (k : Nat) : Int × List Int := (way n W k, lotK W k)
/-- the lots that are whole among the first i -/
def preL (n : Nat) (W : Nat → Well) (i : Nat) : List (Int × List Int) := ((List.range i).filter fun k => !eqW W k).map (mkL n W)
theorem preL_succ (n : Nat) (W : Nat → Well) (i : Nat) : preL n W (i + 1) = if eqW W i = true then preL n W i else preL n W i ++ [mkL n W i] := by
  unfold preL
  rw [List.range_succ, List.filter_append, List.map_append]
  cases e : eqW W i <;> simp [e]
theorem preL_key {n : Nat} {W : Nat → Well} (hr : Rods n W) {i : Nat} (hi : i < n) : ∀ q ∈ preL n W i, ((way n W i : Nat) : Int) < q.1 := by
  intro q hq
  obtain ⟨k, hk, rfl⟩ := List.mem_map.mp hq
  obtain ⟨h1, h2⟩ := List.mem_filter.mp hk
  have h3 := List.mem_range.mp h1
  have := way_lt hr h3 hi (by simpa using h2)
  show _ < ((way n W k : Nat) : Int)
  omega
theorem valD_app {β : Type} {a b : List (Int × β)} {k : Int} (h : ∀ q ∈ a, q.1 ≠ k) : valD (a ++ b) k = valD b k := by
  unfold valD
  rw [List.find?_append, List.find?_eq_none.mpr (fun q hq => by simpa using h q hq)]
  rfl
theorem putD_app {β : Type} {a b : List (Int × β)} {k : Int} {v : β} (h : ∀ q ∈ a, q.1 ≠ k) : putD (a ++ b) k v = a ++ putD b k v := by
  have e : (a.any fun kv => decide (kv.1 = k)) = false := by
    rw [List.any_eq_false]
    intro q hq
    simpa using h q hq
  unfold putD
  rw [List.any_append, e, Bool.false_or]
  split
  · rw [List.map_append]
    congr 1
    have : a.map (fun kv => if kv.1 = k then (kv.1, v) else kv) = a.map id := List.map_congr_left fun q hq => by rw [if_neg (h q hq)]; rfl
    rw [this, List.map_id]
  · rw [List.append_assoc]
theorem lotsT_eq {n : Nat} {W : Nat → Well} (hr : Rods n W) : ∀ i, i < n → lotsT n W (i + 1) = preL n W i ++ [mkL n W i]
  | 0, h => rfl
  | i + 1, h => by
    have ih := lotsT_eq hr i (by omega)
    have hk := preL_key hr (i := i) (by omega)
    have hw := way_step hr (k := i) (by omega)
    have e : lotsT n W (i + 2) = putD (lotsT n W (i + 1)) (way n W (i + 1)) (((valD (lotsT n W (i + 1)) (way n W (i + 1))).getD []) ++ [((i + 1 : Nat) : Int)]) := rfl
    rw [e, ih, preL_succ]
    cases he : eqW W i with
    | true =>
      rw [he, if_pos rfl] at hw
      have hno : eqW W (i - 1) = true → ¬ 0 < i := fun q h0 => by
        have := eqW_no2 (W := W) (k := i - 1) (by rw [show i - 1 + 1 = i by omega]; exact he)
        rw [this] at q; cases q
      have h1 : ∀ q ∈ preL n W i, q.1 ≠ ((way n W (i + 1) : Nat) : Int) := fun q hq => by
        have := hk q hq
        omega
      have ew : ((way n W (i + 1) : Nat) : Int) = ((way n W i : Nat) : Int) := by omega
      rw [if_pos rfl, valD_app h1, putD_app h1, ew]
      congr 1
      unfold mkL lotK
      rw [if_neg (fun q => hno q.2 q.1), if_pos ⟨by omega, by rw [show i + 1 - 1 = i by omega]; exact he⟩]
      simp [valD, putD]
      omega
    | false =>
      rw [he] at hw
      simp at hw
      have h1 : ∀ q ∈ preL n W i ++ [mkL n W i], q.1 ≠ ((way n W (i + 1) : Nat) : Int) := fun q hq => by
        rcases List.mem_append.mp hq with hq | hq
        · have := hk q hq
          omega
        · rw [List.mem_singleton.mp hq]
          show ((way n W i : Nat) : Int) ≠ _
          omega
      have e1 : valD (preL n W i ++ [mkL n W i]) ((way n W (i + 1) : Nat) : Int) = none := by
        have := valD_app (b := []) h1
        rw [List.append_nil] at this
        rw [this]; rfl
      have e2 : ∀ v, putD (preL n W i ++ [mkL n W i]) ((way n W (i + 1) : Nat) : Int) v = (preL n W i ++ [mkL n W i]) ++ [(((way n W (i + 1) : Nat) : Int), v)] := fun v => by
        have := putD_app (b := []) (v := v) h1
        rw [List.append_nil] at this
        rw [this]; rfl
      rw [e1, e2]
      simp
      unfold mkL lotK
      rw [if_neg (fun q => by have := q.2; rw [show i + 1 - 1 = i by omega, he] at this; cases this)]
      simp
/-- the lots, soonest first: by the place j from the end -/
def upL (n : Nat) (W : Nat → Well) : List (Int × List Int) := ((List.range n).filter fun j => lastK n W (n - 1 - j)).map fun j => mkL n W (n - 1 - j)
theorem range_rev (n : Nat) : (List.range n).reverse = (List.range n).map fun j => n - 1 - j := by
  apply List.ext_getElem?
  intro j
  by_cases h : j < n
  · rw [List.getElem?_reverse (by simpa using h), List.length_range, List.getElem?_range (by omega), List.getElem?_map, List.getElem?_range h]
    rfl
  · rw [List.getElem?_eq_none (by simp; omega), List.getElem?_eq_none (by simp; omega)]
theorem upL_eq {n : Nat} {W : Nat → Well} (h1 : 1 ≤ n) : upL n W = (preL n W (n - 1) ++ [mkL n W (n - 1)]).reverse := by
  have e : (preL n W (n - 1) ++ [mkL n W (n - 1)]) = ((List.range n).filter (lastK n W)).map (mkL n W) := by
    obtain ⟨m, rfl⟩ : ∃ m, n = m + 1 := ⟨n - 1, by omega⟩
    show preL (m + 1) W m ++ [mkL (m + 1) W m] = _
    rw [List.range_succ, List.filter_append, List.map_append]
    have e1 : (List.range m).filter (lastK (m + 1) W) = (List.range m).filter fun k => !eqW W k := List.filter_congr fun k hk => by
      have := List.mem_range.mp hk
      unfold lastK
      rw [decide_eq_false (by omega), Bool.false_or]
    have e2 : [m].filter (lastK (m + 1) W) = [m] := by
      simp [lastK]
    rw [e1, e2]
    rfl
  rw [e, ← List.map_reverse, ← List.filter_reverse, range_rev, List.filter_map, List.map_map]
  rfl
theorem preL_pw {n : Nat} {W : Nat → Well} (hr : Rods n W) : ∀ i, i < n → (preL n W i ++ [mkL n W i]).Pairwise fun a b => b.1 < a.1
  | 0, _ => List.pairwise_singleton _ _
  | i + 1, h => by
    have ih := preL_pw hr i (by omega)
    have hk := preL_key hr (i := i + 1) h
    refine List.pairwise_append.mpr ⟨?_, List.pairwise_singleton _ _, fun a ha b hb => ?_⟩
    · rw [preL_succ]
      split
      · exact (List.pairwise_append.mp ih).1
      · exact ih
    · rw [List.mem_singleton.mp hb]
      exact hk a ha
theorem upL_up {n : Nat} {W : Nat → Well} (h1 : 1 ≤ n) (hr : Rods n W) : (upL n W).Pairwise fun a b => a.1 < b.1 := by
  rw [upL_eq h1, List.pairwise_reverse]
  exact preL_pw hr (n - 1) (by omega)
theorem upL_perm {n : Nat} {W : Nat → Well} (h1 : 1 ≤ n) (hr : Rods n W) : (upL n W).Perm (lotsT n W n) := by
  rw [upL_eq h1]
  have := lotsT_eq hr (n - 1) (by omega)
  rw [show n - 1 + 1 = n by omega] at this
  rw [this]
  exact List.reverse_perm _
end KX
namespace KX
open PySem PySem.Spec PyProof.Rows L2
/-! ## a loop over what a filter left -/
def nthF (t : Nat → Bool) (n i : Nat) : Nat := ((List.range n).filter t).getD i n
theorem nthF_in {t : Nat → Bool} {n i : Nat} (h : i < ((List.range n).filter t).length) : ((List.range n).filter t)[i]? = some (nthF t n i) ∧ nthF t n i < n ∧ t (nthF t n i) = true := by
  have e : ((List.range n).filter t)[i]? = some (nthF t n i) := by
    unfold nthF
    rw [List.getD_eq_getElem?_getD, List.getElem?_eq_getElem h]
    rfl
  have m := List.mem_filter.mp (List.mem_of_getElem? e)
  exact ⟨e, List.mem_range.mp m.1, m.2⟩
theorem nthF_end {t : Nat → Bool} {n : Nat} : nthF t n ((List.range n).filter t).length = n := by
  unfold nthF
  rw [List.getD_eq_getElem?_getD, List.getElem?_eq_none (Nat.le_refl _)]
  rfl
theorem fil_pw (t : Nat → Bool) (n : Nat) : ((List.range n).filter t).Pairwise (· < ·) := (List.pairwise_lt_range (n := n)).filter t
theorem fil_lt {t : Nat → Bool} {n i j a b : Nat} (ha : ((List.range n).filter t)[i]? = some a) (hb : ((List.range n).filter t)[j]? = some b) (h : i < j) : a < b := by
  obtain ⟨h1, e1⟩ := List.getElem?_eq_some_iff.mp ha
  obtain ⟨h2, e2⟩ := List.getElem?_eq_some_iff.mp hb
  have := List.pairwise_iff_getElem.mp (fil_pw t n) i j h1 h2 h
  rw [e1, e2] at this
  exact this
theorem skip_to {α : Type} {I : Nat → α} {t : Nat → Bool} {n : Nat} (hs : ∀ j, j < n → t j = false → I (j + 1) = I j) {a : Nat} : ∀ d, a + d ≤ n → (∀ j, a ≤ j → j < a + d → t j = false) → I (a + d) = I a
  | 0, _, _ => rfl
  | d + 1, h, hj => by
    have := skip_to hs (a := a) d (by omega) fun j h1 h2 => hj j h1 (by omega)
    rw [← this]
    exact hs (a + d) (by omega) (hj _ (by omega) (by omega))
theorem skip_0 {α : Type} {I : Nat → α} {t : Nat → Bool} {n : Nat} (hs : ∀ j, j < n → t j = false → I (j + 1) = I j) : I (nthF t n 0) = I 0 := by
  have hle : nthF t n 0 ≤ n := by
    by_cases h : 0 < ((List.range n).filter t).length
    · exact Nat.le_of_lt (nthF_in h).2.1
    · have := @nthF_end t n
      rw [show ((List.range n).filter t).length = 0 by omega] at this
      omega
  have := skip_to hs (a := 0) (nthF t n 0) (by omega) fun j _ hj => by
    cases e : t j with
    | false => rfl
    | true =>
      obtain ⟨m, hm⟩ := List.mem_iff_getElem?.mp (List.mem_filter.mpr ⟨List.mem_range.mpr (show j < n by omega), e⟩)
      have hl : 0 < ((List.range n).filter t).length := Nat.lt_of_le_of_lt (Nat.zero_le m) (List.getElem?_eq_some_iff.mp hm).1
      have h0 := (nthF_in hl).1
      by_cases hm0 : m = 0
      · subst hm0
        rw [h0] at hm
        cases hm
        omega
      · have := fil_lt h0 hm (by omega)
        omega
  rw [Nat.zero_add] at this
  exact this
theorem skip_s {α : Type} {I : Nat → α} {t : Nat → Bool} {n i : Nat} (hs : ∀ j, j < n → t j = false → I (j + 1) = I j) (hi : i < ((List.range n).filter t).length) : I (nthF t n (i + 1)) = I (nthF t n i + 1) := by
  obtain ⟨e1, l1, t1⟩ := nthF_in hi
  have hle : nthF t n i < nthF t n (i + 1) ∧ nthF t n (i + 1) ≤ n := by
    by_cases h : i + 1 < ((List.range n).filter t).length
    · exact ⟨fil_lt e1 (nthF_in h).1 (by omega), Nat.le_of_lt (nthF_in h).2.1⟩
    · have := @nthF_end t n
      rw [show ((List.range n).filter t).length = i + 1 by omega] at this
      omega
  have := skip_to hs (a := nthF t n i + 1) (nthF t n (i + 1) - (nthF t n i + 1)) (by omega) fun j h1 h2 => by
    cases e : t j with
    | false => rfl
    | true =>
      obtain ⟨m, hm⟩ := List.mem_iff_getElem?.mp (List.mem_filter.mpr ⟨List.mem_range.mpr (show j < n by omega), e⟩)
      have hml := (List.getElem?_eq_some_iff.mp hm).1
      rcases Nat.lt_trichotomy m i with h | h | h
      · have := fil_lt hm e1 h; omega
      · subst h
        rw [e1] at hm
        cases hm
        omega
      · rcases Nat.lt_or_ge (i + 1) m with h3 | h3
        · have h4 := (nthF_in (t := t) (n := n) (i := i + 1) (by omega)).1
          have := fil_lt h4 hm h3
          omega
        · have h4 : m = i + 1 := by omega
          subst h4
          have := (nthF_in (t := t) (n := n) (i := i + 1) hml).1
          rw [hm] at this
          cases this
          omega
  rw [show nthF t n i + 1 + (nthF t n (i + 1) - (nthF t n i + 1)) = nthF t n (i + 1) by omega] at this
  exact this
section
variable {X : Cx} {B : Hp} {M M' : Ms} {L L' L2' : Ls} {a b c e : Expr} {es : List Expr} {d da db dc d1 d2 d3 : PyData} {ds : List PyData} {pos spos : Pos} {p q : Bool} {rest body orelse : List Stmt} {D : Ends} {tg it elt : Expr}
theorem ei_congr {n : Nat} {Y Y' : Nat → PyData} (h : EI X B M L tg it n Y) (k : ∀ i, i < n → Y i = Y' i) : EI X B M L tg it n Y' :=
  pi_imp h fun σ H R ⟨S, q⟩ => ⟨S, fun J H1 s1 hW => q J H1 s1 fun O hO => by
    obtain ⟨G, g1, W⟩ := hW O hO
    refine ⟨G, g1, W.goes, W.stops, fun i Hh v H' hi g y => ?_⟩
    obtain ⟨a, b⟩ := W.yields i Hh v H' hi g y
    exact ⟨a, by rw [← k i hi]; exact b⟩⟩
/-- for x, y in a list that a filter left -/
theorem tr_forD {n : Nat} {t : Nat → Bool} {Y1 Y2 : Nat → PyData} {x y : Str} {px py tpos : Pos} {kk : Nat} (i0 j0 : Nat) (Mi : Nat → Ms) (Li : Nat → Ls) (hN : X.N.Nodup) (hp : PassesOwn (model X.prog X.w) X.A X.env X.xe) (hc : X.calm = true)
    (hi : EI X B M L (.Tuple [.Name x px, .Name y py] kk tpos) it (done t (fun j => .tuple [Y1 j, Y2 j]) n).length (yAt (done t (fun j => .tuple [Y1 j, Y2 j]) n)))
    (h0 : LeL (Li 0) L) (hM0 : M = Mi 0) (had : ∀ i, adr (Mi i) = adr M) (hsk : ∀ j, j < n → t j = false → (Mi (j + 1), Li (j + 1)) = (Mi j, Li j))
    (hb : ∀ B1, Same B B1 → ∀ j, j < n → t j = true → Tr X (Sta X.K B1 (Mi j) (((Li j).set i0 (some (.d (Y1 j)))).set j0 (some (.d (Y2 j))))) body { nx := fun σ H => Sta X.K B1 (Mi (j + 1)) (Li (j + 1)) σ H, rt := D.rt })
    (hr : Tr X (Sta X.K B (Mi n) (Li n)) rest D) (hx1 : X.N[i0]? = some x := by rfl) (hx : Loc X.env.scope x := by first | exact Or.inl rfl | exact Or.inr rfl) (hf : X.fn x = true ∨ X.env.scope.names.lookup x = some .local := by first | exact .inl rfl | exact .inr rfl)
    (hy1 : X.N[j0]? = some y := by rfl) (hy : Loc X.env.scope y := by first | exact Or.inl rfl | exact Or.inr rfl) (hfy : X.fn y = true ∨ X.env.scope.names.lookup y = some .local := by first | exact .inl rfl | exact .inr rfl)
    (ha1 : (assignEach [.Name x px, .Name y py] X.env).map (·.2) = assign (.Name x px) X.env :: (assignEach [.Name y py] X.env).map (·.2) := by rfl) (ha2 : (assignEach [.Name y py] X.env).map (·.2) = assign (.Name y py) X.env :: (assignEach [] X.env).map (·.2) := by rfl)
    (hn : (assignEach [.Name x px, .Name y py] X.env).length = 2 := by rfl) (hst : (assignEach [.Name x px, .Name y py] X.env).findIdx? (·.1) = none := by rfl)
    (hs : ∀ x, foldedSetIterable it X.env x = pure x := by intro _; rfl) : Tr X (Sta X.K B M L) (.For (.Tuple [.Name x px, .Name y py] kk tpos) it body [] pos :: rest) D := by
  have hlen : (done t (fun j => PyData.tuple [Y1 j, Y2 j]) n).length = ((List.range n).filter t).length := List.length_map _
  have z0 := skip_0 (I := fun j => (Mi j, Li j)) hsk
  have zs := fun (i : Nat) (hi : i < ((List.range n).filter t).length) => skip_s (I := fun j => (Mi j, Li j)) hsk hi
  refine tr_forP (Y1 := fun i => Y1 (nthF t n i)) (Y2 := fun i => Y2 (nthF t n i)) i0 j0 (fun i => Mi (nthF t n i)) (fun i => Li (nthF t n i)) (fun _ => True) hN hp hc (ei_congr hi fun i hi' => ?_) ?_ ?_ trivial (fun i => had _) (fun B1 hB i hi' _ => ?_) (fun _ => ?_) hx1 hx hf hy1 hy hfy ha1 ha2 hn hst hs
  · rw [hlen] at hi'
    refine yAt_of ?_
    unfold done
    rw [List.getElem?_map, (nthF_in hi').1]
    rfl
  · have := congrArg Prod.snd z0
    dsimp only at this ⊢
    rw [this]; exact h0
  · have := congrArg Prod.fst z0
    dsimp only at this ⊢
    rw [this]; exact hM0
  · rw [hlen] at hi'
    have k := zs i hi'
    have k1 := congrArg Prod.fst k
    have k2 := congrArg Prod.snd k
    dsimp only at k1 k2 ⊢
    rw [k1, k2]
    obtain ⟨e1, l1, t1⟩ := nthF_in hi'
    have := hb B1 hB (nthF t n i) l1 t1
    have e : (fun σ H => True ∧ Sta X.K B1 (Mi (nthF t n i + 1)) (Li (nthF t n i + 1)) σ H) = fun σ H => Sta X.K B1 (Mi (nthF t n i + 1)) (Li (nthF t n i + 1)) σ H := by
      funext σ H
      exact propext ⟨fun h => h.2, fun h => ⟨trivial, h⟩⟩
    rw [e]
    exact this
  · rw [hlen, nthF_end]
    exact hr
end
/-! ## a def that may raise X() -/
/-- a def's promise, by data: it hands back d, or raises C() -/
def spX (K : PySem.W.Frag) (C : Addr) (R : List PyData → Option PyData → Prop) : Sp := fun vs H Q E => ∃ O ds r, (∀ b ∈ O, ∃ u, H b = some u) ∧ O.Nodup ∧ R ds r ∧ DpAll K (msk O H) vs ds ∧
  (∀ d, r = some d → ∀ v H', Same H H' → Dp K (msk O H') v d → Q v H') ∧ (r = none → ∀ H', Same H H' → E (.ref C) none H')
structure Rx (K : PySem.W.Frag) (B : Hp) (M0 : Ms) (E : XK) (C : Addr) : Prop where
  x : ∀ H M L σ, (∀ q ∈ M0, q ∈ M) → Sta K B M L σ H → E (.ref C) none H
section
variable {P : Program} {w : World} {K : PySem.W.Frag} {mg : Str → Option Value} {base : Heap}
theorem fn_exc {x qual : Str} {st : Stmt} {f C : Addr} {fd : FuncData} {N ps : List Str} {k : Nat} {R : List PyData → Option PyData → Prop} (F : Fun K x qual st f fd) (S : FnScope N ps (defScope st)) (hl : ∀ ds r, R ds r → ds.length = ps.length)
    (hbody : ∀ (cdv : Value) (A : Around) (outer : List Env) (s : Shared) (H : Hp) (E : XK), Room k (A.deeper (envOfC qual (defScope st) s.heap.objs.size f cdv)) → ∀ (B : Hp) (M0 : Ms) (D : Ends) (ds : List PyData) (r : Option PyData), R ds r → (∀ d, r = some d → Rt K B M0 D d) → (r = none → Rx K B M0 E C) →
      Tr (cxOf (L2.CX P w) P w K mg base N qual (defScope st) f cdv A outer s H E) (Sta K B M0 (startL N ds)) (defBody st) D) : FnOk P w K mg base (L2.CX P w) (k + 1) f fd ps (spX K C R) := by
  refine F.okX S (fun vs H Q E h => ?_) (fun cdv A outer s H vs Q E hr h => ?_)
  · obtain ⟨O, ds, d, _, _, hR, hd, _⟩ := h
    rw [dpa_len hd]
    exact hl ds d hR
  · obtain ⟨O, ds, r, hO, nd, hR, hd, kq, kx⟩ := h
    have ad : adr (O.map fun b => (b, Ct.x ((H b).getD (.lst [])))) = O := by
      unfold adr
      rw [List.map_map]
      exact List.map_id O
    refine ⟨_, hbody cdv A outer s H E hr (msk O H) (O.map fun b => (b, Ct.x ((H b).getD (.lst [])))) { nx := fun _ H' => Q .non H', rt := Q } ds r hR (fun d e => ⟨fun v H' M L σ hs S' g => ?_⟩) (fun e => ⟨fun H' M L σ hs S' => kx e H' (same_end hs S')⟩), sta_start hO nd hd, Le.refl _⟩
    rw [ad] at g
    exact kq d e v H' (same_end hs S') g
end
section
variable {X : Cx} {B : Hp} {M M' : Ms} {L : Ls} {pos spos : Pos} {rest : List Stmt} {D : Ends}
/-- raise X() -/
theorem tr_raise0 {C : Addr} {bmB : List Value} {Bn newId initId : String} {x : Str} {px : Pos} {W : WX} (hc : X.calm = true) (tk : Takes X W) (F : ExcBaseFacts Bn newId initId bmB) (q : PySem.W.excIn X.K C bmB newId = true) (gC : X.mg x = some (.ref C))
    (kC : PySem.W.keepIn X.K (.ref C) = true) (r : Raises X (.ref C)) (hW : ∀ σ H, Sta X.K B M L σ H → W (.ref C) none σ H) (hg : Gl X x := by rfl) (hdb : (x == ("__debug__" : Str)) = false := by decide) :
    Tr X (Sta X.K B M L) (.Raise (some (.Call (.Name x px) [] [] pos)) none spos :: rest) D :=
  tr_cons (Mid := fun _ _ => False) (ps_raise hc tk (pmk_own0 F q gC kC r hg hdb)) tr_false fun σ H nx S k => hW σ H S
end
end KX
namespace KX
open PySem PySem.Spec PyProof.Rows L2
/-! ## what a row tells -/
theorem way_rods {n : Nat} {W W' : Nat → Well} (h : ∀ k, (W k).rod = (W' k).rod) (k : Nat) : way n W k = way n W' k := by
  have key : ∀ i, wy W k i = wy W' k i := by
    intro i
    induction i with
    | zero => rfl
    | succ i ih => rw [wy_step, wy_step, ih, h]
  exact key _
theorem way_sp {n : Nat} {W : Nat → Well} {s : Nat → Int} (k : Nat) : way n (wSp W s) k = way n W k := way_rods (W := wSp W s) (W' := W) (fun _ => rfl) k
theorem rods_sp {n : Nat} {W : Nat → Well} {s : Nat → Int} (h : Rods n W) : Rods n (wSp W s) := fun k hk => h k hk
def dl (n : Nat) (W : Nat → Well) (ln : Nat → Int) (k : Nat) : Int := ln (way n W k) - (if k + 1 = n then 0 else ln (way n W (k + 1)))
theorem dl_no {n : Nat} {W : Nat → Well} {ln : Nat → Int} {k : Nat} (hr : Rods n W) (hk : k < n) (h : lastK n W k = false) : dl n W ln k = 0 ∧ k + 1 < n ∧ way n W k = way n W (k + 1) := by
  unfold lastK at h
  rw [Bool.or_eq_false_iff] at h
  have h1 := of_decide_eq_false h.1
  have h2 : eqW W k = true := by simpa using h.2
  have h3 := way_step hr (k := k) (by omega)
  rw [h2, if_pos rfl] at h3
  refine ⟨?_, by omega, by omega⟩
  unfold dl
  rw [if_neg h1, h3, Nat.add_zero]
  omega
def lastJ (n : Nat) (W : Nat → Well) (j : Nat) : Bool := lastK n W (n - 1 - j)
def bef (n : Nat) (W : Nat → Well) (ln : Nat → Int) (j : Nat) : Int := if j = 0 then 0 else ln (way n W (n - j))
theorem bef_no {n : Nat} {W : Nat → Well} {ln : Nat → Int} {j : Nat} (hr : Rods n W) (hj : j < n) (h : lastJ n W j = false) : bef n W ln (j + 1) = bef n W ln j := by
  obtain ⟨h1, h2, h3⟩ := dl_no (ln := ln) hr (k := n - 1 - j) (by omega) h
  unfold bef
  rw [if_neg (by omega), if_neg (by omega), show n - (j + 1) = n - 1 - j by omega, h3, show n - 1 - j + 1 = n - j by omega]
theorem dl_bef {n : Nat} {W : Nat → Well} {ln : Nat → Int} {j : Nat} (hj : j < n) : dl n W ln (n - 1 - j) = ln (way n W (n - 1 - j)) - bef n W ln j := by
  unfold dl bef
  by_cases h : j = 0
  · rw [if_pos (by omega), if_pos h]
  · rw [if_neg (by omega), if_neg h, show n - 1 - j + 1 = n - j by omega]
def spJ (n : Nat) (W : Nat → Well) (g : Nat → Int) (j k : Nat) : Int := if n - j ≤ k then g k else 0
theorem spJ_no {n : Nat} {W : Nat → Well} {g : Nat → Int} {j : Nat} (hj : j < n) (h : g (n - 1 - j) = 0) : vI n (spJ n W g (j + 1)) = vI n (spJ n W g j) := vI_congr fun k _ => by
  unfold spJ
  by_cases c : n - j ≤ k
  · rw [if_pos (by omega), if_pos c]
  · rw [if_neg c]
    by_cases c2 : k = n - 1 - j
    · rw [if_pos (by omega), c2, h]
    · rw [if_neg (by omega)]
theorem spJ_s {n : Nat} {W : Nat → Well} {g : Nat → Int} {j : Nat} (hj : j < n) : (vI n (spJ n W g j)).set (n - 1 - j) (.int (g (n - 1 - j))) = vI n (spJ n W g (j + 1)) := by
  rw [vI_set (by omega)]
  refine vI_congr fun k _ => ?_
  unfold spJ
  by_cases c2 : k = n - 1 - j
  · rw [if_pos c2, if_pos (by omega), c2]
  · rw [if_neg c2]
    by_cases c : n - j ≤ k
    · rw [if_pos c, if_pos (by omega)]
    · rw [if_neg c, if_neg (by omega)]
theorem spJ_n {n : Nat} {W : Nat → Well} {g : Nat → Int} : vI n (spJ n W g n) = vI n g := vI_congr fun k _ => by
  unfold spJ
  rw [if_pos (by omega)]
def yW (n : Nat) (W : Nat → Well) (j : Nat) : PyData := .int (way n W (n - 1 - j))
def yL (n : Nat) (W : Nat → Well) (j : Nat) : PyData := tI2 (lotK W (n - 1 - j))
def lotsD (n : Nat) (W : Nat → Well) : List PyData := done (lastJ n W) (fun j => .tuple [yW n W j, yL n W j]) n
theorem lotsD_eq (n : Nat) (W : Nat → Well) : (upL n W).map encI = lotsD n W := by
  unfold upL lotsD done
  rw [List.map_map]
  rfl
def fF (n : Nat) (W : Nat → Well) (g : Nat → Int) (j : Nat) : PyData := .tuple [yL n W j, .int (g (n - 1 - j))]
def foundD (n : Nat) (W : Nat → Well) (g : Nat → Int) (j : Nat) : List PyData := done (lastJ n W) (fF n W g) j
theorem lot_last (W : Nat → Well) (k : Nat) : atI ((lotK W k).map PyData.int) (-1) = some (.int k) := by
  refine ix_last ?_
  unfold lotK
  split <;> rfl
theorem lotK_len (W : Nat → Well) (k : Nat) : (lotK W k).length ≤ 2 := by
  unfold lotK
  split <;> simp
theorem lastJ_0 {n : Nat} {W : Nat → Well} (h1 : 1 ≤ n) : lastJ n W 0 = true := by
  unfold lastJ lastK
  rw [decide_eq_true (by omega), Bool.true_or]
theorem lots_last {n : Nat} {W : Nat → Well} (h1 : 1 ≤ n) (hr : Rods n W) : ∃ d, atI (lotsD n W) (-1) = some (.tuple [.int (way n W 0), d]) := by
  have hpos : 0 < ((List.range n).filter (lastJ n W)).length := by
    have : 0 ∈ (List.range n).filter (lastJ n W) := List.mem_filter.mpr ⟨List.mem_range.mpr (by omega), lastJ_0 h1⟩
    exact List.length_pos_of_mem this
  generalize hm : ((List.range n).filter (lastJ n W)).length = m at hpos
  have hl : m - 1 < ((List.range n).filter (lastJ n W)).length := by omega
  obtain ⟨e1, l1, t1⟩ := nthF_in hl
  have z := skip_s (I := fun j => bef n W (fun r => (r : Int)) j) (fun j hj h => bef_no hr hj h) hl
  have e2 := @nthF_end (lastJ n W) n
  rw [hm] at e2
  rw [show m - 1 + 1 = m by omega, e2] at z
  unfold bef at z
  rw [if_neg (by omega), if_neg (by omega), show n - n = 0 by omega, show n - (nthF (lastJ n W) n (m - 1) + 1) = n - 1 - nthF (lastJ n W) n (m - 1) by omega] at z
  refine ⟨yL n W (nthF (lastJ n W) n (m - 1)), ix_last ?_⟩
  dsimp only at z
  unfold lotsD done
  rw [List.length_map, hm, List.getElem?_map, e1, Option.map_some]
  unfold yW
  rw [z]
theorem eqv_ints {m : Nat} {f g : Nat → Int} : PyData.eqv (.tuple (vI m f)) (.tuple (vI m g)) = true ↔ ∀ r, r < m → f r = g r := by
  have key : ∀ (xs ys : List Int), PyData.eqvAll (xs.map .int) (ys.map .int) = decide (xs = ys) := by
    intro xs
    induction xs with
    | nil => intro ys; cases ys <;> simp [PyData.eqvAll]
    | cons x xs ih =>
      intro ys
      cases ys with
      | nil => simp [PyData.eqvAll]
      | cons y ys =>
        rw [List.map_cons, List.map_cons, PySem.W.eqv_all_cons, ih ys]
        show (decide (x = y) && decide (xs = ys)) = _
        by_cases h1 : x = y <;> by_cases h2 : xs = ys <;> simp [h1, h2]
  rw [vI_map, vI_map]
  show PyData.eqvAll _ _ = true ↔ _
  rw [key, decide_eq_true_iff]
  constructor
  · intro h r hr
    have := congrArg (fun l => l[r]?) h
    simpa [hr] using this
  · intro h
    exact List.map_congr_left fun r hr => h r (List.mem_range.mp hr)
theorem shaped_ints (ns : List Int) : SeqAt.shaped (.tuple (ns.map .int)) = true := by
  have h1 : PyData.canLayAll0 (ns.map .int) = true := by
    induction ns with
    | nil => rfl
    | cons n ns ih => simpa [PyData.canLayAll0, PyData.canLay0] using ih
  have h2 : (PyData.tuple (ns.map .int)).depth ≤ 64 := by
    simp [PyData.depth, PySem.W.depth_ints]
  unfold SeqAt.shaped
  rw [decide_eq_true h2, Bool.and_true]
  simpa [PyData.canLay0] using h1
theorem dep_ws {n : Nat} {W : Nat → Well} (hn : n ≤ 900) : Dep 2 (wsD n W) ∧ tupN 2 (wsD n W) = wsD n W := by
  refine ⟨⟨by rw [vec_len]; exact hn, fun x hx => ?_⟩, ?_⟩
  · obtain ⟨k, _, rfl⟩ := List.mem_map.mp hx
    refine ⟨by simp, fun y hy => ?_⟩
    simp at hy
    rcases hy with rfl | rfl | rfl | rfl | rfl <;> trivial
  · show PyData.tuple ((vec n fun k => wD (W k)).map (tupN 1)) = _
    rw [vec_map]
    rfl
def sumsOk (n : Nat) (W : Nat → Well) (ln : Nat → Int) (m : Nat) : Prop := (∀ k, k < n → 0 ≤ dl n W ln k) ∧ easyB n (wSp W (dl n W ln)) = true ∧ ∀ r, r < m → out n (wSp W (dl n W ln)) r = ln r
structure UF (K : PySem.W.Frag) (mg : Str → Option Value) (C : Addr) : Prop where
  g : mg "Unfit" = some (.ref C)
  k : PySem.W.keepIn K (.ref C) = true
  q : PySem.W.excIn K C [.type "ValueError", .type "Exception", .type "BaseException", .type "object"] "ValueError.__new__" = true
  b : PySem.W.subIn K (.ref C) (.type "BaseException") = some true
  t : PySem.W.typeIn K (.ref C) = some (.type "type")
  m : PySem.W.exmOne K (.ref C) (.ref C) = some true
section
variable {P : Program} {w : World} {K : PySem.W.Frag} {mg : Str → Option Value} {base : Heap}
/-! ## sums_told -/
def rSums (ds : List PyData) (r : Option PyData) : Prop := ∃ (x row : PyData) (n : Nat) (W : Nat → Well) (m : Nat) (ln : Nat → Int), ds = [x, row] ∧ Dep 2 x ∧ tupN 2 x = wsD n W ∧ 1 ≤ n ∧ n ≤ 900 ∧ Rods n W ∧ (row = .tuple (vI m ln) ∨ row = .list (vI m ln)) ∧ m ≤ 900 ∧
  ((m ≤ way n W 0 ∨ ¬ sumsOk n W ln m) ∧ r = none ∨ way n W 0 < m ∧ sumsOk n W ln m ∧ r = some (.list (foundD n W (dl n W ln) n)))
abbrev nSums : List Str := ["waters", "row", "own", "told", "before", "lots", "found", "springs", "way", "lot", "made"]
theorem scSums : FnScope nSums ["waters", "row"] (defScope sSums) := ⟨rfl, rfl, rfl, by decide +kernel, rfl, by decide +kernel, by decide +kernel⟩
theorem ok_sums {f C : Addr} {fd : FuncData} (F : Fun K "sums_told" "sums_told" sSums f fd) (T : Txt mg) (U : UF K mg C) (D1 : Df P w K mg base CX0 3 "tuple_of" ["thing"] (spD K (rTup 2))) (D2 : Df P w K mg base CX0 3 "lots_by_way" ["waters"] (spD K rLots))
    (D3 : Df P w K mg base CX0 4 "with_springs" ["waters", "springs"] (spD K rWith)) (D4 : Df P w K mg base CX0 1 "is_easy" ["waters"] (spD K rEasy)) (D5 : Df P w K mg base CX0 5 "leaky_row" ["waters", "leak", "many"] (spD K rLRow)) :
    FnOk P w K mg base (L2.CX P w) 6 f fd ["waters", "row"] (spX K C rSums) := by
  refine fn_exc F scSums (fun ds d h => by obtain ⟨x, row, n, W, m, ln, rfl, _⟩ := h; rfl) fun cdv A outer s H E hr B M0 D ds res hR R Rx => ?_
  obtain ⟨x, row, n, W, m, ln, rfl, hx, ex, h1, hn, hrod, hrow, hm, hres⟩ := hR
  have hw0 : ∀ k, k < n → way n W k ≤ way n W 0 := fun k hk => way_mono hrod (Nat.zero_le k) hk
  refine tr_ddd (da := wsD n W) (db := .tuple (vI m ln)) (dc := .int 0) 2 3 4 rfl scSums.nd (ed_call D1 (hr.mono (by decide)) ⟨x, rfl, hx, ex.symm⟩ (ea_cons (ed_name 0 rfl) ea_nil)) ?_ ed_int ?_
  · rcases hrow with rfl | rfl
    · exact ed_tupT T.tuple (ea_cons (ed_name 1 rfl) ea_nil)
    · exact ed_tupL T.tuple (ea_cons (ed_name 1 rfl) ea_nil)
  refine tr_doo (da := .list (lotsD n W)) (ct := .l []) (ct2 := .l (vI n fun _ => 0)) 5 6 7 rfl scSums.nd (ed_to (ed_call D2 (hr.mono (by decide)) ⟨n, W, upL n W, rfl, hn, upL_perm h1 hrod, upL_up h1 hrod, rfl⟩ (ea_cons (ed_name 2 rfl) ea_nil)) (by rw [lotsD_eq])) (ef_lst ea_nil) (fun p => ?_) fun p p2 => ?_
  · have e : List.replicate (((vec n fun k => wD (W k)).length : Nat) : Int).toNat (PyData.int 0) = vI n fun _ => 0 := by
      rw [vec_len, Int.toNat_natCast]
      exact rep_vec n _
    rw [← e]
    exact ef_rep (by omega) (by rw [vec_len]; omega) (ea_cons ed_int ea_nil) (ed_lenT T.len (ea_cons (ed_name 2 rfl) ea_nil))
  obtain ⟨dlast, hlast⟩ := lots_last h1 hrod
  by_cases c0 : m ≤ way n W 0
  · have en : res = none := by
      rcases hres with h | h
      · exact h.2
      · omega
    refine tr_ifR (eb_le (decide_eq_true (by rw [vI_len]; omega)) (ed_lenT T.len (ea_cons (ed_name 3 rfl) ea_nil)) (ed_ixT rfl (ed_ixL hlast (ed_name 5 rfl) (ed_neg ed_int)) ed_int)) ?_
    exact tr_raise0 rfl (takes_of rfl rfl rfl rfl) PySem.F.excBase_ValueError U.q U.g U.k (raises_own U.b U.t) fun σ H S => (Rx en).x H _ _ σ (fun q h => List.mem_cons_of_mem _ (List.mem_cons_of_mem _ h)) S
  refine tr_ifF (eb_le (decide_eq_false (by rw [vI_len]; omega)) (ed_lenT T.len (ea_cons (ed_name 3 rfl) ea_nil)) (ed_ixT rfl (ed_ixL hlast (ed_name 5 rfl) (ed_neg ed_int)) ed_int)) ?_
  refine tr_forD (t := lastJ n W) (n := n) (Y1 := yW n W) (Y2 := yL n W) 8 9 (fun j => (p2, .l (vI n (spJ n W (dl n W ln) j))) :: (p, .l (foundD n W (dl n W ln) j)) :: M0)
    (fun j => [some (.d x), some (.d row), some (.d (wsD n W)), some (.d (.tuple (vI m ln))), some (.d (.int (bef n W ln j))), some (.d (.list (lotsD n W))), some (.v (.ref p)), some (.v (.ref p2)), none, none, none])
    scSums.nd (passes_of rfl) rfl (ei_lst (ed_name 5 rfl)) (by repeat constructor) ?_ (fun j => rfl) (fun j hj ht => ?_) (fun B1 hB j hj ht => ?_) ?_
  · show _ :: _ :: M0 = _ :: _ :: M0
    congr 3
    exact vI_congr fun k hk => by unfold spJ; rw [if_neg (by omega)]
  · obtain ⟨g1, g2, g3⟩ := dl_no (ln := ln) hrod (k := n - 1 - j) (by omega) ht
    rw [spJ_no hj g1, bef_no hrod hj ht, show foundD n W (dl n W ln) (j + 1) = foundD n W (dl n W ln) j from done_succ_f ht]
  · have hk : n - 1 - j < n := by omega
    have hwm : way n W (n - 1 - j) < m := by
      have := hw0 _ hk
      omega
    have hlen := @done_len (lastJ n W) (fF n W (dl n W ln)) j
    refine tr_append (d := fF n W (dl n W ln) j) 6 1 rfl (em_of (ed_to (ed_tup (ea_cons (ed_name 9 rfl) (ea_cons (ed_sub (ed_ixT (vI_at hwm) (ed_name 3 rfl) (ed_name 8 rfl)) (ed_name 4 rfl)) ea_nil))) (by unfold fF; rw [dl_bef hj]))) rfl ⟨1, _, rfl⟩ (by unfold foundD; omega) ?_
    refine tr_setL (j := ((n - 1 - j : Nat) : Int)) (n := n - 1 - j) (d := .int (dl n W ln (n - 1 - j))) 7 0 rfl rfl (ed_to (ed_sub (ed_ixT (vI_at hwm) (ed_name 3 rfl) (ed_name 8 rfl)) (ed_name 4 rfl)) (by rw [dl_bef hj])) (ed_ixT (lot_last W (n - 1 - j)) (ed_name 9 rfl) (ed_neg ed_int)) (ixN_nat (by rw [vI_len]; exact hk)) ?_
    refine tr_set (d := .int (ln (way n W (n - 1 - j)))) 4 scSums.nd (ed_ixT (vI_at hwm) (ed_name 3 rfl) (ed_name 8 rfl)) ?_
    have eb : bef n W ln (j + 1) = ln (way n W (n - 1 - j)) := by
      unfold bef
      rw [if_neg (by omega), show n - (j + 1) = n - 1 - j by omega]
    refine tr_end (by rw [eb]; repeat constructor) ?_ fun σ H S => S
    show (p2, Ct.l ((vI n (spJ n W (dl n W ln) j)).set (n - 1 - j) (.int (dl n W ln (n - 1 - j))))) :: (p, Ct.l (foundD n W (dl n W ln) j ++ [fF n W (dl n W ln) j])) :: M0 = _
    rw [spJ_s hj, show foundD n W (dl n W ln) j ++ [fF n W (dl n W ln) j] = foundD n W (dl n W ln) (j + 1) from (done_succ_t ht).symm]
  rw [spJ_n]
  refine tr_freeze 7 rfl ?_
  by_cases c1 : ∀ k, k < n → 0 ≤ dl n W ln k
  case neg =>
    have en : res = none := by
      rcases hres with h | h
      · exact h.2
      · exact absurd h.2.1.1 c1
    have hneg : minL ((List.range n).map (dl n W ln)) < 0 := by
      refine Decidable.byContradiction fun hc => c1 fun k hk => ?_
      have := minL_le (ns := (List.range n).map (dl n W ln)) (List.mem_map.mpr ⟨k, List.mem_range.mpr hk, rfl⟩)
      omega
    refine tr_ifR (eb_lt (decide_eq_true hneg) (ed_min rfl (by rw [List.length_map, List.length_range]; omega) T.min (ea_cons (ed_to (ed_name 7 rfl) (by rw [vI_map])) ea_nil)) ed_int) ?_
    exact tr_raise0 rfl (takes_of rfl rfl rfl rfl) PySem.F.excBase_ValueError U.q U.g U.k (raises_own U.b U.t) fun σ H S => (Rx en).x H _ _ σ (fun q h => List.mem_cons_of_mem _ h) S
  have hpos : ¬ minL ((List.range n).map (dl n W ln)) < 0 := fun hc => by
    obtain ⟨k, hk, e⟩ := List.mem_map.mp (minL_mem (ns := (List.range n).map (dl n W ln)) (by rw [List.length_map, List.length_range]; omega))
    have := c1 k (List.mem_range.mp hk)
    omega
  refine tr_ifF (eb_lt (decide_eq_false hpos) (ed_min rfl (by rw [List.length_map, List.length_range]; omega) T.min (ea_cons (ed_to (ed_name 7 rfl) (by rw [vI_map])) ea_nil)) ed_int) ?_
  refine tr_set (d := wsD n (wSp W (dl n W ln))) 10 scSums.nd (ed_call D3 (hr.mono (by decide)) ⟨wsD n W, n, W, dl n W ln, rfl, (dep_ws hn).1, (dep_ws hn).2, hn, rfl⟩ (ea_cons (ed_name 2 rfl) (ea_cons (ed_name 7 rfl) ea_nil))) ?_
  cases c2 : easyB n (wSp W (dl n W ln)) with
  | false =>
    have en : res = none := by
      rcases hres with h | h
      · exact h.2
      · have := h.2.1.2.1
        rw [c2] at this; cases this
    refine tr_ifR (eb_w (ew_orT (eb_not' (p := false) rfl (eb_val (ed_to (ed_call D4 (hr.mono (by decide)) ⟨n, _, rfl, hn, rfl⟩ (ea_cons (ed_name 10 rfl) ea_nil)) (by rw [c2])))))) ?_
    exact tr_raise0 rfl (takes_of rfl rfl rfl rfl) PySem.F.excBase_ValueError U.q U.g U.k (raises_own U.b U.t) fun σ H S => (Rx en).x H _ _ σ (fun q h => List.mem_cons_of_mem _ h) S
  | true =>
    have hG := good_easy (rods_sp hrod) (fun k hk => c1 k hk) c2 m
    by_cases c3 : ∀ r, r < m → out n (wSp W (dl n W ln)) r = ln r
    · have en : res = some (.list (foundD n W (dl n W ln) n)) := by
        rcases hres with h | h
        · rcases h.1 with h | h
          · omega
          · exact absurd ⟨c1, c2, c3⟩ h
        · exact h.2.2
      refine tr_ifF (eb_w (ew_orF (eb_not' (p := true) rfl (eb_val (ed_to (ed_call D4 (hr.mono (by decide)) ⟨n, _, rfl, hn, rfl⟩ (ea_cons (ed_name 10 rfl) ea_nil)) (by rw [c2])))) (ew_or1 (eb_neD (p := false) hr.units (by rw [eqv_ints.mpr c3]; rfl) (by rw [vI_map]; exact shaped_ints _) (by rw [vI_map]; exact shaped_ints _) (ed_call D5 hr ⟨wsD n (wSp W (dl n W ln)), n, _, m, by rw [vI_len], (dep_ws hn).1, (dep_ws hn).2, h1, hn, hm, hG, rfl⟩ (ea_cons (ed_name 10 rfl) (ea_cons ed_none (ea_cons (ed_lenT T.len (ea_cons (ed_name 3 rfl) ea_nil)) ea_nil)))) (ed_name 3 rfl))))) ?_
      refine tr_freeze 6 rfl ?_
      exact tr_ret (R _ en) (fun q h => h) (ed_name 6 rfl)
    · have en : res = none := by
        rcases hres with h | h
        · exact h.2
        · exact absurd h.2.1.2.2 c3
      have hq : PyData.eqv (.tuple (vI m (out n (wSp W (dl n W ln))))) (.tuple (vI m ln)) = false := by
        cases e : PyData.eqv (.tuple (vI m (out n (wSp W (dl n W ln))))) (.tuple (vI m ln)) with
        | false => rfl
        | true => exact absurd (eqv_ints.mp e) c3
      refine tr_ifR (eb_w (ew_orF (eb_not' (p := true) rfl (eb_val (ed_to (ed_call D4 (hr.mono (by decide)) ⟨n, _, rfl, hn, rfl⟩ (ea_cons (ed_name 10 rfl) ea_nil)) (by rw [c2])))) (ew_or1 (eb_neD (p := true) hr.units (by rw [hq]; rfl) (by rw [vI_map]; exact shaped_ints _) (by rw [vI_map]; exact shaped_ints _) (ed_call D5 hr ⟨wsD n (wSp W (dl n W ln)), n, _, m, by rw [vI_len], (dep_ws hn).1, (dep_ws hn).2, h1, hn, hm, hG, rfl⟩ (ea_cons (ed_name 10 rfl) (ea_cons ed_none (ea_cons (ed_lenT T.len (ea_cons (ed_name 3 rfl) ea_nil)) ea_nil)))) (ed_name 3 rfl))))) ?_
      exact tr_raise0 rfl (takes_of rfl rfl rfl rfl) PySem.F.excBase_ValueError U.q U.g U.k (raises_own U.b U.t) fun σ H S => (Rx en).x H _ _ σ (fun q h => List.mem_cons_of_mem _ h) S
end
end KX
namespace KX
open PySem PySem.Spec PyProof.Rows L2
section
variable {X : Cx} {B : Hp} {M M' : Ms} {L L' L2' : Ls} {a b c e f : Expr} {es : List Expr} {d da db dc df d1 d2 d3 : PyData} {ds : List PyData} {pos spos : Pos} {p q : Bool} {rest body orelse : List Stmt} {D : Ends} {ct ct2 : Ct}
theorem ei_to {n n' : Nat} {Y Y' : Nat → PyData} {tg it : Expr} (h : EI X B M L tg it n Y) (e : n = n') (k : ∀ i, i < n' → Y i = Y' i) : EI X B M L tg it n' Y' := by
  subst e
  exact ei_congr h k
/-- x[a], x[b] = e -/
theorem tr_sub2 (i k : Nat) {x : Str} {l : Addr} {j1 j2 : Int} {n1 n2 kk : Nat} {px py p1 p2 p3 : Pos} (hc : X.calm = true) (hL : L[i]? = some (some (.v (.ref l)))) (hM : M[k]? = some (l, Ct.l ds)) (he : ED X B M L e (.tuple [d1, d2]))
    (ha : ED X B M L a (.int j1)) (h1 : ixN ds.length j1 = some n1) (hb : ED X B (M.set k (l, .l (ds.set n1 d1))) L b (.int j2)) (h2 : ixN ds.length j2 = some n2)
    (hr : Tr X (Sta X.K B (M.set k (l, .l ((ds.set n1 d1).set n2 d2))) L) rest D)
    (hN : X.N[i]? = some x := by rfl) (hv : Vis X.env.scope x := by first | exact Or.inl rfl | exact Or.inr (Or.inl rfl) | exact Or.inr (Or.inr rfl))
    (hd : (x == ("__debug__" : Str)) = false := by decide) (hcd : (x == ("__classdict__" : Str)) = false := by decide)
    (hasn : ∀ v, assign (.Subscript (.Name x px) a p1) X.env v = (do
      let ov ← holding [v] (eval (.Name x px) X.env)
      let iv ← holding [v, ov] (eval a X.env)
      standAt p1
      holding [v, ov, iv] (setItem ov iv v)
      release [v, ov, iv] []) := by intro _; rfl)
    (hasn2 : ∀ v, assign (.Subscript (.Name x py) b p2) X.env v = (do
      let ov ← holding [v] (eval (.Name x py) X.env)
      let iv ← holding [v, ov] (eval b X.env)
      standAt p2
      holding [v, ov, iv] (setItem ov iv v)
      release [v, ov, iv] []) := by intro _; rfl)
    (ha1 : (assignEach [.Subscript (.Name x px) a p1, .Subscript (.Name x py) b p2] X.env).map (·.2) = assign (.Subscript (.Name x px) a p1) X.env :: (assignEach [.Subscript (.Name x py) b p2] X.env).map (·.2) := by rfl)
    (ha2 : (assignEach [.Subscript (.Name x py) b p2] X.env).map (·.2) = assign (.Subscript (.Name x py) b p2) X.env :: (assignEach [] X.env).map (·.2) := by rfl)
    (hn : (assignEach [.Subscript (.Name x px) a p1, .Subscript (.Name x py) b p2] X.env).length = 2 := by rfl) (hst : (assignEach [.Subscript (.Name x px) a p1, .Subscript (.Name x py) b p2] X.env).findIdx? (·.1) = none := by rfl)
    (hs : swapsWithSole [.Tuple [.Subscript (.Name x px) a p1, .Subscript (.Name x py) b p2] kk p3] e pos.line X.env = pure false := by rfl) (hw : swappedStores [.Tuple [.Subscript (.Name x px) a p1, .Subscript (.Name x py) b p2] kk p3] e X.env = pure none := by rfl)
    (hA : (assignEach [.Tuple [.Subscript (.Name x px) a p1, .Subscript (.Name x py) b p2] kk p3] X.env).map (·.2) = [assign (.Tuple [.Subscript (.Name x px) a p1, .Subscript (.Name x py) b p2] kk p3) X.env] := by rfl) :
    Tr X (Sta X.K B M L) (.Assign [.Tuple [.Subscript (.Name x px) a p1, .Subscript (.Name x py) b p2] kk p3] e pos :: rest) D :=
  tr_cons (ps_asg he (pg_tup hc (pgs_cons (pg_sub (pe_var hN hv hd hcd) ha set_list hasn) (pgs_cons (pg_sub (pe_var hN hv hd hcd) hb set_list hasn2) pgs_nil ha2) ha1) hn hst) hs hw hA) hr fun σ H nx S kq => ⟨S, fun w H1 s1 g1 => by
    obtain ⟨A, xs, rfl, hT, hD⟩ := dp_tup g1
    obtain ⟨v1, v2, rfl, g1, g2⟩ := dpa2 hD
    have S1 := S.same s1
    refine ⟨A, _, rfl, same_t msk_same hT, rfl, v1, [v2], rfl, ?_⟩
    obtain ⟨v, q1, q2⟩ := S1.loc i _ hL
    have q2' : v = .ref l := q2
    subst q2'
    refine ⟨_, q1, S1, fun y H2 s2 u2 => ?_⟩
    cases u2
    have S2 := S1.same s2
    obtain ⟨xs, e1, z1, g⟩ := S2.get hM
    refine ⟨l, xs, j1, n1, rfl, rfl, e1, by rw [dpa_len g]; exact h1, ?_⟩
    have g2a := dp_mono (same_msk s2) _ _ g2
    have S3 := S2.upd hM (o := .lst (xs.set n1 v1)) (c' := .l (ds.set n1 d1)) ⟨_, rfl, by rw [List.length_set]; exact z1, dpa_set g n1 (dp_mono (same_msk s2) _ _ g1)⟩
    have ad3 : adr (M.set k (l, .l (ds.set n1 d1))) = adr M := adr_set hM
    have hkl : k < M.length := (List.getElem?_eq_some_iff.mp hM).1
    have hM3 : (M.set k (l, Ct.l (ds.set n1 d1)))[k]? = some (l, .l (ds.set n1 d1)) := by rw [List.getElem?_set_self hkl]
    have e3 : msk (adr M) (upd H2 l (.lst (xs.set n1 v1))) = msk (adr M) H2 := msk_upd (List.mem_map.mpr ⟨_, List.mem_of_getElem? hM, rfl⟩)
    refine ⟨v2, [], rfl, ?_⟩
    refine ⟨_, q1, S3, fun y H4 s4 u4 => ?_⟩
    cases u4
    have S4 := S3.same s4
    obtain ⟨xs4, e4, z4, g4⟩ := S4.get hM3
    have g2b : Dp X.K (msk (adr (M.set k (l, Ct.l (ds.set n1 d1)))) H4) v2 d2 := by
      rw [ad3]
      refine dp_mono (same_msk s4) _ _ ?_
      rw [e3]
      exact g2a
    refine ⟨l, xs4, j2, n2, rfl, rfl, e4, by rw [dpa_len g4, List.length_set]; exact h2, rfl, ?_⟩
    have S5 := S4.upd hM3 (o := .lst (xs4.set n2 v2)) (c' := .l ((ds.set n1 d1).set n2 d2)) ⟨_, rfl, by rw [List.length_set]; exact z4, dpa_set g4 n2 g2b⟩
    rw [List.set_set] at S5
    exact kq _ _ S5⟩
/-- x, y, z, u = a, [..], [..], f -/
theorem tr_dood (i j l m : Nat) {x y z u : Str} {px py pz pu pt pt2 : Pos} {kt k2 : Nat} (hcm : X.calm = true) (hN : X.N.Nodup) (ha : ED X B M L a da) (hb : EF X B M L b ct) (hc : ∀ p, EF X B ((p, ct) :: M) L c ct2) (hf : ∀ p p2, ED X B ((p2, ct2) :: (p, ct) :: M) L f df)
    (hr : ∀ p p2, Tr X (Sta X.K B ((p2, ct2) :: (p, ct) :: M) ((((L.set i (some (.d da))).set j (some (.v (.ref p)))).set l (some (.v (.ref p2)))).set m (some (.d df)))) rest D)
    (h1 : starEach [a, b, c, f] X.env = (false, eval a X.env) :: starEach [b, c, f] X.env := by rfl) (h2 : starEach [b, c, f] X.env = (false, eval b X.env) :: starEach [c, f] X.env := by rfl)
    (h3 : starEach [c, f] X.env = (false, eval c X.env) :: starEach [f] X.env := by rfl) (h4 : starEach [f] X.env = (false, eval f X.env) :: starEach [] X.env := by rfl)
    (hx1 : X.N[i]? = some x := by rfl) (hx : Loc X.env.scope x := by first | exact Or.inl rfl | exact Or.inr rfl) (hfx : X.fn x = true ∨ X.env.scope.names.lookup x = some .local := by first | exact .inl rfl | exact .inr rfl)
    (hy1 : X.N[j]? = some y := by rfl) (hy : Loc X.env.scope y := by first | exact Or.inl rfl | exact Or.inr rfl) (hfy : X.fn y = true ∨ X.env.scope.names.lookup y = some .local := by first | exact .inl rfl | exact .inr rfl)
    (hz1 : X.N[l]? = some z := by rfl) (hz : Loc X.env.scope z := by first | exact Or.inl rfl | exact Or.inr rfl) (hfz : X.fn z = true ∨ X.env.scope.names.lookup z = some .local := by first | exact .inl rfl | exact .inr rfl)
    (hu1 : X.N[m]? = some u := by rfl) (hu : Loc X.env.scope u := by first | exact Or.inl rfl | exact Or.inr rfl) (hfu : X.fn u = true ∨ X.env.scope.names.lookup u = some .local := by first | exact .inl rfl | exact .inr rfl)
    (ha1 : (assignEach [.Name x px, .Name y py, .Name z pz, .Name u pu] X.env).map (·.2) = assign (.Name x px) X.env :: (assignEach [.Name y py, .Name z pz, .Name u pu] X.env).map (·.2) := by rfl)
    (ha2 : (assignEach [.Name y py, .Name z pz, .Name u pu] X.env).map (·.2) = assign (.Name y py) X.env :: (assignEach [.Name z pz, .Name u pu] X.env).map (·.2) := by rfl)
    (ha3 : (assignEach [.Name z pz, .Name u pu] X.env).map (·.2) = assign (.Name z pz) X.env :: (assignEach [.Name u pu] X.env).map (·.2) := by rfl)
    (ha4 : (assignEach [.Name u pu] X.env).map (·.2) = assign (.Name u pu) X.env :: (assignEach [] X.env).map (·.2) := by rfl)
    (hn : (assignEach [.Name x px, .Name y py, .Name z pz, .Name u pu] X.env).length = 4 := by rfl) (hst : (assignEach [.Name x px, .Name y py, .Name z pz, .Name u pu] X.env).findIdx? (·.1) = none := by rfl)
    (hs : swapsWithSole [.Tuple [.Name x px, .Name y py, .Name z pz, .Name u pu] kt pt] (.Tuple [a, b, c, f] k2 pt2) pos.line X.env = pure false := by rfl) (hw : swappedStores [.Tuple [.Name x px, .Name y py, .Name z pz, .Name u pu] kt pt] (.Tuple [a, b, c, f] k2 pt2) X.env = pure none := by rfl)
    (hA : (assignEach [.Tuple [.Name x px, .Name y py, .Name z pz, .Name u pu] kt pt] X.env).map (·.2) = [assign (.Tuple [.Name x px, .Name y py, .Name z pz, .Name u pu] kt pt) X.env] := by rfl) :
    Tr X (Sta X.K B M L) (.Assign [.Tuple [.Name x px, .Name y py, .Name z pz, .Name u pu] kt pt] (.Tuple [a, b, c, f] k2 pt2) pos :: rest) D :=
  tr_cons (Mid := fun σ H => ∃ p : Addr × Addr, Sta X.K B ((p.2, ct2) :: (p.1, ct) :: M) ((((L.set i (some (.d da))).set j (some (.v (.ref p.1)))).set l (some (.v (.ref p.2)))).set m (some (.d df))) σ H)
    (ps_asg (pe_tup (pa_dood ha hb hc hf h1 h2 h3 h4)) (pg_tup hcm (pgs_cons (pg_name hN hx1 hx hfx) (pgs_cons (pg_name hN hy1 hy hfy) (pgs_cons (pg_name hN hz1 hz hfz) (pgs_cons (pg_name hN hu1 hu hfu) pgs_nil ha4) ha3) ha2) ha1) hn hst) hs hw hA)
    (tr_ex fun p => hr p.1 p.2) fun σ H nx S k => ⟨S, fun v p p2 w H2 S2 g1 g4 => ⟨by show 4 ≤ sizeLine; decide, fun t ht => by
      have sn : Same H2 (upd H2 t (.tup [v, .ref p, .ref p2, w])) := same_new ht
      have S3 := S2.same sn
      refine ⟨t, _, rfl, .inl (.inl upd_same), rfl, v, _, rfl, _, _, rfl, _, _, rfl, _, _, rfl, rfl, k _ _ ⟨(p, p2), ?_⟩⟩
      exact (((S3.set (s := .d da) (dp_mono (same_msk sn) _ _ g1)).set (s := .v (.ref p)) rfl).set (s := .v (.ref p2)) rfl).set (s := .d df) (dp_mono (same_msk sn) _ _ g4)⟩⟩
end
end KX
namespace KX
open PySem PySem.Spec PyProof.Rows L2
section
variable {P : Program} {w : World} {K : PySem.W.Frag} {mg : Str → Option Value} {base : Heap}
/-! ## _law_rest -/
def rqRest (ds : List PyData) (d : PyData) : Prop := ∃ (n : Nat) (W : Nat → Well) (h : Nat → Int) (r : Nat), ds = [wsD n W, .tuple (vI n h), .int r, .none] ∧ 1 ≤ n ∧ n ≤ 900 ∧ Calm n W h ∧ (∀ k, 0 < k → k < n → rst W h r k ≤ (W k).room) ∧
  d = .tuple [.tuple (vI n (rst W h r)), .int (tk W h r (n - 1))]
abbrev pqRest : List Str := ["_law_wells", "_law_held", "_law_rest_here", "_law_leak"]
abbrev nqRest : List Str := ["_law_wells", "_law_held", "_law_rest_here", "_law_leak", "_law_up", "_law_takes", "_law_k", "_law_well", "_law_more", "_law_own", "_law_left", "_law_over"]
theorem sqcRest : FnScope nqRest pqRest (defScope sqRest) := ⟨rfl, rfl, rfl, by decide +kernel, rfl, by decide +kernel, by decide +kernel⟩
def lft (W : Nat → Well) (h : Nat → Int) (r i k : Nat) : Int := h k - tk W h r k + (if k ≠ 0 ∧ k ≤ i then tk W h r (k - 1) else 0)
theorem okq_rest {f : Addr} {fd : FuncData} (F : Fun K "_law_rest" "_law_rest" sqRest f fd) (T : Txt mg) : FnOk P w K mg base CX0 1 f fd pqRest (spD K rqRest) := by
  refine fn_pure F sqcRest (fun ds d h => by obtain ⟨n, W, h, r, rfl, _⟩ := h; rfl) fun cdv A outer s H E hr B M0 D ds d hR R Rn => ?_
  obtain ⟨n, W, h, r, rfl, h1, hn, hC, hS, rfl⟩ := hR
  refine tr_do (da := .int (up r)) (ct := .l []) 4 5 rfl sqcRest.nd (ed_to (ed_sub ed_int (ed_mod (by decide) (ed_name 2 rfl) ed_int)) (by unfold up; congr 1)) (ef_lst ea_nil) fun l hl => ?_
  refine tr_forP 6 7 (fun i => (l, .l (vI i (tk W h r))) :: M0) (fun _ => [some (.d (wsD n W)), some (.d (.tuple (vI n h))), some (.d (.int r)), some (.d .none), some (.d (.int (up r))), some (.v (.ref l)), none, none, none, none, none, none]) (fun _ => True)
    sqcRest.nd .never rfl (ei_enum T.enumerate (ea_cons (ed_name 0 rfl) ea_nil) (.inl rfl)) (by repeat constructor) rfl trivial (fun i => rfl) (fun B1 hB i hi _ => ?_) (fun _ => ?_)
  · rw [vec_len] at hi
    rw [vec_y hi]
    obtain ⟨c1, c2, c3⟩ := hC i hi
    refine tr_set (d := .int (tk W h r i)) 8 sqcRest.nd ?_ ?_
    · unfold tk
      by_cases c : (W i).rod = up r
      · rw [if_pos c]
        refine ed_ifT (eb_eq (decide_eq_true c) (ed_ixT rfl (ed_name 7 rfl) ed_int) (ed_name 4 rfl)) ?_
        exact ed_to (ed_min2 rfl T.min (ea_cons (ed_ixT rfl (ed_name 7 rfl) ed_int) (ea_cons (ed_ixT (vI_at hi) (ed_name 1 rfl) (ed_name 6 rfl)) ea_nil))) (by congr 1; split <;> omega)
      · rw [if_neg c]
        exact ed_ifF (eb_eq (decide_eq_false c) (ed_ixT rfl (ed_name 7 rfl) ed_int) (ed_name 4 rfl)) ed_int
    refine tr_ifF (eb_w (ew_andF (eb_notN rfl (ed_name 3 rfl)))) ?_
    refine tr_append (d := .int (tk W h r i)) 5 0 rfl (em_of (ed_name 8 rfl)) rfl ⟨0, _, rfl⟩ (by rw [vI_len]; omega) ?_
    exact tr_end (by repeat constructor) (by rw [vI_snoc]; rfl) fun σ H S => ⟨trivial, S⟩
  rw [vec_len]
  refine tr_freeze 5 rfl ?_
  refine tr_lcP (n := n) (Y1 := fun i => .int i) (Y2 := fun i => .int (tk W h r i)) (F := fun i => .int (h i - tk W h r i)) (t := fun _ => true) 10 6 9 (by omega) rfl sqcRest.nd ?_ (by show blkC nqRest (defScope sqRest) _ _ = true; decide +kernel)
    (fun i hi B1 Mx Da acc ad s H C cl fp => pts_no) (fun i hi _ B1 Mx Da acc ad s H C cl fp => ?_) fun l2 hl2 => ?_
  · exact ei_to (ei_enum T.enumerate (ea_cons (ed_name 5 rfl) ea_nil) (.inr rfl)) (vI_len _ _) fun i hi => by unfold yEn; rw [vI_y hi]
  · exact ed_sub (ed_ixT (vI_at hi) (ed_name 1 rfl) (ed_name 6 rfl)) (ed_name 9 rfl)
  have etk : (vI n (tk W h r)).length - 1 = n - 1 := by rw [vI_len]
  refine tr_forP (Y1 := fun i => .int i) (Y2 := fun i => .int (tk W h r i)) (n := n - 1) 6 9 (fun i => (l2, .l (vI n (lft W h r i))) :: M0) (fun _ => [some (.d (wsD n W)), some (.d (.tuple (vI n h))), some (.d (.int r)), some (.d .none), some (.d (.int (up r))), some (.d (.list (vI n (tk W h r)))), none, none, none, none, some (.v (.ref l2)), none]) (fun _ => True)
    sqcRest.nd .never rfl ?_ (by repeat constructor) ?_ trivial (fun i => rfl) (fun B1 hB i hi _ => ?_) (fun _ => ?_)
  · exact ei_to (ei_enum (ds := (vI n (tk W h r)).take (n - 1)) T.enumerate (ea_cons (ed_to (ed_of_f (ef_cutL (by rw [vI_len]; omega) (ed_name 5 rfl) eo_none (eo_some (ed_neg ed_int)))) (by rw [cutD_init, etk])) ea_nil) (.inr rfl)) (by rw [List.length_take, vI_len]; omega) fun i hi => by
      unfold yEn
      rw [yAt_of (by rw [List.getElem?_take_of_lt hi]; exact vI_get (by omega))]
  · rw [done_vec]
    show _ :: M0 = _ :: M0
    congr 3
    exact vI_congr fun k hk => by unfold lft; rw [if_neg (by omega)]; omega
  · have hk : ((i : Int) + 1) = ((i + 1 : Nat) : Int) := by omega
    refine tr_setL (d := .int (lft W h r i (i + 1) + tk W h r i)) (j := (i : Int) + 1) (n := i + 1) 10 0 rfl rfl (ed_add (ed_ixOwn 10 0 rfl rfl (ed_add (ed_name 6 rfl) ed_int) (by rw [hk]; exact vI_at (by omega))) (ed_name 9 rfl)) (ed_add (ed_name 6 rfl) ed_int) (by rw [hk, vI_len]; exact ixN_nat (by omega)) ?_
    refine tr_end (by repeat constructor) ?_ fun σ H S => ⟨trivial, S⟩
    show _ :: M0 = _ :: M0
    congr 3
    rw [vI_set (by omega)]
    refine vI_congr fun k hk' => ?_
    unfold lft
    by_cases c : k = i + 1
    · rw [if_pos c, c, if_neg (by omega), if_pos (by omega), show i + 1 - 1 = i by omega]; omega
    · rw [if_neg c]
      by_cases c2 : k ≠ 0 ∧ k ≤ i
      · rw [if_pos c2, if_pos (by omega)]
      · rw [if_neg c2, if_neg (by omega)]
  have elft : vI n (lft W h r (n - 1)) = vI n (stk W h r) := vI_congr fun k hk => by
    unfold lft stk
    by_cases c : k = 0
    · rw [if_neg (by omega), if_pos c]
    · rw [if_pos (by omega), if_neg c]
  rw [elft]
  have tail : ∀ (l3 : Addr), Tr (cxOf CX0 P w K mg base nqRest "_law_rest" (defScope sqRest) f cdv A outer s H E).nox (Sta K B ((l3, .l (vI n (rst W h r))) :: M0) [some (.d (wsD n W)), some (.d (.tuple (vI n h))), some (.d (.int r)), some (.d .none), some (.d (.int (up r))), some (.d (.list (vI n (tk W h r)))), none, none, none, none, some (.v (.ref l3)), none]) ((defBody sqRest).drop 5) D := by
    intro l3
    refine tr_forN 6 (fun i => (l3, .l (vI n (rst W h r))) :: M0) (fun _ => [some (.d (wsD n W)), some (.d (.tuple (vI n h))), some (.d (.int r)), some (.d .none), some (.d (.int (up r))), some (.d (.list (vI n (tk W h r)))), none, none, none, none, some (.v (.ref l3)), none]) (fun _ => True)
      sqcRest.nd .never rfl (ei_down (j := (n : Int) - 1) T.range (ea_cons (ed_sub (ed_to (ed_lenT T.len (ea_cons (ed_name 0 rfl) ea_nil)) (by rw [vec_len])) ed_int) (ea_cons ed_int (ea_cons (ed_neg ed_int) ea_nil))) (by omega) (by omega)) (by repeat constructor) rfl trivial (fun i => rfl) (fun B1 hB i hi _ => ?_) (fun _ => ?_)
    · have hk : ((n : Int) - 1 - (i : Int)) = ((n - 1 - i : Nat) : Int) := by omega
      rw [hk]
      generalize hk' : n - 1 - i = k
      have k0 : 0 < k := by omega
      have kn : k < n := by omega
      have hroom := hS k k0 kn
      refine tr_set (d := .int 0) 11 sqcRest.nd (ed_to (ed_max2 rfl T.max (ea_cons ed_int (ea_cons (ed_sub (ed_ixOwn 10 0 rfl rfl (ed_name 6 rfl) (vI_at kn)) (ed_ixT rfl (ed_ixT (vec_at kn) (ed_name 0 rfl) (ed_name 6 rfl)) ed_int)) ea_nil))) (by congr 1; split <;> omega)) ?_
      have hk1 : ((k : Int) - 1) = ((k - 1 : Nat) : Int) := by omega
      refine tr_sub2 (d1 := .int (rst W h r k)) (d2 := .int (rst W h r (k - 1))) (n1 := k) (n2 := k - 1) (j1 := k) (j2 := (k : Int) - 1) 10 0 rfl rfl rfl
        (ed_to (ed_tup (ea_cons (ed_sub (ed_ixOwn 10 0 rfl rfl (ed_name 6 rfl) (vI_at kn)) (ed_name 11 rfl)) (ea_cons (ed_add (ed_ixOwn 10 0 rfl rfl (ed_sub (ed_name 6 rfl) ed_int) (by rw [hk1]; exact vI_at (by omega))) (ed_name 11 rfl)) ea_nil))) (by rw [Int.sub_zero, Int.add_zero]))
        (ed_name 6 rfl) (ixN_nat (by rw [vI_len]; exact kn)) (ed_sub (ed_name 6 rfl) ed_int) (by rw [hk1]; exact ixN_nat (by rw [vI_len]; omega)) ?_
      refine tr_end (by repeat constructor) ?_ fun σ H S => ⟨trivial, S⟩
      show _ :: M0 = _ :: M0
      congr 3
      rw [vI_set kn, vI_set (by omega)]
      exact vI_congr fun j _ => by
        by_cases c : j = k - 1
        · rw [if_pos c, c]
        · rw [if_neg c]
          by_cases c2 : j = k
          · rw [if_pos c2, c2]
          · rw [if_neg c2]
    · refine tr_freeze 10 rfl ?_
      exact tr_ret R (fun q h => h) (ed_tup (ea_cons (ed_tupL T.tuple (ea_cons (ed_name 10 rfl) ea_nil)) (ea_cons (ed_ixL (vI_last (by omega)) (ed_name 5 rfl) (ed_neg ed_int)) ea_nil)))
  by_cases c : r % 2 = 1
  · refine tr_ifT (eb_eq (decide_eq_true (by omega)) (ed_mod (by decide) (ed_name 2 rfl) ed_int) ed_int) (Mid := fun σ H => ∃ l3 : Addr, Sta K B ((l3, .l (vI n (rst W h r))) :: M0) [some (.d (wsD n W)), some (.d (.tuple (vI n h))), some (.d (.int r)), some (.d .none), some (.d (.int (up r))), some (.d (.list (vI n (tk W h r)))), none, none, none, none, some (.v (.ref l3)), none] σ H) ?_ (tr_ex fun l3 => tail l3)
    refine tr_freeze 10 rfl ?_
    refine tr_lcP (n := n) (Y1 := fun i => .int i) (Y2 := fun i => .int (stk W h r i)) (F := fun i => .int (rst W h r i)) (t := fun _ => true) 10 6 9 (by omega) rfl sqcRest.nd ?_ (by show blkC nqRest (defScope sqRest) _ _ = true; decide +kernel)
      (fun i hi B1 Mx Da acc ad s H C cl fp => pts_no) (fun i hi _ B1 Mx Da acc ad s H C cl fp => ?_) fun l3 hl3 => ?_
    · exact ei_to (ei_enum T.enumerate (ea_cons (ed_name 10 rfl) ea_nil) (.inr rfl)) (vI_len _ _) fun i hi => by unfold yEn; rw [vI_y hi]
    · exact ed_to (ed_add (ed_name 9 rfl) (ed_ixT rfl (ed_ixT (vec_at hi) (ed_name 0 rfl) (ed_name 6 rfl)) ed_int)) (by unfold rst; rw [if_pos c])
    · rw [done_vec]
      exact tr_nil fun σ H S => ⟨l3, S⟩
  · refine tr_ifF (eb_eq (decide_eq_false (by omega)) (ed_mod (by decide) (ed_name 2 rfl) ed_int) ed_int) ?_
    have e : vI n (stk W h r) = vI n (rst W h r) := vI_congr fun k _ => by unfold rst; rw [if_neg c]; omega
    rw [e]
    exact tail l2
/-! ## _law_play -/
def rqPlay (ds : List PyData) (d : PyData) : Prop := ∃ (n : Nat) (W : Nat → Well) (many : Nat), ds = [wsD n W, .none, .int many] ∧ 1 ≤ n ∧ n ≤ 900 ∧ many ≤ 900 ∧ Good n W many ∧
  d = .tuple [.tuple (vI many (out n W)), .list (vec (many + 1) (hdD n W))]
abbrev pqPlay : List Str := ["_law_wells", "_law_leak", "_law_many"]
abbrev nqPlay : List Str := ["_law_wells", "_law_leak", "_law_many", "_law_line", "_law_held_so", "_law_rest_here", "_law_held", "_law_out"]
theorem sqcPlay : FnScope nqPlay pqPlay (defScope sqPlay) := ⟨rfl, rfl, rfl, by decide +kernel, rfl, by decide +kernel, by decide +kernel⟩
theorem okq_play {f : Addr} {fd : FuncData} (F : Fun K "_law_play" "_law_play" sqPlay f fd) (T : Txt mg) (D1 : Df P w K mg base CX0 1 "_law_rest" pqRest (spD K rqRest)) : FnOk P w K mg base CX0 2 f fd pqPlay (spD K rqPlay) := by
  refine fn_pure F sqcPlay (fun ds d h => by obtain ⟨n, W, many, rfl, _⟩ := h; rfl) fun cdv A outer s H E hr B M0 D ds d hR R Rn => ?_
  obtain ⟨n, W, many, rfl, h1, hn, hm, hG, rfl⟩ := hR
  refine tr_oo (ct := .l []) (ct2 := .l [hdD n W 0]) 3 4 rfl sqcPlay.nd (ef_lst ea_nil) (fun l => ef_lst (ea_cons (ed_to (ed_rep (i := ((vec n fun k => wD (W k)).length : Nat)) (by rw [vec_len]; omega) (by rw [vec_len]; omega) (ed_tup (ea_cons ed_int ea_nil)) (ed_lenT T.len (ea_cons (ed_name 0 rfl) ea_nil))) ?_) ea_nil)) fun l l2 => ?_
  · rw [vec_len, Int.toNat_natCast, rep_vec]; rfl
  refine tr_forN 5 (fun i => (l2, .l (vec (i + 1) (hdD n W))) :: (l, .l (vI i (out n W))) :: M0) (fun _ => [some (.d (wsD n W)), some (.d .none), some (.d (.int many)), some (.v (.ref l)), some (.v (.ref l2)), none, none, none]) (fun _ => True)
    sqcPlay.nd .never rfl (ei_range (j := many) T.range (ea_cons (ed_name 2 rfl) ea_nil) (by omega) (by omega)) (by repeat constructor) rfl trivial (fun i => rfl) (fun B1 hB i hi _ => ?_) (fun _ => ?_)
  · rw [Int.toNat_natCast] at hi
    have c1 := hG i (by omega)
    have c2 := hG (i + 1) (by omega)
    refine tr_pair (d1 := hdD n W (i + 1)) (d2 := .int (out n W i)) 6 7 rfl sqcPlay.nd
      (ed_call D1 hr ⟨n, W, hd W i, i, rfl, h1, hn, c1, fun k k0 kn => (c2 k kn).2.2 k0, rfl⟩
        (ea_cons (ed_name 0 rfl) (ea_cons (ed_ixOwn 4 0 rfl rfl (ed_neg ed_int) (vec_last (by omega))) (ea_cons (ed_name 5 rfl) (ea_cons (ed_name 1 rfl) ea_nil))))) ?_
    refine tr_append (d := .int (out n W i)) 3 1 rfl (em_of (ed_name 7 rfl)) rfl ⟨1, _, rfl⟩ (by rw [vI_len]; omega) ?_
    refine tr_append (d := hdD n W (i + 1)) 4 0 rfl (em_of (ed_name 6 rfl)) rfl ⟨0, _, rfl⟩ (by rw [vec_len]; omega) ?_
    exact tr_end (by repeat constructor) (by rw [vI_snoc, vec_snoc]; rfl) fun σ H S => ⟨trivial, S⟩
  · rw [Int.toNat_natCast]
    refine tr_freeze 4 rfl ?_
    refine tr_freeze 3 rfl ?_
    exact tr_ret R (fun q h => h) (ed_tup (ea_cons (ed_tupL T.tuple (ea_cons (ed_name 3 rfl) ea_nil)) (ea_cons (ed_name 4 rfl) ea_nil)))
/-! ## _law_other -/
def rqOther (ds : List PyData) (d : PyData) : Prop := ∃ (n : Nat) (W : Nat → Well) (sp : Nat → Int), ds = [wsD n W, .list (vI n sp)] ∧ n ≤ 900 ∧ d = wsD n (wSp W sp)
abbrev nqOther : List Str := ["_law_wells", "_law_springs", "_law_well", "_law_own"]
theorem sqcOther : FnScope nqOther ["_law_wells", "_law_springs"] (defScope sqOther) := ⟨rfl, rfl, rfl, by decide +kernel, rfl, by decide +kernel, by decide +kernel⟩
theorem okq_other {f : Addr} {fd : FuncData} (F : Fun K "_law_other" "_law_other" sqOther f fd) (T : Txt mg) : FnOk P w K mg base CX0 1 f fd ["_law_wells", "_law_springs"] (spD K rqOther) := by
  refine fn_pure F sqcOther (fun ds d h => by obtain ⟨n, W, sp, rfl, _⟩ := h; rfl) fun cdv A outer s H E hr B M0 D ds d hR R Rn => ?_
  obtain ⟨n, W, sp, rfl, hn, rfl⟩ := hR
  refine tr_ret R (fun q h => h) (ed_to (ed_tupL T.tuple (ea_cons (ed_of_f (ef_lcP (n := n) (Y1 := fun i => wD (W i)) (Y2 := fun i => .int (sp i)) (F := fun i => wD (wSp W sp i)) (t := fun _ => true) 2 3 (by omega) rfl sqcOther.nd ?_ (by show blkC nqOther (defScope sqOther) _ _ = true; decide +kernel)
    (fun i hi B1 Mx Da acc ad s H C cl fp => pts_no) (fun i hi _ B1 Mx Da acc ad s H C cl fp => ?_))) ea_nil)) (by rw [done_vec]; rfl))
  · exact ei_to (ei_zip T.zip (ea_cons (ed_name 0 rfl) (ea_cons (ed_name 1 rfl) ea_nil)) (.inl rfl) (.inr rfl)) (by rw [vec_len, vI_len]; omega) fun i hi => by unfold yZip; rw [vI_y hi, vec_y hi]
  · refine ed_to (ed_catT ?_ (ed_catT ?_ (ed_cutT (ed_name 2 rfl) eo_none (eo_some ed_int)) (ed_tup (ea_cons (ed_name 3 rfl) ea_nil))) (ed_cutT (ed_name 2 rfl) (eo_some ed_int) eo_none)) rfl
    · show (5 : Nat) ≤ 1000; decide
    · show (3 : Nat) ≤ 1000; decide
end
end KX
namespace KX
open PySem PySem.Spec PyProof.Rows L2
/-! ## set(list of ints) -/
section
variable {P : Program} {w : World} {A : Around} {E : Value → Shared → Prop} {s : Shared}
abbrev newSetO (w : World) : Obj := { cls := .type "set", dict := none, data := .set #[] 0 (.fresh 0 0 (!w.params.followText "set-order")) }
theorem set_of_list {l : Addr} {items : Array Value} (ns : List Int) {Q : Value → Shared → Prop} (hh : A.handled = none) (hl : s.heap.IsList l items) (hit : IntsAre items.toList ns) (hb : ns.length + 1 < scanBound)
    (h : ∀ (h' : Heap) (tk c : Nat), SetR w h' s.heap.objs.size (fun j => decide (j ∈ ns)) c → c ≤ ns.length → (∀ b o, s.heap.get? b = some o → h'.get? b = some o) → Q (.ref s.heap.objs.size) { s with heap := h', toks := tk }) :
    wpAny (model P w) A (call (.type "set") [.ref l]) Q E s := by
  have hisz : items.size = ns.length := by
    have q := IntsAre.length hit
    rwa [Array.length_toList] at q
  obtain ⟨c, tl, hmro⟩ := F.called_set.mro
  have hmade := F.called_set.made
  have hsub := F.called_set.sub
  refine wpAny_call (codeAny_of_tree ?_)
  show wpAny _ _ (callAny (.type "set") _) _ _ _
  refine wpAny_pure ⟨Code.quiet_builtin _ (by decide +kernel), codeAny_builtin F.entry_type_call ?_⟩
  rw [Around.under_plain (weight_type_call_type "set" [.ref l] []) rfl]
  have h1 := F.called_set.notType
  have h2 := F.called_set.canCreate
  have hct := F.typeCall_set_1 (.ref l)
  repeat (any_goals (first | assumption | wp_step))
  refine codeAny_mono (code_set_led1 (.ref l) (E := E) (Q₁ := fun obj s₁ => obj = .ref s.heap.objs.size ∧ s₁ = { s with heap := s.heap.push (newSetO w) }) ⟨rfl, rfl⟩) fun r s₁ hr => ?_
  cases r with
  | error e => exact hr
  | ok fl =>
    cases fl with
    | ret obj =>
      obtain ⟨rfl, rfl⟩ := hr
      have hS : (s.heap.push (newSetO w)).get? s.heap.objs.size = some (newSetO w) := Heap.get?_push_size _ rfl
      have hT : Shared.TypeIs { s with heap := s.heap.push (newSetO w) } (.ref s.heap.objs.size) "set" := ⟨_, hS, rfl⟩
      have hli := F.called_set.init.lookup
      have hbi := F.called_set.init.bind (.ref s.heap.objs.size)
      repeat (any_goals (first | assumption | wp_step))
      refine codeAny_mono (codeAny_call_builtin (R := wants (fun r s₂ => r = .none ∧ ∃ h' tk c, s₂ = { s with heap := h', toks := tk } ∧ SetR w h' s.heap.objs.size (fun j => decide (j ∈ ns)) c ∧ c ≤ ns.length ∧
          (∀ b o, s.heap.get? b = some o → h'.get? b = some o)) E) F.called_set.init.plain F.entry_set_init (check_set_init_1 hT ?_)) fun r₂ s₂ hr₂ => ?_
      · obtain ⟨ol, hol, hcl, nl, hdl⟩ := hl
        obtain ⟨ocls, odict, odata, oslots⟩ := ol
        simp only at hcl hdl
        subst hcl; subst hdl
        have hol' : (s.heap.push (newSetO w)).get? l = some { cls := .type "list", dict := odict, data := .seq items nl, slots := oslots } := Heap.get?_push_of_some _ hol
        have hsls := F.sub_list_set
        have hslf := F.sub_list_frozenset
        have hne : (Value.type "list" == Value.type "dict") = false := by decide
        have hl1 : (s.heap.push (newSetO w)).IsList l items := ⟨_, hol', rfl, nl, rfl⟩
        unfold Builtin.«set.__init__» noKeywords Builtin.Frozenset.updateFrom
        generalize hPI : pyIter = PI
        wp_walk
        subst hPI
        refine wpAny_pyIter_list hl1 ?_
        refine wpAny_bind (wpAny_runValue ?_)
        have hlS : l < s.heap.objs.size := Heap.lt_size hol
        have hh3 : A.in1.in1.in1.handled = none := by simp [hh]
        have hneI : l ≠ (s.heap.push (newSetO w)).objs.size := by
          rw [Heap.size_push]; exact Nat.ne_of_lt (Nat.lt_succ_of_lt hlS)
        have hSf : s.heap.objs.size ∉ [(s.heap.push (newSetO w)).objs.size, l] := by
          rw [Heap.size_push]; simp only [List.mem_cons, List.mem_singleton, List.not_mem_nil, or_false, not_or]
          exact ⟨Nat.ne_of_lt (Nat.lt_succ_self _), Nat.ne_of_gt hlS⟩
        have hval : ∀ (i : Nat) (v : Value), items[i]? = some v → ∃ k t, ns[i]? = some k ∧ v = .int k t := fun i v hv => by
          have hi : i < ns.length := by rw [← hisz]; exact (Array.getElem?_eq_some_iff.mp hv).1
          obtain ⟨t, e⟩ := PyProof.Rows.IntsAre.int_at hit i v (by rw [Array.getElem?_toList]; exact hv)
          refine ⟨ns[i], t, List.getElem?_eq_getElem hi, ?_⟩
          rw [e, List.getD_eq_getElem?_getD, List.getElem?_eq_getElem hi] <;> rfl
        refine set_update_ints ((Walks.list hh3 _ l hneI items).toS) s.heap.objs.size hSf ns hisz hb hval (items.size - 0) 0 _ (by omega) (Nat.zero_le _)
          ⟨⟨_, Heap.get?_push_size _ rfl, rfl, rfl⟩, (hl1.push _)⟩ ?hS0 ?hR
        case hS0 => exact ⟨0, Nat.le_refl 0, setR_new_at (Heap.get?_push_of_some _ hS)⟩
        case hR =>
          intro s' c' hm hc' hS'
          obtain ⟨h', g2, d', tk', os'⟩ := s'
          have eg : g2 = s.gens := hm.gens
          have ed : d' = s.drawn := hm.drawn
          have eo : os' = s.os := hm.os
          subst eg; subst ed; subst eo
          show wpAny _ _ _ _ _ _
          refine wpAny_pure ?_
          show wpAny _ _ (ret Value.none) _ _ _
          rw [hisz] at hc'
          refine wpAny_pure ⟨rfl, h', tk', c', rfl, hS', hc', fun b o e => ?_⟩
          have hb0 : b < s.heap.objs.size := Heap.lt_size e
          have hb1 : b ≠ s.heap.objs.size := Nat.ne_of_lt hb0
          have hb2 : b ≠ (s.heap.push (newSetO w)).objs.size := by
            rw [Heap.size_push]; exact Nat.ne_of_lt (Nat.lt_succ_of_lt hb0)
          exact hm.heap b o (by simp only [List.mem_cons, List.mem_singleton, List.not_mem_nil, or_false, not_or]; exact ⟨hb1, hb2⟩) (Heap.get?_push_of_some _ (Heap.get?_push_of_some _ e))
      · cases r₂ with
        | error e => exact hr₂
        | ok fl₂ =>
          cases fl₂ with
          | ret r =>
            obtain ⟨rfl, h', tk, c', rfl, hS', hc', hk'⟩ := hr₂
            repeat (any_goals (first | assumption | wp_step))
            exact h _ _ _ hS' hc' hk'
          | _ => exact hr₂.elim
    | _ => exact hr.elim
end
section
variable {X : Cx}
def rSetLI (K : PySem.W.Frag) (w : World) : List V → Hp → VK → Prop := fun vs H Q => ∃ (p : Addr) (ns : List Int), vs = [.ref p] ∧ SqL K H p (ns.map V.int) ∧ ns.length ≤ 1000 ∧
  ∀ (c : Nat) (q : Addr), c ≤ ns.length → H q = none → Q (.ref q) (upd H q (SetO w q (fun j => decide (j ∈ ns)) c))
theorem cr_setLI (hc : X.calm = true) : CallR X (.type "set") (rSetLI X.K X.w) := by
  intro pins s σ H vs us Q I r h
  obtain ⟨p, ns, rfl, hs, hl, q⟩ := h
  obtain rfl := Vals.ref1 r
  obtain ⟨its, rv, pl, hz⟩ := I.list hs
  refine set_of_list ns (I.ok.hd hc) pl.isList (by simpa using rv.ints) (by unfold scanBound; omega) fun h' tk c R hcn hk => ?_
  exact ⟨.ref s.heap.objs.size, upd H s.heap.objs.size (SetO X.w s.heap.objs.size (fun j => decide (j ∈ ns)) c), I.laid (t' := tk) hk (Nat.le_refl _) (setO_new R), rfl, q c _ hcn (I.hok.fresh (Nat.le_refl _))⟩
variable {B : Hp} {M : Ms} {L : Ls} {a : Expr} {pos spos : Pos}
/-- sorted(set(a)), a a list of ints -/
theorem ed_sortedSet {p1 p2 : Pos} {ns ws : List Int} (hc : X.calm = true) (hm : X.mg "sorted" = none) (hms : X.mg "set" = none) (hz : ns.length < 64) (ha : ED X B M L a (.list (ns.map .int))) (h1 : ws.Pairwise (· < ·)) (h2 : ∀ k, k ∈ ws ↔ k ∈ ns)
    (hg : Gl X "sorted" := by rfl) (hgs : Gl X "set" := by rfl) (he : starEach [.Call (.Name "set" p2) [a] [] spos] X.env = (false, eval (.Call (.Name "set" p2) [a] [] spos) X.env) :: starEach [] X.env := by rfl)
    (he2 : starEach [a] X.env = (false, eval a X.env) :: starEach [] X.env := by rfl) :
    ED X B M L (.Call (.Name "sorted" p1) [.Call (.Name "set" p2) [a] [] spos] [] pos) (.list (ws.map .int)) :=
  pe_imp (pe_callB (cr_sortedSet hc) hg hm (by decide +kernel) (pa_cons (pe_callTy (cr_setLI hc) hgs hms (by decide +kernel) (pa_cons ha pa_nil he2) (by decide) (by decide) he2 rfl) pa_nil he) (by decide) (by decide) he rfl) fun σ H Q ⟨S, k⟩ => ⟨S, fun v H1 s1 g1 => by
    obtain ⟨p, xs, rfl, h3, h4⟩ := dp_lst g1
    have := dpa_ints_inv h4
    subst this
    refine ⟨p, ns, rfl, same_l msk_same h3, by omega, fun c q hcn hq => ?_⟩
    have sn : Same H1 (upd H1 q (SetO X.w q (fun j => decide (j ∈ ns)) c)) := same_new hq
    refine ⟨q, _, c, rfl, upd_same, by omega, fun ws' r h5 h6 _ hr => ?_⟩
    have e : ws' = ws := by
      refine up_one (fun x => x) ((List.perm_ext_iff_of_nodup (h5.imp fun h => by omega) (h1.imp fun h => by omega)).mpr fun x => ?_) h5 h1
      rw [h6, h2, decide_eq_true_iff]
    subst e
    have S2 := (S.same s1).same sn
    exact k _ _ ((s1.trans sn).trans (same_new hr)) (fresh_l S2 hr (dpa_ints _))⟩
end
end KX
namespace KX
open PySem PySem.Spec PyProof.Rows L2
/-! ## one spring alone -/
def lone (W : Nat → Well) (k : Nat) : Nat → Well := fun j => { lv := (W j).lv, room := 99, spr := if j = k then 1 else 0, meas := 99, rod := (W j).rod }
theorem flow_lone (W : Nat → Well) (k : Nat) : ∀ j, flow (lone W k) j = if k < j then 1 else 0
  | 0 => rfl
  | j + 1 => by
    show flow (lone W k) j + (if j = k then 1 else 0) = _
    rw [flow_lone W k j]
    by_cases h : j = k
    · rw [if_neg (by omega), if_pos h, if_pos (by omega)]; rfl
    · rw [if_neg h]
      by_cases h2 : k < j
      · rw [if_pos h2, if_pos (by omega)]; rfl
      · rw [if_neg h2, if_neg (by omega)]; rfl
theorem rods_lone {n : Nat} {W : Nat → Well} {k : Nat} (h : Rods n W) : Rods n (lone W k) := fun j hj => h j hj
theorem sprs_lone {n : Nat} {W : Nat → Well} {k : Nat} : Sprs n (lone W k) := fun j hj => by
  show 0 ≤ (if j = k then (1 : Int) else 0)
  split <;> decide
theorem easy_lone {n : Nat} {W : Nat → Well} {k : Nat} : easyB n (lone W k) = true := easyB_iff.mpr fun j hj => by
  unfold easyAt
  rw [flow_lone]
  have h1 : (if k < j + 1 then (1 : Int) else 0) ≤ 99 := by split <;> decide
  show (decide (_ ≤ (99 : Int)) && (_ || decide (_ ≤ (99 : Int)))) = true
  rw [decide_eq_true h1, Bool.or_true]; rfl
theorem tm_0 (w r : Nat) : tm 0 w r = 0 := by
  unfold tm
  split <;> rfl
theorem sumTo_one {f : Nat → Int} {k : Nat} : ∀ {n : Nat}, k < n → (∀ j, j < n → j ≠ k → f j = 0) → sumTo n f = f k
  | n + 1, hk, h => by
    show sumTo n f + f n = f k
    by_cases e : k = n
    · subst e
      rw [sumTo_zero fun j hj => h j (by omega) (by omega)]
      omega
    · rw [sumTo_one (n := n) (by omega) fun j hj hne => h j (by omega) hne, h n (by omega) (fun q => e q.symm)]
      omega
theorem out_lone {n : Nat} {W : Nat → Well} {k : Nat} (hr : Rods n W) (hk : k < n) (r : Nat) : out n (lone W k) r = tm 1 (way n W k) r := by
  rw [out_sum (by omega) (rods_lone hr)]
  have e : ∀ j, way n (lone W k) j = way n W j := fun j => way_rods (W := lone W k) (W' := W) (fun _ => rfl) j
  rw [sumTo_one (f := fun j => tm ((lone W k) j).spr (way n (lone W k) j) r) hk fun j hj hne => ?_]
  · show tm (if k = k then 1 else 0) _ r = _
    rw [if_pos rfl, e]
  · show tm (if j = k then 1 else 0) _ r = 0
    rw [if_neg hne, tm_0]
theorem done_first {t : Nat → Bool} {F : Nat → PyData} {m v : Nat} (hv : v < m) (h1 : t v = true) (h2 : ∀ r, r < v → t r = false) : atI (done t F m) 0 = some (F v) := by
  have e : ((List.range m).filter t)[0]? = some v := by
    have hmem : v ∈ (List.range m).filter t := List.mem_filter.mpr ⟨List.mem_range.mpr hv, h1⟩
    obtain ⟨i, hi⟩ := List.mem_iff_getElem?.mp hmem
    have hl : 0 < ((List.range m).filter t).length := Nat.lt_of_le_of_lt (Nat.zero_le i) (List.getElem?_eq_some_iff.mp hi).1
    obtain ⟨e0, _, t0⟩ := nthF_in hl
    by_cases h0 : i = 0
    · rw [h0] at hi; exact hi
    · have := fil_lt e0 hi (by omega)
      rw [h2 _ this] at t0
      cases t0
  refine ix_nat ?_
  unfold done
  rw [List.getElem?_map, e]
  rfl
/-! ## lots, the law's way -/
theorem way_class {n : Nat} {W : Nat → Well} {k i : Nat} (hr : Rods n W) (hk : k < n) (hi : i < n) (hl : lastK n W k = true) : way n W i = way n W k ↔ i = k ∨ (i + 1 = k ∧ eqW W i = true) := by
  constructor
  · intro e
    rcases Nat.lt_trichotomy i k with h | h | h
    · cases e1 : eqW W i with
      | false => have := way_lt hr h hk e1; omega
      | true =>
        by_cases h2 : i + 1 = k
        · exact .inr ⟨h2, rfl⟩
        · have e2 : eqW W (i + 1) = false := by
            cases e3 : eqW W (i + 1) with
            | false => rfl
            | true => rw [eqW_no2 e3] at e1; cases e1
          have := way_lt hr (k := i + 1) (j := k) (by omega) hk e2
          have h3 := way_step hr (k := i) (by omega)
          rw [e1, if_pos rfl] at h3
          omega
    · exact .inl h
    · have e1 : eqW W k = false := by
        unfold lastK at hl
        rw [Bool.or_eq_true, decide_eq_true_iff] at hl
        rcases hl with q | q
        · omega
        · simpa using q
      have := way_lt hr h hi e1
      omega
  · rintro (rfl | ⟨rfl, e⟩)
    · rfl
    · have h3 := way_step hr (k := i) (by omega)
      rw [e, if_pos rfl] at h3
      omega
theorem lot_filter {n : Nat} {W : Nat → Well} {k : Nat} (hr : Rods n W) (hk : k < n) (hl : lastK n W k = true) : done (fun i => decide (((way n W i : Nat) : Int) = ((way n W k : Nat) : Int))) (fun i => .int i) n = (lotK W k).map .int := by
  have e : (List.range n).filter (fun i => decide (((way n W i : Nat) : Int) = ((way n W k : Nat) : Int))) = if 0 < k ∧ eqW W (k - 1) = true then [k - 1, k] else [k] := by
    refine up_one (fun x : Nat => (x : Int)) ((List.perm_ext_iff_of_nodup ?_ ?_).mpr fun i => ?_) ?_ ?_
    · exact (fil_pw _ n).imp fun h => by omega
    · split
      · simp; omega
      · simp
    · rw [List.mem_filter, List.mem_range, decide_eq_true_iff]
      constructor
      · rintro ⟨h1, h2⟩
        rcases (way_class hr hk h1 hl).mp (by omega) with h | ⟨h, h'⟩
        · subst h
          split <;> simp
        · subst h
          rw [if_pos ⟨by omega, by rw [show i + 1 - 1 = i by omega]; exact h'⟩]
          simp
      · intro h
        split at h
        · rename_i c
          simp at h
          rcases h with h | h
          · exact ⟨by omega, by rw [(way_class hr hk (by omega) hl).mpr (.inr ⟨by omega, by rw [h]; exact c.2⟩)]⟩
          · subst h; exact ⟨hk, rfl⟩
        · simp at h
          subst h
          exact ⟨hk, rfl⟩
    · exact (fil_pw _ n).imp fun h => by omega
    · split
      · simp; omega
      · simp
  unfold done
  rw [e]
  unfold lotK
  split
  · simp; omega
  · simp
theorem done_nth {t : Nat → Bool} {G : Nat → PyData} {n : Nat} : done t G n = vec ((List.range n).filter t).length fun i => G (nthF t n i) := by
  apply List.ext_getElem?
  intro j
  by_cases hj : j < ((List.range n).filter t).length
  · rw [vec_get hj]
    unfold done
    rw [List.getElem?_map, (nthF_in hj).1]
    rfl
  · rw [List.getElem?_eq_none (by unfold done; rw [List.length_map]; omega), List.getElem?_eq_none (by rw [vec_len]; omega)]
def waysI (n : Nat) (W : Nat → Well) : List Int := (List.range n).map fun k => ((way n W k : Nat) : Int)
def upW (n : Nat) (W : Nat → Well) : List Int := (upL n W).map (·.1)
theorem upW_done (n : Nat) (W : Nat → Well) : (upW n W).map PyData.int = done (lastJ n W) (yW n W) n := by
  unfold upW upL done
  rw [List.map_map, List.map_map]
  rfl
theorem upW_up {n : Nat} {W : Nat → Well} (h1 : 1 ≤ n) (hr : Rods n W) : (upW n W).Pairwise (· < ·) := List.pairwise_map.mpr (upL_up h1 hr)
theorem upW_mem {n : Nat} {W : Nat → Well} (hr : Rods n W) (x : Int) : x ∈ upW n W ↔ x ∈ waysI n W := by
  constructor
  · intro h
    obtain ⟨q, hq, rfl⟩ := List.mem_map.mp h
    obtain ⟨j, hj, rfl⟩ := List.mem_map.mp hq
    have hjn := List.mem_range.mp (List.mem_filter.mp hj).1
    exact List.mem_map.mpr ⟨n - 1 - j, List.mem_range.mpr (by omega), rfl⟩
  · intro h
    obtain ⟨k, hk, rfl⟩ := List.mem_map.mp h
    have hkn := List.mem_range.mp hk
    have key : ∀ k', k' < n → lastK n W k' = true → ((way n W k' : Nat) : Int) ∈ upW n W := fun k' h1 h2 => by
      refine List.mem_map.mpr ⟨mkL n W k', List.mem_map.mpr ⟨n - 1 - k', List.mem_filter.mpr ⟨List.mem_range.mpr (by omega), ?_⟩, ?_⟩, rfl⟩
      · rw [show n - 1 - (n - 1 - k') = k' by omega]; exact h2
      · rw [show n - 1 - (n - 1 - k') = k' by omega]
    cases hl : lastK n W k with
    | true => exact key k hkn hl
    | false =>
      obtain ⟨_, h1, h2⟩ := dl_no (ln := fun _ => 0) hr hkn hl
      rw [h2]
      refine key (k + 1) h1 ?_
      unfold lastK at hl ⊢
      rw [Bool.or_eq_false_iff] at hl
      have e1 : eqW W k = true := by simpa using hl.2
      have e2 : eqW W (k + 1) = false := by
        cases e3 : eqW W (k + 1) with
        | false => rfl
        | true => rw [eqW_no2 e3] at e1; cases e1
      rw [e2, Bool.not_false, Bool.or_true]
end KX
namespace KX
open PySem PySem.Spec PyProof.Rows L2
section
variable {P : Program} {w : World} {K : PySem.W.Frag} {mg : Str → Option Value} {base : Heap}
/-! ## _law_easy -/
def rqEasy (ds : List PyData) (d : PyData) : Prop := ∃ (n : Nat) (W : Nat → Well), ds = [wsD n W] ∧ n ≤ 900 ∧ d = .bool (easyB n W)
theorem sqcEasy : FnScope ["_law_wells", "_law_flow", "_law_k", "_law_well"] ["_law_wells"] (defScope sqEasy) := ⟨rfl, rfl, rfl, by decide +kernel, rfl, by decide +kernel, by decide +kernel⟩
theorem okq_easy {f : Addr} {fd : FuncData} (F : Fun K "_law_easy" "_law_easy" sqEasy f fd) (T : Txt mg) : FnOk P w K mg base CX0 1 f fd ["_law_wells"] (spD K rqEasy) := by
  refine fn_pure F sqcEasy (fun ds d h => by obtain ⟨n, W, rfl, _⟩ := h; rfl) fun cdv A outer s H E hr B M0 D ds d hR R Rn => ?_
  obtain ⟨n, W, rfl, hn, rfl⟩ := hR
  refine tr_set (d := .int 0) 1 sqcEasy.nd ed_int ?_
  refine tr_forP 2 3 (fun _ => M0) (fun i => [some (.d (wsD n W)), some (.d (.int (flow W i))), none, none]) (fun i => ∀ k, k < i → easyAt W k = true)
    sqcEasy.nd .never rfl (ei_enum T.enumerate (ea_cons (ed_name 0 rfl) ea_nil) (.inl rfl)) (by repeat constructor) rfl (fun k hk => absurd hk (by omega)) (fun i => rfl) (fun B1 hB i hi hp => ?_) (fun hp => ?_)
  · rw [vec_len] at hi
    rw [vec_y hi]
    refine tr_set (d := .int (flow W (i + 1))) 1 sqcEasy.nd (ed_add (ed_name 1 rfl) (ed_ixT rfl (ed_name 3 rfl) ed_int)) ?_
    by_cases c1 : flow W (i + 1) ≤ (W i).meas
    · by_cases c2 : i = 0
      · refine tr_ifF (eb_w (ew_orF (eb_gt (decide_eq_false (by omega)) (ed_name 1 rfl) (ed_ixT rfl (ed_name 3 rfl) ed_int)) (ew_or1 (eb_w (ew_andF (eb_gt (decide_eq_false (by omega)) (ed_name 2 rfl) ed_int)))))) ?_
        refine tr_end (by repeat constructor) rfl fun σ H S => ⟨fun k hk => ?_, S⟩
        by_cases hki : k < i
        · exact hp k hki
        · rw [show k = i by omega]
          unfold easyAt
          rw [decide_eq_true c1, decide_eq_true c2]; rfl
      · by_cases c3 : flow W (i + 1) ≤ (W i).room
        · refine tr_ifF (eb_w (ew_orF (eb_gt (decide_eq_false (by omega)) (ed_name 1 rfl) (ed_ixT rfl (ed_name 3 rfl) ed_int)) (ew_or1 (eb_w (ew_andT (eb_gt (decide_eq_true (by omega)) (ed_name 2 rfl) ed_int) (ew_and1 (eb_gt (decide_eq_false (by omega)) (ed_name 1 rfl) (ed_ixT rfl (ed_name 3 rfl) ed_int)))))))) ?_
          refine tr_end (by repeat constructor) rfl fun σ H S => ⟨fun k hk => ?_, S⟩
          by_cases hki : k < i
          · exact hp k hki
          · rw [show k = i by omega]
            unfold easyAt
            rw [decide_eq_true c1, decide_eq_true c3, Bool.or_true]; rfl
        · refine tr_ifR (eb_w (ew_orF (eb_gt (decide_eq_false (by omega)) (ed_name 1 rfl) (ed_ixT rfl (ed_name 3 rfl) ed_int)) (ew_or1 (eb_w (ew_andT (eb_gt (decide_eq_true (by omega)) (ed_name 2 rfl) ed_int) (ew_and1 (eb_gt (decide_eq_true (by omega)) (ed_name 1 rfl) (ed_ixT rfl (ed_name 3 rfl) ed_int)))))))) ?_
          exact tr_ret ((R.re hB).ends rfl) (fun q h => h) (ed_to ed_bool (by rw [easyB_no hi (by unfold easyAt; rw [decide_eq_false c2, decide_eq_false c3, Bool.or_false, Bool.and_false])]))
    · refine tr_ifR (eb_w (ew_orT (eb_gt (decide_eq_true (by omega)) (ed_name 1 rfl) (ed_ixT rfl (ed_name 3 rfl) ed_int)))) ?_
      exact tr_ret ((R.re hB).ends rfl) (fun q h => h) (ed_to ed_bool (by rw [easyB_no hi (by unfold easyAt; rw [decide_eq_false c1, Bool.false_and])]))
  · rw [vec_len] at hp ⊢
    exact tr_ret R (fun q h => h) (ed_to ed_bool (by rw [easyB_iff.mpr hp]))
/-! ## _law_ways -/
def rqWays (ds : List PyData) (d : PyData) : Prop := ∃ (n : Nat) (W : Nat → Well), ds = [wsD n W] ∧ 1 ≤ n ∧ n ≤ 50 ∧ Rods n W ∧ d = .list ((waysI n W).map .int)
abbrev nqWays : List Str := ["_law_wells", "_law_found", "_law_k", "_law_lone", "_law_line", "_law_n", "_law_well", "_law_rest_here", "_law_out"]
theorem sqcWays : FnScope nqWays ["_law_wells"] (defScope sqWays) := ⟨rfl, rfl, rfl, by decide +kernel, rfl, by decide +kernel, by decide +kernel⟩
theorem okq_ways {f : Addr} {fd : FuncData} (F : Fun K "_law_ways" "_law_ways" sqWays f fd) (T : Txt mg) (D1 : Df P w K mg base CX0 2 "_law_play" pqPlay (spD K rqPlay)) : FnOk P w K mg base CX0 3 f fd ["_law_wells"] (spD K rqWays) := by
  refine fn_pure F sqcWays (fun ds d h => by obtain ⟨n, W, rfl, _⟩ := h; rfl) fun cdv A outer s H E hr B M0 D ds d hR R Rn => ?_
  obtain ⟨n, W, rfl, h1, hn, hrod, rfl⟩ := hR
  refine tr_own (ct := .l []) 1 sqcWays.nd (ef_lst ea_nil) fun l hl => ?_
  refine tr_forN 2 (fun i => (l, .l (vI i fun k => (way n W k : Nat))) :: M0) (fun _ => [some (.d (wsD n W)), some (.v (.ref l)), none, none, none, none, none, none, none]) (fun _ => True)
    sqcWays.nd .never rfl (ei_range (j := ((vec n fun k => wD (W k)).length : Nat)) T.range (ea_cons (ed_lenT T.len (ea_cons (ed_name 0 rfl) ea_nil)) ea_nil) (by omega) (by rw [vec_len]; omega)) (by repeat constructor) rfl trivial (fun i => rfl) (fun B1 hB i hi _ => ?_) (fun _ => ?_)
  · rw [vec_len, Int.toNat_natCast] at hi
    refine tr_set (d := wsD n (lone W i)) 3 sqcWays.nd (ed_to (ed_tupL T.tuple (ea_cons (ed_of_f (ef_lcP (n := n) (Y1 := fun j => .int j) (Y2 := fun j => wD (W j)) (F := fun j => wD (lone W i j)) (t := fun _ => true) 5 6 (by omega) rfl sqcWays.nd ?_ (by show blkC nqWays (defScope sqWays) _ _ = true; decide +kernel)
      (fun j hj B1 Mx Da acc ad s H C cl fp => pts_no) (fun j hj _ B1 Mx Da acc ad s H C cl fp => ?_))) ea_nil)) (by rw [done_vec]; rfl)) ?_
    · exact ei_to (ei_enum T.enumerate (ea_cons (ed_name 0 rfl) ea_nil) (.inl rfl)) (vec_len _ _) fun j hj => by unfold yEn; rw [vec_y hj]
    · refine ed_to (ed_tup (ea_cons (ed_ixT rfl (ed_name 6 rfl) ed_int) (ea_cons ed_int (ea_cons (ed_intB (p := decide ((j : Int) = (i : Int))) T.int (ea_cons (ed_eq rfl (ed_name 5 rfl) (ed_name 2 rfl)) ea_nil)) (ea_cons ed_int (ea_cons (ed_ixT rfl (ed_name 6 rfl) ed_int) ea_nil)))))) ?_
      unfold wD lone
      dsimp only
      congr 4
      by_cases c : j = i
      · rw [if_pos (decide_eq_true (by omega)), if_pos c]
      · rw [if_neg (by simp; omega), if_neg c]
    refine tr_set (d := .tuple (vI (2 * n + 3) (out n (lone W i)))) 4 sqcWays.nd (ed_ixT rfl (ed_call D1 hr ⟨n, lone W i, 2 * n + 3, rfl, h1, by omega, by omega, good_easy (rods_lone hrod) sprs_lone easy_lone _, rfl⟩
      (ea_cons (ed_name 3 rfl) (ea_cons ed_none (ea_cons (ed_to (ed_add (ed_mul (.inl ⟨by decide, by decide⟩) ed_int (ed_lenT T.len (ea_cons (ed_name 0 rfl) ea_nil))) ed_int) (by rw [vec_len]; congr 1)) ea_nil)))) ed_int) ?_
    have hw1 := way_ge (n := n) (W := W) hi
    have hw2 := way_le (n := n) (W := W) (k := i)
    refine tr_append (d := .int (way n W i : Nat)) 1 0 rfl (em_of (ed_ixL (done_first (t := fun r => decide (0 < out n (lone W i) r)) (F := fun r => .int r) (m := 2 * n + 3) (v := way n W i) (by omega) ?_ fun r hr' => ?_) (ed_of_f (ef_lcP (n := 2 * n + 3) (Y1 := fun r => .int r) (Y2 := fun r => .int (out n (lone W i) r)) 7 8 (by omega) rfl sqcWays.nd ?_ (by show blkC nqWays (defScope sqWays) _ _ = true; decide +kernel)
      (fun r hr' B1 Mx Da acc ad s H C cl fp => ?_) (fun r hr' _ B1 Mx Da acc ad s H C cl fp => ?_))) ed_int)) rfl ⟨0, _, rfl⟩ (by rw [vI_len]; omega) ?_
    · rw [out_lone hrod hi]
      unfold tm
      rw [if_pos ⟨Nat.le_refl _, rfl⟩]
      decide
    · rw [out_lone hrod hi, tm_late hr']
      decide
    · exact ei_to (ei_enum T.enumerate (ea_cons (ed_name 4 rfl) ea_nil) (.inl rfl)) (vI_len _ _) fun j hj => by unfold yEn; rw [vI_y hj]
    · exact pts_1 (eb_gt rfl (ed_name 8 rfl) ed_int)
    · exact ed_name 7 rfl
    exact tr_end (by repeat constructor) (by rw [vI_snoc]; rfl) fun σ H S => ⟨trivial, S⟩
  · rw [vec_len, Int.toNat_natCast]
    refine tr_freeze 1 rfl ?_
    exact tr_ret R (fun q h => h) (ed_to (ed_name 1 rfl) (by rw [vI_map]; rfl))
/-! ## _law_lots -/
def rqLots (ds : List PyData) (d : PyData) : Prop := ∃ (n : Nat) (W : Nat → Well), ds = [wsD n W] ∧ 1 ≤ n ∧ n ≤ 50 ∧ Rods n W ∧ d = .list (lotsD n W)
abbrev nqLots : List Str := ["_law_wells", "_law_ways_here", "_law_own", "_law_k", "_law_way"]
abbrev cLots : Scope := { kind := .function, names := [(".0", .local), ("_law_own", .cell), ("tuple", .globalImplicit), ("enumerate", .globalImplicit), ("_law_ways_here", .cell)], isGenerator := false, isCoroutine := false }
theorem sqcLots : FnScope nqLots ["_law_wells"] (defScope sqLots) := ⟨rfl, rfl, rfl, by decide +kernel, rfl, by decide +kernel, by decide +kernel⟩
theorem okq_lots {f : Addr} {fd : FuncData} (F : Fun K "_law_lots" "_law_lots" sqLots f fd) (T : Txt mg) (D1 : Df P w K mg base CX0 3 "_law_ways" ["_law_wells"] (spD K rqWays)) : FnOk P w K mg base CX0 4 f fd ["_law_wells"] (spD K rqLots) := by
  refine fn_pure F sqcLots (fun ds d h => by obtain ⟨n, W, rfl, _⟩ := h; rfl) fun cdv A outer s H E hr B M0 D ds d hR R Rn => ?_
  obtain ⟨n, W, rfl, h1, hn, hrod, rfl⟩ := hR
  refine tr_set (d := .list ((waysI n W).map .int)) 1 sqcLots.nd (ed_call D1 hr ⟨n, W, rfl, h1, hn, hrod, rfl⟩ (ea_cons (ed_name 0 rfl) ea_nil)) ?_
  have hlen : (waysI n W).length = n := by unfold waysI; rw [List.length_map, List.length_range]
  have hfl : ((List.range n).filter (lastJ n W)).length ≤ n := Nat.le_trans (List.length_filter_le _ _) (by rw [List.length_range]; omega)
  refine tr_ret R (fun q h => h) (ed_to (ed_of_f (ef_lcN (n := ((List.range n).filter (lastJ n W)).length) (Y := fun i => yW n W (nthF (lastJ n W) n i)) (F := fun i => .tuple [yW n W (nthF (lastJ n W) n i), yL n W (nthF (lastJ n W) n i)]) 2 (by omega) rfl sqcLots.nd ?_ (by show blkC nqLots (defScope sqLots) _ _ = true; decide +kernel) fun i hi B1 Mx Da acc ad s H C cl fp => ?_)) ?_)
  · refine ei_to (ei_lst (ed_sortedSet (ns := waysI n W) (ws := upW n W) rfl T.sorted T.set (by omega) (ed_name 1 rfl) (upW_up h1 hrod) (fun k => upW_mem hrod k))) ?_ fun i hi => ?_
    · rw [upW_done, done_nth, vec_len]
    · rw [upW_done, done_nth, vec_y hi]
  · obtain ⟨e1, l1, t1⟩ := nthF_in hi
    generalize nthF (lastJ n W) n i = j at e1 l1 t1
    refine ed_tup (ea_cons (ed_name 2 rfl) (ea_cons (ed_to (ed_tupL T.tuple (ea_cons (ed_of_f (ef_lcP (n := n) (Y1 := fun i => .int i) (Y2 := fun i => .int (way n W i : Nat)) (F := fun i => .int i) (t := fun i => decide (((way n W i : Nat) : Int) = ((way n W (n - 1 - j) : Nat) : Int))) 3 4 (by omega) rfl sqcLots.nd ?_ (by show blkC nqLots cLots _ _ = true; decide +kernel)
      (fun r hr' B1 Mx Da acc ad s H C cl fp => ?_) (fun r hr' _ B1 Mx Da acc ad s H C cl fp => ?_))) ea_nil)) ?_) ea_nil))
    · exact ei_to (ei_enum T.enumerate (ea_cons (ed_name 1 rfl) ea_nil) (.inr rfl)) (by rw [List.length_map]; exact hlen) fun j hj => by
        unfold yEn
        rw [show (waysI n W).map PyData.int = vI n (fun k => (way n W k : Nat)) from (vI_map n _).symm, vI_y hj]
    · exact pts_1 (eb_eq rfl (ed_name 4 rfl) (ed_name 2 rfl))
    · exact ed_name 3 rfl
    · rw [lot_filter hrod (by omega) t1]; rfl
  · show PyData.list (vec _ _) = _
    unfold lotsD
    rw [done_nth]
end
end KX
namespace KX
open PySem PySem.Spec PyProof.Rows L2
def unfitD : PyData := .list [.str "unfit"]
def up0 (n : Nat) (W : Nat → Well) (ln : Nat → Int) (k : Nat) : Int := if dl n W ln k > 0 then dl n W ln k else 0
def dueOk (n : Nat) (W : Nat → Well) (ln : Nat → Int) (m : Nat) : Prop := easyB n (wSp W (up0 n W ln)) = true ∧ ∀ r, r < m → out n (wSp W (up0 n W ln)) r = ln r
theorem up0_nn {n : Nat} {W : Nat → Well} {ln : Nat → Int} (k : Nat) : 0 ≤ up0 n W ln k := by
  unfold up0
  split <;> omega
theorem up0_no {n : Nat} {W : Nat → Well} {ln : Nat → Int} {k : Nat} (h : dl n W ln k = 0) : up0 n W ln k = 0 := by
  unfold up0
  rw [h]
  rfl
section
variable {P : Program} {w : World} {K : PySem.W.Frag} {mg : Str → Option Value} {base : Heap}
/-! ## _law_due -/
def rqDue (ds : List PyData) (d : PyData) : Prop := ∃ (n : Nat) (W : Nat → Well) (m : Nat) (ln : Nat → Int), ds = [wsD n W, .tuple (vI m ln)] ∧ 1 ≤ n ∧ n ≤ 50 ∧ Rods n W ∧ m ≤ 900 ∧
  ((m ≤ way n W 0 ∨ ¬ dueOk n W ln m) ∧ d = unfitD ∨ way n W 0 < m ∧ dueOk n W ln m ∧ d = .list (foundD n W (dl n W ln) n))
abbrev nqDue : List Str := ["_law_wells", "_law_line", "_law_lots_here", "_law_found", "_law_springs", "_law_ahead", "_law_way", "_law_lot", "_law_made"]
theorem sqcDue : FnScope nqDue ["_law_wells", "_law_line"] (defScope sqDue) := ⟨rfl, rfl, rfl, by decide +kernel, rfl, by decide +kernel, by decide +kernel⟩
theorem okq_due {f : Addr} {fd : FuncData} (F : Fun K "_law_due" "_law_due" sqDue f fd) (T : Txt mg) (D1 : Df P w K mg base CX0 4 "_law_lots" ["_law_wells"] (spD K rqLots)) (D2 : Df P w K mg base CX0 1 "_law_other" ["_law_wells", "_law_springs"] (spD K rqOther))
    (D3 : Df P w K mg base CX0 1 "_law_easy" ["_law_wells"] (spD K rqEasy)) (D4 : Df P w K mg base CX0 2 "_law_play" pqPlay (spD K rqPlay)) : FnOk P w K mg base CX0 5 f fd ["_law_wells", "_law_line"] (spD K rqDue) := by
  refine fn_pure F sqcDue (fun ds d h => by obtain ⟨n, W, m, ln, rfl, _⟩ := h; rfl) fun cdv A outer s H E hr B M0 D ds d hR R Rn => ?_
  obtain ⟨n, W, m, ln, rfl, h1, hn, hrod, hm, hres⟩ := hR
  have hw0 : ∀ k, k < n → way n W k ≤ way n W 0 := fun k hk => way_mono hrod (Nat.zero_le k) hk
  refine tr_dood (da := .list (lotsD n W)) (ct := .l []) (ct2 := .l (vI n fun _ => 0)) (df := .int 0) 2 3 4 5 rfl sqcDue.nd (ed_call D1 hr ⟨n, W, rfl, h1, hn, hrod, rfl⟩ (ea_cons (ed_name 0 rfl) ea_nil)) (ef_lst ea_nil) (fun p => ?_) (fun p p2 => ed_int) fun p p2 => ?_
  · have e : List.replicate (((vec n fun k => wD (W k)).length : Nat) : Int).toNat (PyData.int 0) = vI n fun _ => 0 := by
      rw [vec_len, Int.toNat_natCast]
      exact rep_vec n _
    rw [← e]
    exact ef_rep (by omega) (by rw [vec_len]; omega) (ea_cons ed_int ea_nil) (ed_lenT T.len (ea_cons (ed_name 0 rfl) ea_nil))
  obtain ⟨dlast, hlast⟩ := lots_last h1 hrod
  by_cases c0 : m ≤ way n W 0
  · have en : d = unfitD := by
      rcases hres with h | h
      · exact h.2
      · omega
    refine tr_ifR (eb_le (decide_eq_true (by rw [vI_len]; omega)) (ed_lenT T.len (ea_cons (ed_name 1 rfl) ea_nil)) (ed_ixT rfl (ed_ixL hlast (ed_name 2 rfl) (ed_neg ed_int)) ed_int)) ?_
    exact tr_ret (R.ends rfl) (fun q h => List.mem_cons_of_mem _ (List.mem_cons_of_mem _ h)) (ed_to (ed_lst (ea_cons ed_str ea_nil)) en.symm)
  refine tr_ifF (eb_le (decide_eq_false (by rw [vI_len]; omega)) (ed_lenT T.len (ea_cons (ed_name 1 rfl) ea_nil)) (ed_ixT rfl (ed_ixL hlast (ed_name 2 rfl) (ed_neg ed_int)) ed_int)) ?_
  refine tr_forD (t := lastJ n W) (n := n) (Y1 := yW n W) (Y2 := yL n W) 6 7 (fun j => (p2, .l (vI n (spJ n W (up0 n W ln) j))) :: (p, .l (foundD n W (dl n W ln) j)) :: M0)
    (fun j => [some (.d (wsD n W)), some (.d (.tuple (vI m ln))), some (.d (.list (lotsD n W))), some (.v (.ref p)), some (.v (.ref p2)), some (.d (.int (bef n W ln j))), none, none, none])
    sqcDue.nd .never rfl (ei_lst (ed_name 2 rfl)) (by repeat constructor) ?_ (fun j => rfl) (fun j hj ht => ?_) (fun B1 hB j hj ht => ?_) ?_
  · show _ :: _ :: M0 = _ :: _ :: M0
    congr 3
    exact vI_congr fun k hk => by unfold spJ; rw [if_neg (by omega)]
  · obtain ⟨g1, g2, g3⟩ := dl_no (ln := ln) hrod (k := n - 1 - j) (by omega) ht
    rw [spJ_no hj (up0_no g1), bef_no hrod hj ht, show foundD n W (dl n W ln) (j + 1) = foundD n W (dl n W ln) j from done_succ_f ht]
  · have hk : n - 1 - j < n := by omega
    have hwm : way n W (n - 1 - j) < m := by
      have := hw0 _ hk
      omega
    have hlen := @done_len (lastJ n W) (fF n W (dl n W ln)) j
    refine tr_append (d := fF n W (dl n W ln) j) 3 1 rfl (em_of (ed_to (ed_tup (ea_cons (ed_name 7 rfl) (ea_cons (ed_sub (ed_ixT (vI_at hwm) (ed_name 1 rfl) (ed_name 6 rfl)) (ed_name 5 rfl)) ea_nil))) (by unfold fF; rw [dl_bef hj]))) rfl ⟨1, _, rfl⟩ (by unfold foundD; omega) ?_
    refine tr_setL (j := ((n - 1 - j : Nat) : Int)) (n := n - 1 - j) (d := .int (up0 n W ln (n - 1 - j))) 4 0 rfl rfl (ed_to (ed_max2 rfl T.max (ea_cons ed_int (ea_cons (ed_sub (ed_ixT (vI_at hwm) (ed_name 1 rfl) (ed_name 6 rfl)) (ed_name 5 rfl)) ea_nil))) (by unfold up0; rw [dl_bef hj])) (ed_ixT (lot_last W (n - 1 - j)) (ed_name 7 rfl) (ed_neg ed_int)) (ixN_nat (by rw [vI_len]; exact hk)) ?_
    refine tr_set (d := .int (ln (way n W (n - 1 - j)))) 5 sqcDue.nd (ed_ixT (vI_at hwm) (ed_name 1 rfl) (ed_name 6 rfl)) ?_
    have eb : bef n W ln (j + 1) = ln (way n W (n - 1 - j)) := by
      unfold bef
      rw [if_neg (by omega), show n - (j + 1) = n - 1 - j by omega]
    refine tr_end (by rw [eb]; repeat constructor) ?_ fun σ H S => S
    show (p2, Ct.l ((vI n (spJ n W (up0 n W ln) j)).set (n - 1 - j) (.int (up0 n W ln (n - 1 - j))))) :: (p, Ct.l (foundD n W (dl n W ln) j ++ [fF n W (dl n W ln) j])) :: M0 = _
    rw [spJ_s hj, show foundD n W (dl n W ln) j ++ [fF n W (dl n W ln) j] = foundD n W (dl n W ln) (j + 1) from (done_succ_t ht).symm]
  rw [spJ_n]
  refine tr_freeze 4 rfl ?_
  refine tr_set (d := wsD n (wSp W (up0 n W ln))) 8 sqcDue.nd (ed_call D2 (hr.mono (by decide)) ⟨n, W, up0 n W ln, rfl, by omega, rfl⟩ (ea_cons (ed_name 0 rfl) (ea_cons (ed_name 4 rfl) ea_nil))) ?_
  cases c2 : easyB n (wSp W (up0 n W ln)) with
  | false =>
    have en : d = unfitD := by
      rcases hres with h | h
      · exact h.2
      · have := h.2.1.1
        rw [c2] at this; cases this
    refine tr_ifR (eb_w (ew_orT (eb_not' (p := false) rfl (eb_val (ed_to (ed_call D3 (hr.mono (by decide)) ⟨n, _, rfl, by omega, rfl⟩ (ea_cons (ed_name 8 rfl) ea_nil)) (by rw [c2])))))) ?_
    exact tr_ret (R.ends rfl) (fun q h => List.mem_cons_of_mem _ h) (ed_to (ed_lst (ea_cons ed_str ea_nil)) en.symm)
  | true =>
    have hG := good_easy (rods_sp hrod) (fun k hk => up0_nn k) c2 m
    by_cases c3 : ∀ r, r < m → out n (wSp W (up0 n W ln)) r = ln r
    · have en : d = .list (foundD n W (dl n W ln) n) := by
        rcases hres with h | h
        · rcases h.1 with h | h
          · omega
          · exact absurd ⟨c2, c3⟩ h
        · exact h.2.2
      refine tr_ifF (eb_w (ew_orF (eb_not' (p := true) rfl (eb_val (ed_to (ed_call D3 (hr.mono (by decide)) ⟨n, _, rfl, by omega, rfl⟩ (ea_cons (ed_name 8 rfl) ea_nil)) (by rw [c2])))) (ew_or1 (eb_neD (da := .tuple (vI m (out n (wSp W (up0 n W ln))))) (db := .tuple (vI m ln)) (p := false) hr.units (by rw [eqv_ints.mpr c3]; rfl) (by rw [vI_map]; exact shaped_ints _) (by rw [vI_map]; exact shaped_ints _)
        (ed_ixT rfl (ed_call D4 (hr.mono (by decide)) ⟨n, wSp W (up0 n W ln), m, by rw [vI_len], h1, by omega, hm, hG, rfl⟩ (ea_cons (ed_name 8 rfl) (ea_cons ed_none (ea_cons (ed_lenT T.len (ea_cons (ed_name 1 rfl) ea_nil)) ea_nil)))) ed_int) (ed_tupT T.tuple (ea_cons (ed_name 1 rfl) ea_nil)))))) ?_
      refine tr_freeze 3 rfl ?_
      exact tr_ret R (fun q h => h) (ed_to (ed_name 3 rfl) en.symm)
    · have en : d = unfitD := by
        rcases hres with h | h
        · exact h.2
        · exact absurd h.2.1.2 c3
      have hq : PyData.eqv (.tuple (vI m (out n (wSp W (up0 n W ln))))) (.tuple (vI m ln)) = false := by
        cases e : PyData.eqv (.tuple (vI m (out n (wSp W (up0 n W ln))))) (.tuple (vI m ln)) with
        | false => rfl
        | true => exact absurd (eqv_ints.mp e) c3
      refine tr_ifR (eb_w (ew_orF (eb_not' (p := true) rfl (eb_val (ed_to (ed_call D3 (hr.mono (by decide)) ⟨n, _, rfl, by omega, rfl⟩ (ea_cons (ed_name 8 rfl) ea_nil)) (by rw [c2])))) (ew_or1 (eb_neD (da := .tuple (vI m (out n (wSp W (up0 n W ln))))) (db := .tuple (vI m ln)) (p := true) hr.units (by rw [hq]; rfl) (by rw [vI_map]; exact shaped_ints _) (by rw [vI_map]; exact shaped_ints _)
        (ed_ixT rfl (ed_call D4 (hr.mono (by decide)) ⟨n, wSp W (up0 n W ln), m, by rw [vI_len], h1, by omega, hm, hG, rfl⟩ (ea_cons (ed_name 8 rfl) (ea_cons ed_none (ea_cons (ed_lenT T.len (ea_cons (ed_name 1 rfl) ea_nil)) ea_nil)))) ed_int) (ed_tupT T.tuple (ea_cons (ed_name 1 rfl) ea_nil)))))) ?_
      exact tr_ret (R.ends rfl) (fun q h => List.mem_cons_of_mem _ h) (ed_to (ed_lst (ea_cons ed_str ea_nil)) en.symm)
/-! ## _law_heard -/
def rqHeard (ds : List PyData) (d : PyData) : Prop := ∃ r, rSums ds r ∧ d = r.getD unfitD
theorem sqcHeard : FnScope ["_law_wells", "_law_line"] ["_law_wells", "_law_line"] (defScope sqHeard) := ⟨rfl, rfl, rfl, by decide +kernel, rfl, by decide +kernel, by decide +kernel⟩
theorem okq_heard {f fS C : Addr} {fd fdS : FuncData} (F : Fun K "_law_heard" "_law_heard" sqHeard f fd) (T : Txt mg) (U : UF K mg C) (hmS : mg "sums_told" = some (.ref fS)) (hkS : PySem.W.keepIn K (.ref fS) = true) (hbS : Binds K fdS ["waters", "row"] [])
    (okS : FnOk P w K mg base (L2.CX P w) 6 fS fdS ["waters", "row"] (spX K C rSums)) : FnOk P w K mg base CX0 7 f fd ["_law_wells", "_law_line"] (spD K rqHeard) := by
  refine fn_pure F sqcHeard (fun ds d h => by obtain ⟨r, ⟨x, row, n, W, m, ln, rfl, _⟩, _⟩ := h; rfl) fun cdv A outer s H E hr B M0 D ds d hR R Rn => ?_
  obtain ⟨r, hS, rfl⟩ := hR
  have hds : ∃ x row, ds = [x, row] := by
    obtain ⟨x, row, _, _, _, _, e, _⟩ := hS
    exact ⟨x, row, e⟩
  obtain ⟨x, row, rfl⟩ := hds
  refine tr_cons (Mid := fun _ _ => False) (ps_try_only (c := .ref C) (tb := fun W => tRet (tCallS (spX K C rSums) (WE W) (tPs K B M0 (startL ["_law_wells", "_law_line"] [x, row]) [x, row]))) (ts := fun _ _ _ => tRet (tP K B M0 (startL ["_law_wells", "_law_line"] [x, row]) unfitD)) (Wout := fun _ _ _ _ => False) rfl rfl ⟨rfl, by decide, Or.inl U.g⟩ takes0
    (fun W pn xe tk _ => pss_one (ps_ret (pe_callS okS hr rfl hmS hkS hbS (fun σ => passAt tk σ) (ea_cons (ed_name 0 rfl) (ea_cons (ed_name 1 rfl) ea_nil)))))
    (fun a oe cls d pn _ _ => pss_one (ps_ret (ed_lst (ea_cons ed_str ea_nil))))) tr_false fun σ H nx S k => ?_
  have ad := S.has
  refine ⟨S, fun vs H1 s1 g1 => ⟨adr M0, [x, row], r, (S.same s1).has, S.nd, hS, g1, fun d e v H' s g => ?_, fun e H' s => ⟨true, U.m, fun _ a _ => ⟨S.same (s1.trans s), fun v H2 s2 g2 => ?_⟩, fun q => nomatch q⟩⟩⟩
  · subst e
    exact R.rt v H' M0 _ σ (fun q h => h) (S.same (s1.trans s)) g
  · subst e
    exact R.rt v H2 M0 _ σ (fun q h => h) (S.same ((s1.trans s).trans s2)) g2
end
end KX
namespace KX
open PySem PySem.Spec PyProof.Rows L2
/-! ## a def that changes the list it is handed -/
def spE (K : PySem.W.Frag) (R : List PyData → List PyData → PyData → List PyData → Prop) : Sp := fun vs H Q _ => ∃ (O : List Addr) (p : Addr) (u u' ds : List PyData) (d : PyData) (ws xs : List V), vs = .ref p :: ws ∧ (∀ b ∈ O, ∃ o, H b = some o) ∧ O.Nodup ∧ p ∉ O ∧ R u ds d u' ∧
  H p = some (.lst xs) ∧ xs.length ≤ 1000 ∧ DpAll K (msk (p :: O) H) xs u ∧ DpAll K (msk (p :: O) H) ws ds ∧
  ∀ v H' xs', Same (msk (p :: O) H) (msk (p :: O) H') → (∀ b ∈ O, H' b = H b) → H' p = some (.lst xs') → xs'.length ≤ 1000 → DpAll K (msk (p :: O) H') xs' u' → Dp K (msk (p :: O) H') v d → Q v H'
def frz (O : List Addr) (H : Hp) : Ms := O.map fun b => (b, Ct.x ((H b).getD (.lst [])))
theorem adr_frz (O : List Addr) (H : Hp) : adr (frz O H) = O := by
  unfold adr frz
  rw [List.map_map]
  exact List.map_id O
section
variable {P : Program} {w : World} {K : PySem.W.Frag} {mg : Str → Option Value} {base : Heap}
def startE (N : List Str) (p : Addr) (ds : List PyData) : Ls := some (Sh.v (.ref p)) :: startL N.tail ds
theorem sta_startE {N : List Str} {O : List Addr} {H : Hp} {p : Addr} {ws xs : List V} {u ds : List PyData} (hN : N ≠ []) (hO : ∀ b ∈ O, ∃ o, H b = some o) (nd : O.Nodup) (hp : p ∉ O) (h1 : H p = some (.lst xs)) (h2 : xs.length ≤ 1000) (h3 : DpAll K (msk (p :: O) H) xs u) (h : DpAll K (msk (p :: O) H) ws ds) (hl : ds.length < N.length) :
    Sta K (msk (p :: O) H) ((p, .l u) :: frz O H) (startE N p ds) (L2.start N (.ref p :: ws)) H := by
  have ad : adr ((p, Ct.l u) :: frz O H) = p :: O := by
    show p :: adr (frz O H) = _
    rw [adr_frz]
  have hw := dpa_len h
  refine ⟨?_, fun i s e => ?_, by rw [ad]; exact List.nodup_cons.mpr ⟨hp, nd⟩, fun q hq => ?_, msk_same, fun q hq => ?_⟩
  · unfold L2.start startE startL
    simp
    omega
  · rw [ad]
    unfold startE startL at e
    unfold L2.start
    cases i with
    | zero =>
      simp at e
      subst e
      exact ⟨.ref p, by simp, rfl⟩
    | succ i =>
      rw [List.getElem?_cons_succ] at e
      by_cases hi : i < ds.length
      · rw [List.getElem?_append_left (by simpa using hi), List.getElem?_map, List.getElem?_eq_getElem hi] at e
        cases e
        obtain ⟨v, h1, h2⟩ := dpa_get h (List.getElem?_eq_getElem hi)
        refine ⟨v, ?_, h2⟩
        rw [List.getElem?_append_left (by simp; omega), List.getElem?_map, List.getElem?_cons_succ, h1]
        rfl
      · rw [List.getElem?_append_right (by simpa using hi), List.getElem?_replicate] at e
        split at e <;> cases e
  · rw [ad]
    rcases List.mem_cons.mp hq with rfl | hq
    · exact ⟨xs, h1, h2, h3⟩
    · obtain ⟨b, hb, rfl⟩ := List.mem_map.mp hq
      obtain ⟨o, ho⟩ := hO b hb
      show H b = some _
      rw [ho]
      rfl
  · have : q.1 ∈ p :: O := by
      rw [← ad]
      exact List.mem_map.mpr ⟨q, hq, rfl⟩
    exact msk_in this
theorem fn_eff {x qual : Str} {st : Stmt} {f : Addr} {fd : FuncData} {N ps : List Str} {k : Nat} {R : List PyData → List PyData → PyData → List PyData → Prop} (F : Fun K x qual st f fd) (S : FnScope N ps (defScope st)) (hl : ∀ u ds d u', R u ds d u' → ds.length + 1 = ps.length) (hN : ps.length ≤ N.length)
    (hbody : ∀ (cdv : Value) (A : Around) (outer : List Env) (s : Shared) (H : Hp) (E : XK), Room k (A.deeper (envOfC qual (defScope st) s.heap.objs.size f cdv)) → ∀ (B : Hp) (p : Addr) (M0 : Ms) (D : Ends) (u ds : List PyData) (d : PyData) (u' : List PyData), R u ds d u' → Rt K B ((p, .l u') :: M0) D d →
      Tr (cxOf CX0 P w K mg base N qual (defScope st) f cdv A outer s H E).nox (Sta K B ((p, .l u) :: M0) (startE N p ds)) (defBody st) D) : FnOk P w K mg base CX0 (k + 1) f fd ps (spE K R) := by
  refine F.ok S (fun vs H Q E h => ?_) (fun cdv A outer s H vs Q E hr h => ?_)
  · obtain ⟨O, p, u, u', ds, d, ws, xs, rfl, _, _, _, hR, _, _, _, hd, _⟩ := h
    rw [List.length_cons, dpa_len hd]
    exact hl _ _ _ _ hR
  · obtain ⟨O, p, u, u', ds, d, ws, xs, rfl, hO, nd, hp, hR, h1, h2, h3, hd, kq⟩ := h
    have hlen := hl _ _ _ _ hR
    have ad' : adr ((p, Ct.l u') :: frz O H) = p :: O := by
      show p :: adr (frz O H) = _
      rw [adr_frz]
    refine ⟨_, hbody cdv A outer s H E hr (msk (p :: O) H) p (frz O H) { nx := fun _ H' => Q .non H', rt := Q } u ds d u' hR ⟨fun v H' M L σ hs S' g => ?_⟩, sta_startE (fun e => by rw [e] at hN; have : ps.length ≤ 0 := hN; omega) hO nd hp h1 h2 h3 hd (by omega), Le.refl _⟩
    rw [ad'] at g
    obtain ⟨xs', e1, z1, g1⟩ := S'.own _ (hs _ List.mem_cons_self)
    have up : Same (msk (adr M) H') (msk (p :: O) H') := fun b o e => by
      by_cases hb : b ∈ adr M
      · rw [msk_in hb] at e; cases e
      · rw [msk_out hb] at e
        rw [msk_out (fun z => hb ?_)]
        · exact e
        · rw [← ad'] at z
          obtain ⟨q, hq, rfl⟩ := List.mem_map.mp z
          exact List.mem_map.mpr ⟨q, hs q hq, rfl⟩
    refine kq v H' xs' (fun b o e => ?_) (fun b hb => ?_) e1 z1 (dp_monos up _ _ g1) g
    · have hb : b ∉ p :: O := fun z => by rw [msk_in z] at e; cases e
      rw [msk_out hb]
      exact S'.ex _ _ e
    · have := S'.own _ (hs _ (List.mem_cons_of_mem _ (List.mem_map.mpr ⟨b, hb, rfl⟩)))
      have e : H' b = some ((H b).getD (.lst [])) := this
      obtain ⟨o, ho⟩ := hO b hb
      rw [e, ho]
      rfl
end
section
variable {X : Cx} {B : Hp} {M : Ms} {L : Ls} {a e : Expr} {es : List Expr} {d : PyData} {ds u u' : List PyData} {pos : Pos}
/-- f(urn, e, ..) -/
theorem em_callE {x f : Str} {m : Nat} {ps : List Str} {R : List PyData → List PyData → PyData → List PyData → Prop} {px pf : Pos} {p : Addr} (i : Nat) (k : Nat) (F : Df X.prog X.w X.K X.mg X.base CX0 m f ps (spE X.K R)) (hr : Room m X.A) (hL : L[i]? = some (some (.v (.ref p)))) (hM : M[k]? = some (p, Ct.l u)) (hR : R u ds d u') (ha : EA X B M L es ds)
    (hN : X.N[i]? = some x := by rfl) (hv : Vis X.env.scope x := by first | exact Or.inl rfl | exact Or.inr (Or.inl rfl) | exact Or.inr (Or.inr rfl))
    (hd : (x == ("__debug__" : Str)) = false := by decide) (hcd : (x == ("__classdict__" : Str)) = false := by decide)
    (hg : Gl X f := by rfl) (hdb : (f == ("__debug__" : Str)) = false := by decide) (he : starEach (.Name x px :: es) X.env = (false, eval (.Name x px) X.env) :: starEach es X.env := by rfl) (hpl : (backTo pos (starEach es X.env)).any (·.1) = false := by rfl) :
    EM X B M L (.Call (.Name f pf) (.Name x px :: es) [] pos) d (M.set k (p, .l u')) := by
  obtain ⟨fa, fd, hm, hk, hb, F⟩ := F.ex
  refine ⟨adr_set hM, pe_imp (pe_call F hr hg hm hk hb .nil pass0 (pa_cons (pe_var hN hv hd hcd) ha he) hdb he hpl) fun σ H Q ⟨S, kq⟩ => ?_⟩
  obtain ⟨v, h1, h2⟩ := S.loc i _ hL
  have h2' : v = .ref p := h2
  subst h2'
  refine ⟨_, h1, S, fun ws H1 s1 g1 => ?_⟩
  have S1 := S.same s1
  obtain ⟨xs, e1, z1, g2⟩ := S1.get hM
  have hmem : (p, Ct.l u) ∈ M := List.mem_of_getElem? hM
  have hkl : k < M.length := (List.getElem?_eq_some_iff.mp hM).1
  -- the others
  have nd := S1.nd
  have hsplit : ∃ O : List Addr, (adr M).Perm (p :: O) := ⟨(adr M).erase p, List.perm_cons_erase (List.mem_map.mpr ⟨_, hmem, rfl⟩)⟩
  obtain ⟨O, hO⟩ := hsplit
  have nd2 := hO.nodup_iff.mp nd
  rw [List.nodup_cons] at nd2
  have em : ∀ Hx : Hp, msk (p :: O) Hx = msk (adr M) Hx := fun Hx => by
    funext b
    by_cases hb : b ∈ adr M
    · rw [msk_in hb, msk_in (hO.mem_iff.mp hb)]
    · rw [msk_out hb, msk_out (fun z => hb (hO.mem_iff.mpr z))]
  refine ⟨O, p, u, u', ds, d, ws, xs, by rw [List.append_nil], fun b hb => ?_, nd2.2, nd2.1, hR, e1, z1, by rw [em]; exact g2, by rw [em]; exact g1, fun v H' xs' s2 hoth hp' z' g3 g4 => ?_⟩
  · exact S1.has b (hO.mem_iff.mpr (List.mem_cons_of_mem _ hb))
  · rw [em, em] at s2
    rw [em] at g3 g4
    refine kq v H' ?_ ((same_msk s1).trans s2) g4
    have ad : adr (M.set k (p, Ct.l u')) = adr M := adr_set hM
    refine ⟨S1.len, fun j t q => ?_, by rw [ad]; exact nd, fun q hq => ?_, fun b o hb => ?_, fun q hq => ?_⟩
    · rw [ad]
      obtain ⟨v, a1, a2⟩ := S1.loc j t q
      exact ⟨v, a1, sh_mono s2 a2⟩
    · rw [ad]
      obtain ⟨j, hj⟩ := List.mem_iff_getElem?.mp hq
      by_cases hkj : k = j
      · subst hkj
        rw [List.getElem?_set_self hkl] at hj
        cases hj
        exact ⟨xs', hp', z', g3⟩
      · rw [List.getElem?_set_ne hkj] at hj
        have hq' : q ∈ M := List.mem_of_getElem? hj
        have hne : q.1 ≠ p := fun e => by
          have a1 : (adr M)[j]? = some p := by
            unfold adr
            rw [List.getElem?_map, hj, ← e]
            rfl
          have a2 : (adr M)[k]? = some p := by
            unfold adr
            rw [List.getElem?_map, hM]
            rfl
          have hjl : j < (adr M).length := (List.getElem?_eq_some_iff.mp a1).1
          exact hkj ((List.getElem?_inj hjl nd).mp (a1.trans a2.symm)).symm
        have hqO : q.1 ∈ O := by
          have := hO.mem_iff.mp (List.mem_map.mpr ⟨q, hq', rfl⟩)
          rcases List.mem_cons.mp this with e | e
          · exact absurd e hne
          · exact e
        rw [hoth q.1 hqO]
        exact ct_mono s2 (S1.own q hq')
    · have hb1 := S1.ex _ _ hb
      by_cases hbm : b ∈ adr M
      · obtain ⟨q, hq, rfl⟩ := List.mem_map.mp hbm
        rw [S1.fr q hq] at hb
        cases hb
      · have := s2 b o (by rw [msk_out hbm]; exact hb1)
        rw [msk_out hbm] at this
        exact this
    · have : q.1 ∈ adr M := by
        rw [← ad]
        exact List.mem_map.mpr ⟨q, hq, rfl⟩
      obtain ⟨q', hq', e⟩ := List.mem_map.mp this
      rw [← e]
      exact S1.fr q' hq'
end
/-! ## a def that gives a new list -/
def spF (K : PySem.W.Frag) (R : List PyData → List PyData → Prop) : Sp := fun vs H Q _ => ∃ (O : List Addr) (ds us : List PyData), (∀ b ∈ O, ∃ o, H b = some o) ∧ O.Nodup ∧ R ds us ∧ DpAll K (msk O H) vs ds ∧ ∀ p H', H p = none → Same H (msk [p] H') → CtOk K (msk (p :: O) H') (H' p) (.l us) → Q (.ref p) H'
structure Rf (K : PySem.W.Frag) (B : Hp) (M0 : Ms) (D : Ends) (us : List PyData) : Prop where
  rt : ∀ p H M L σ H', (∀ q ∈ M0, q ∈ M) → Sta K B M L σ H → H p = none → Same H (msk [p] H') → CtOk K (msk (p :: adr M0) H') (H' p) (.l us) → D.rt (.ref p) H'
section
variable {P : Program} {w : World} {K : PySem.W.Frag} {mg : Str → Option Value} {base : Heap}
theorem fn_new {x qual : Str} {st : Stmt} {f : Addr} {fd : FuncData} {N ps : List Str} {k : Nat} {R : List PyData → List PyData → Prop} (F : Fun K x qual st f fd) (S : FnScope N ps (defScope st)) (hl : ∀ ds us, R ds us → ds.length = ps.length)
    (hbody : ∀ (cdv : Value) (A : Around) (outer : List Env) (s : Shared) (H : Hp) (E : XK), Room k (A.deeper (envOfC qual (defScope st) s.heap.objs.size f cdv)) → ∀ (B : Hp) (M0 : Ms) (D : Ends) (ds us : List PyData), R ds us → Rf K B M0 D us →
      Tr (cxOf CX0 P w K mg base N qual (defScope st) f cdv A outer s H E).nox (Sta K B M0 (startL N ds)) (defBody st) D) : FnOk P w K mg base CX0 (k + 1) f fd ps (spF K R) := by
  refine F.ok S (fun vs H Q E h => ?_) (fun cdv A outer s H vs Q E hr h => ?_)
  · obtain ⟨O, ds, us, _, _, hR, hd, _⟩ := h
    rw [dpa_len hd]
    exact hl ds us hR
  · obtain ⟨O, ds, us, hO, nd, hR, hd, kq⟩ := h
    refine ⟨_, hbody cdv A outer s H E hr (msk O H) (frz O H) { nx := fun _ H' => Q .non H', rt := Q } ds us hR ⟨fun p H1 M L σ H' hs S' hp s c => ?_⟩, sta_start hO nd hd, Le.refl _⟩
    have st : Same H H1 := same_end hs S'
    rw [adr_frz] at c
    exact kq p H' (back_none st hp) (st.trans s) c
end
section
variable {X : Cx} {B : Hp} {M M0 : Ms} {L : Ls} {e : Expr} {es : List Expr} {d : PyData} {ds us : List PyData} {pos : Pos} {rest : List Stmt} {D : Ends}
theorem tr_retF (R : Rf X.K B M0 D us) (hs : ∀ q ∈ M0, q ∈ M) (he : EF X B M L e (.l us)) : Tr X (Sta X.K B M L) (.Return (some e) pos :: rest) D :=
  tr_cons (Mid := fun _ _ => False) (ps_ret he) tr_false fun σ H nx S k => ⟨S, fun p H2 hp s c => R.rt p H M L σ H2 hs S hp s (ct_mono (fun b u h => by
    by_cases hb : b ∈ p :: adr M
    · rw [msk_in hb] at h; cases h
    · rw [msk_out hb] at h
      rw [msk_out (fun z => hb ?_)]
      · exact h
      · rcases List.mem_cons.mp z with z | z
        · exact List.mem_cons.mpr (.inl z)
        · obtain ⟨q, hq, rfl⟩ := List.mem_map.mp z
          exact List.mem_cons_of_mem _ (List.mem_map.mpr ⟨q, hs q hq, rfl⟩)) c)⟩
theorem ef_callF {x : Str} {k : Nat} {ps : List Str} {R : List PyData → List PyData → Prop} {px : Pos} (F : Df X.prog X.w X.K X.mg X.base CX0 k x ps (spF X.K R)) (hr : Room k X.A) (hR : R (d :: ds) us) (ha : EA X B M L (e :: es) (d :: ds))
    (hg : Gl X x := by rfl) (hdb : (x == ("__debug__" : Str)) = false := by decide) (he : starEach (e :: es) X.env = (false, eval e X.env) :: starEach es X.env := by rfl) (hpl : (backTo pos (starEach es X.env)).any (·.1) = false := by rfl) :
    EF X B M L (.Call (.Name x px) (e :: es) [] pos) (.l us) := by
  obtain ⟨f, fd, hm, hk, hb, F⟩ := F.ex
  exact pe_imp (pe_call F hr hg hm hk hb .nil pass0 ha hdb he hpl) fun σ H Q ⟨S, kq⟩ => ⟨S, fun vs H1 s1 g1 => ⟨adr M, d :: ds, us, (S.same s1).has, S.nd, hR, by rw [List.append_nil]; exact g1, fun p H2 hp s2 c => kq p H2 (back_none s1 hp) (s1.trans s2) c⟩⟩
theorem ef_to {ct ct' : Ct} (h : EF X B M L e ct) (q : ct = ct') : EF X B M L e ct' := q ▸ h
/-- a or b, a new list -/
theorem ef_or {a b : Expr} {vs : List PyData} (ha : EF X B M L a (.l us)) (hb : EF X B M L b (.l vs)) : EF X B M L (.BoolOp .Or [a, b] pos) (.l (if us = [] then vs else us)) :=
  pe_imp (pe_orT ha (pe_one hb)) fun σ H Q ⟨S, kq⟩ => ⟨S, fun p H2 hp s c => by
    obtain ⟨xs, e, z, g⟩ := id c
    have hl := dpa_len g
    have st := s.trans (msk_same (O := [p]) (H := H2))
    refine ⟨!xs.isEmpty, .inl ⟨xs, SqL.of e, rfl⟩, ?_⟩
    cases us with
    | nil =>
      have : xs = [] := List.length_eq_zero_iff.mp hl
      subst this
      exact ⟨S.same st, fun q H3 hq s3 c3 => kq q H3 (back_none st hq) (st.trans s3) (by rw [if_pos rfl]; exact c3)⟩
    | cons u us =>
      cases xs with
      | nil => cases hl
      | cons x xs => exact kq p H2 hp s (by rw [if_neg (by simp)]; exact c)⟩
end
end KX
namespace KX
open PySem PySem.Spec PyProof.Rows L2
/-! ## the urn -/
structure Urn where
  a : Int
  b : Int
  c : Int
def uD (u : Urn) : List PyData := [.int u.a, .int u.b, .int u.c]
def tkOnce (u : Urn) : Int := ((u.b + 48271 * (u.c + 1)) * (39373 + (u.c + 1))) % 2147483647
def tkFar (u : Urn) : Int := tkOnce u % 40009 + 7
def tkTwice (u : Urn) : Int := ((tkOnce u + (u.c + 1) + u.b / 1000003) * tkFar u) % 2147483629
def tkR (u : Urn) (low : Int) : Int := if u.a > 0 then u.a % low else ((tkTwice u * 48271 + tkOnce u) % 2147483587 / 64) % low
def tkU (u : Urn) (low : Int) : Urn := if u.a > 0 then ⟨u.a / low, u.b, u.c⟩ else ⟨u.a, u.b, u.c + 1⟩
theorem tkR_lt {u : Urn} {low : Int} (h : 0 < low) : 0 ≤ tkR u low ∧ tkR u low < low := by
  unfold tkR
  split
  · exact ⟨Int.emod_nonneg _ (by omega), Int.emod_lt_of_pos _ h⟩
  · exact ⟨Int.emod_nonneg _ (by omega), Int.emod_lt_of_pos _ h⟩
theorem tkU_c {u : Urn} {low : Int} : u.c ≤ (tkU u low).c ∧ (tkU u low).c ≤ u.c + 1 := by
  unfold tkU
  split
  · exact ⟨Int.le_refl _, by show u.c ≤ u.c + 1; omega⟩
  · exact ⟨by show u.c ≤ u.c + 1; omega, Int.le_refl _⟩
def cOk (u : Urn) (m : Int) : Prop := 0 ≤ u.c ∧ u.c ≤ m
theorem cOk_step {u : Urn} {low m : Int} (h : cOk u m) : cOk (tkU u low) (m + 1) := by
  have := @tkU_c u low
  unfold cOk at h ⊢
  omega
theorem cOk_le {u : Urn} {m m' : Int} (h : cOk u m) (hm : m ≤ m') : cOk u m' := ⟨h.1, Int.le_trans h.2 hm⟩
section
variable {P : Program} {w : World} {K : PySem.W.Frag} {mg : Str → Option Value} {base : Heap}
/-! ## _law_take -/
def rqTake (u ds : List PyData) (d : PyData) (u' : List PyData) : Prop := ∃ (U : Urn) (low : Int), u = uD U ∧ ds = [.int low] ∧ 0 < low ∧ low < 1000 ∧ cOk U 100000 ∧ d = .int (tkR U low) ∧ u' = uD (tkU U low)
abbrev nqTake : List Str := ["_law_urn", "_law_low_so", "_law_drawn", "_law_once", "_law_far", "_law_twice"]
abbrev pqTake : List Str := ["_law_urn", "_law_low_so"]
theorem sqcTake : FnScope nqTake pqTake (defScope sTake) := ⟨rfl, rfl, rfl, by decide +kernel, rfl, by decide +kernel, by decide +kernel⟩
theorem okq_take {f : Addr} {fd : FuncData} (F : Fun K "_law_take" "_law_take" sTake f fd) (T : Txt mg) : FnOk P w K mg base CX0 1 f fd pqTake (spE K rqTake) := by
  refine fn_eff F sqcTake (fun u ds d u' h => by obtain ⟨U, low, _, rfl, _⟩ := h; rfl) (by decide) fun cdv A outer s H E hr B p M0 D u ds d u' hR R => ?_
  obtain ⟨U, low, rfl, rfl, h1, h2, hc, rfl, rfl⟩ := hR
  have hc0 := hc.1
  have hc1 := hc.2
  by_cases c : U.a > 0
  · have e1 : tkR U low = U.a % low := if_pos c
    have e2 : tkU U low = ⟨U.a / low, U.b, U.c⟩ := if_pos c
    rw [e1, e2] at R
    refine tr_ifR (eb_gt (decide_eq_true c) (ed_ixOwn 0 0 rfl rfl ed_int rfl) ed_int) ?_
    refine tr_set (d := .int (U.a % low)) 2 sqcTake.nd (ed_mod h1 (ed_intI T.int (ea_cons (ed_ixOwn 0 0 rfl rfl ed_int rfl) ea_nil)) (ed_name 1 rfl)) ?_
    refine tr_setL (d := .int (U.a / low)) (j := 0) (n := 0) 0 0 rfl rfl (ed_fdiv ⟨h1, by omega⟩ (ed_ixOwn 0 0 rfl rfl ed_int rfl) (ed_name 1 rfl)) ed_int rfl ?_
    exact tr_ret (R.ends rfl) (fun q h => h) (ed_name 2 rfl)
  · have e1 : tkR U low = ((tkTwice U * 48271 + tkOnce U) % 2147483587 / 64) % low := if_neg c
    have e2 : tkU U low = ⟨U.a, U.b, U.c + 1⟩ := if_neg c
    rw [e1, e2] at R
    refine tr_ifF (eb_gt (decide_eq_false c) (ed_ixOwn 0 0 rfl rfl ed_int rfl) ed_int) ?_
    refine tr_setL (d := .int (U.c + 1)) (j := 2) (n := 2) 0 0 rfl rfl (ed_add (ed_ixOwn 0 0 rfl rfl ed_int rfl) ed_int) ed_int rfl ?_
    have hf : 0 ≤ tkFar U ∧ tkFar U < 50000 := by
      unfold tkFar
      have := Int.emod_nonneg (tkOnce U) (show (40009 : Int) ≠ 0 by decide)
      have := Int.emod_lt_of_pos (tkOnce U) (show (0 : Int) < 40009 by decide)
      omega
    have hp : (2 : Int) ^ 64 = 18446744073709551616 := by decide
    refine tr_set (d := .int (tkOnce U)) 3 sqcTake.nd (ed_mod (by decide) (ed_intI T.int (ea_cons (ed_mul (.inr ⟨by omega, by omega⟩) (ed_add (ed_ixOwn 0 0 rfl rfl ed_int rfl) (ed_mul (.inl ⟨by decide, by decide⟩) ed_int (ed_ixOwn 0 0 rfl rfl ed_int rfl))) (ed_add ed_int (ed_ixOwn 0 0 rfl rfl ed_int rfl))) ea_nil)) ed_int) ?_
    refine tr_set (d := .int (tkFar U)) 4 sqcTake.nd (ed_add (ed_mod (by decide) (ed_intI T.int (ea_cons (ed_name 3 rfl) ea_nil)) ed_int) ed_int) ?_
    refine tr_set (d := .int (tkTwice U)) 5 sqcTake.nd (ed_mod (by decide) (ed_intI T.int (ea_cons (ed_mul (.inr ⟨by omega, by omega⟩) (ed_add (ed_add (ed_name 3 rfl) (ed_ixOwn 0 0 rfl rfl ed_int rfl)) (ed_fdiv ⟨by decide, by decide⟩ (ed_ixOwn 0 0 rfl rfl ed_int rfl) ed_int)) (ed_name 4 rfl)) ea_nil)) ed_int) ?_
    exact tr_ret R (fun q h => h) (ed_mod h1 (ed_intI T.int (ea_cons (ed_fdiv ⟨by decide, by decide⟩ (ed_mod (by decide) (ed_intI T.int (ea_cons (ed_add (ed_mul (.inr ⟨by decide, by decide⟩) (ed_name 5 rfl) ed_int) (ed_name 3 rfl)) ea_nil)) ed_int) ed_int) ea_nil)) (ed_name 1 rfl))
/-! ## _law_box -/
def boxU (cell : Int) (k : Nat) : Urn := ⟨(if cell < 0 then -cell else cell) * (if decide ((10 : Int) ^ 18 ≤ (if cell < 0 then -cell else cell)) = true then 1 else 0), cell % 2305843009213693951 + 39373 * k + 3163086, 0⟩
def rqBox (ds us : List PyData) : Prop := ∃ (ns : List Int) (k : Nat), ds = [.list (ns.map .int), .int k] ∧ k < ns.length ∧ us = uD (boxU (ns.getD k 0) k)
theorem sqcBox : FnScope ["_law_script", "_law_k", "_law_cell"] ["_law_script", "_law_k"] (defScope sBox) := ⟨rfl, rfl, rfl, by decide +kernel, rfl, by decide +kernel, by decide +kernel⟩
theorem okq_box {f : Addr} {fd : FuncData} (F : Fun K "_law_box" "_law_box" sBox f fd) (T : Txt mg) : FnOk P w K mg base CX0 1 f fd ["_law_script", "_law_k"] (spF K rqBox) := by
  refine fn_new F sqcBox (fun ds us h => by obtain ⟨ns, k, rfl, _⟩ := h; rfl) fun cdv A outer s H E hr B M0 D ds us hR R => ?_
  obtain ⟨ns, k, rfl, hk, rfl⟩ := hR
  have hat : atI (ns.map PyData.int) (k : Int) = some (.int (ns.getD k 0)) := ix_nat (by rw [List.getElem?_map, List.getElem?_eq_getElem hk, List.getD_eq_getElem?_getD, List.getElem?_eq_getElem hk]; rfl)
  refine tr_set (d := .int (ns.getD k 0)) 2 sqcBox.nd (ed_ifT (eb_lt (decide_eq_true (by rw [List.length_map]; omega)) (ed_name 1 rfl) (ed_lenL T.len (ea_cons (ed_name 0 rfl) ea_nil))) (ed_ixL hat (ed_name 0 rfl) (ed_name 1 rfl))) ?_
  generalize ns.getD k 0 = cell at R hat ⊢
  refine tr_retF R (fun q h => h) (ef_lst (ea_cons (ed_to (ed_mul (i := if cell < 0 then -cell else cell) (j := if decide ((10 : Int) ^ 18 ≤ (if cell < 0 then -cell else cell)) then 1 else 0) (.inr ?_) (ed_abs T.abs (ea_cons (ed_name 2 rfl) ea_nil)) (ed_intB T.int (ea_cons (ed_ge rfl (ed_abs T.abs (ea_cons (ed_name 2 rfl) ea_nil)) (ed_pow ⟨by decide, by decide, by decide⟩ ed_int ed_int)) ea_nil))) ?_)
    (ea_cons (ed_to (ed_add (ed_add (ed_mod (by decide) (ed_intI T.int (ea_cons (ed_name 2 rfl) ea_nil)) ed_int) (ed_mul (.inl ⟨by decide, by decide⟩) ed_int (ed_name 1 rfl))) ed_int) rfl) (ea_cons ed_int ea_nil))) (by show (3 : Nat) ≤ 1000; decide))
  · generalize decide ((10 : Int) ^ 18 ≤ (if cell < 0 then -cell else cell)) = b
    cases b <;> decide
  · rfl
/-! ## _law_cells -/
def cAt (ns : List Int) : Nat → List Int
  | 0 => if ns.take 2 = [] then [0] else ns.take 2
  | i + 1 => (cAt ns i).set (i % 2) ((cAt ns i).getD (i % 2) 0 + (ns.drop 2).getD i 0 * ((i : Int) + 2))
def cellsF (ns : List Int) : List Int := cAt ns ((ns.drop 2).take 61).length
theorem cAt_len (ns : List Int) : ∀ i, (cAt ns i).length = (cAt ns 0).length
  | 0 => rfl
  | i + 1 => by
    show ((cAt ns i).set _ _).length = _
    rw [List.length_set, cAt_len ns i]
theorem cAt_0 (ns : List Int) : 1 ≤ (cAt ns 0).length ∧ (cAt ns 0).length ≤ 2 ∧ (2 < ns.length → (cAt ns 0).length = 2) := by
  show 1 ≤ (if ns.take 2 = [] then [0] else ns.take 2).length ∧ (if ns.take 2 = [] then [0] else ns.take 2).length ≤ 2 ∧ (2 < ns.length → (if ns.take 2 = [] then [0] else ns.take 2).length = 2)
  match ns with
  | [] => simp
  | [a] => simp
  | [a, b] => simp
  | a :: b :: c :: r => simp
def rqCells (ds : List PyData) (d : PyData) : Prop := ∃ ns : List Int, ds = [.list (ns.map .int), .int 2] ∧ ns.length ≤ 63 ∧ d = .list ((cellsF ns).map .int)
abbrev nqCells : List Str := ["_law_script", "_law_top", "_law_cells_here", "_law_k", "_law_cell", "_law_at_so"]
theorem sqcCells : FnScope nqCells ["_law_script", "_law_top"] (defScope sCells) := ⟨rfl, rfl, rfl, by decide +kernel, rfl, by decide +kernel, by decide +kernel⟩
theorem okq_cells {f : Addr} {fd : FuncData} (F : Fun K "_law_cells" "_law_cells" sCells f fd) (T : Txt mg) : FnOk P w K mg base CX0 1 f fd ["_law_script", "_law_top"] (spD K rqCells) := by
  refine fn_pure F sqcCells (fun ds d h => by obtain ⟨ns, rfl, _⟩ := h; rfl) fun cdv A outer s H E hr B M0 D ds d hR R Rn => ?_
  obtain ⟨ns, rfl, hn, rfl⟩ := hR
  have ecut : cutD (ns.map PyData.int) none (some (2 : Int)) = (ns.take 2).map .int := by
    rw [show (2 : Int) = ((2 : Nat) : Int) from rfl, cutD_take, List.map_take]
  refine tr_own (ct := .l ((cAt ns 0).map .int)) 2 sqcCells.nd ?_ fun l hl => ?_
  · refine ef_to (ef_or (us := (ns.take 2).map .int) (vs := [.int 0]) (ef_listL (by rw [List.length_map, List.length_take]; omega) T.list (ea_cons (ed_to (ed_of_f (ef_cutL (by rw [List.length_map]; omega) (ed_name 0 rfl) eo_none (eo_some (ed_name 1 rfl)))) (by rw [ecut])) ea_nil)) (ef_lst (ea_cons ed_int ea_nil))) ?_
    show Ct.l (if (ns.take 2).map PyData.int = [] then [PyData.int 0] else (ns.take 2).map .int) = Ct.l ((if ns.take 2 = [] then [0] else ns.take 2).map PyData.int)
    congr 1
    by_cases c : ns.take 2 = []
    · rw [if_pos (by rw [c]; rfl), if_pos c]; rfl
    · rw [if_neg (by simpa using c), if_neg c]
  refine tr_forP (Y1 := fun i => .int i) (Y2 := fun i => .int ((ns.drop 2).getD i 0)) (n := ((ns.drop 2).take 61).length) 3 4 (fun i => (l, .l ((cAt ns i).map .int)) :: M0) (fun _ => [some (.d (.list (ns.map .int))), some (.d (.int 2)), some (.v (.ref l)), none, none, none]) (fun _ => True)
    sqcCells.nd .never rfl ?_ (by repeat constructor) rfl trivial (fun i => rfl) (fun B1 hB i hi _ => ?_) (fun _ => ?_)
  · refine ei_to (ei_enum T.enumerate (ea_cons (ed_of_f (ef_cutL (by rw [List.length_map]; omega) (ed_name 0 rfl) (eo_some (ed_name 1 rfl)) (eo_some ed_int))) ea_nil) (.inr rfl)) ?_ fun i hi => ?_
    · unfold cutD
      rw [show (2 : Int) = ((2 : Nat) : Int) from rfl, show (63 : Int) = ((63 : Nat) : Int) from rfl, HT.sIx_nat, HT.sIx_nat, List.length_map, List.length_take, List.length_drop, List.length_take, List.length_drop, List.length_map]
      omega
    · unfold yEn
      congr 3
      refine yAt_of ?_
      unfold cutD
      rw [show (2 : Int) = ((2 : Nat) : Int) from rfl, show (63 : Int) = ((63 : Nat) : Int) from rfl, HT.sIx_nat, HT.sIx_nat, List.length_map]
      rw [List.length_take, List.length_drop] at hi
      rw [List.getElem?_take_of_lt (by omega), List.getElem?_drop, List.getElem?_map, List.getD_eq_getElem?_getD, List.getElem?_drop, show min 2 ns.length + i = 2 + i by omega, List.getElem?_eq_getElem (by omega)]
      rfl
  · have hi2 : 2 < ns.length := by
      rw [List.length_take, List.length_drop] at hi
      omega
    have hlen : (cAt ns i).length = 2 := by rw [cAt_len, (cAt_0 ns).2.2 hi2]
    have him : i % 2 < (cAt ns i).length := by rw [hlen]; omega
    have hat : ((cAt ns i).map PyData.int)[i % 2]? = some (.int ((cAt ns i).getD (i % 2) 0)) := by
      rw [List.getElem?_map, List.getD_eq_getElem?_getD, List.getElem?_eq_getElem him]
      rfl
    refine tr_set (d := .int ((i % 2 : Nat) : Int)) 5 sqcCells.nd (ed_to (ed_mod (by decide) (ed_intI T.int (ea_cons (ed_name 3 rfl) ea_nil)) (ed_name 1 rfl)) (by congr 1)) ?_
    refine tr_setL (d := .int ((cAt ns i).getD (i % 2) 0 + (ns.drop 2).getD i 0 * ((i : Int) + 2))) (j := ((i % 2 : Nat) : Int)) (n := i % 2) 2 0 rfl rfl (ed_add (ed_ixOwn 2 0 rfl rfl (ed_name 5 rfl) (ix_nat hat)) (ed_mul (.inr ⟨by omega, ?_⟩) (ed_name 4 rfl) (ed_add (ed_name 3 rfl) ed_int))) (ed_name 5 rfl) (ixN_nat (by rw [List.length_map]; exact him)) ?_
    · have hp : (2 : Int) ^ 64 = 18446744073709551616 := by decide
      rw [List.length_take] at hi
      omega
    refine tr_end (by repeat constructor) ?_ fun σ H S => ⟨trivial, S⟩
    show (l, Ct.l (((cAt ns i).map PyData.int).set (i % 2) _)) :: M0 = (l, Ct.l (((cAt ns i).set (i % 2) _).map PyData.int)) :: M0
    rw [List.map_set]
  · refine tr_freeze 2 rfl ?_
    exact tr_ret R (fun q h => h) (ed_name 2 rfl)
end
end KX
namespace KX
open PySem PySem.Spec PyProof.Rows L2
section
variable {P : Program} {w : World} {K : PySem.W.Frag} {mg : Str → Option Value} {base : Heap}
/-! ## _law_brook -/
def brookW : Nat → Well
  | 0 => ⟨5, 0, 2, 9, 1⟩
  | 1 => ⟨3, 9, 1, 9, 0⟩
  | _ => ⟨1, 9, 3, 9, 0⟩
def rqBrook (ds : List PyData) (d : PyData) : Prop := ds = [] ∧ d = wsD 3 brookW
theorem sqcBrook : FnScope [] [] (defScope sBrook) := ⟨rfl, rfl, rfl, by decide +kernel, rfl, by decide +kernel, by decide +kernel⟩
theorem okq_brook {f : Addr} {fd : FuncData} (F : Fun K "_law_brook" "_law_brook" sBrook f fd) : FnOk P w K mg base CX0 1 f fd [] (spD K rqBrook) := by
  refine fn_pure F sqcBrook (fun ds d h => by obtain ⟨rfl, _⟩ := h; rfl) fun cdv A outer s H E hr B M0 D ds d hR R Rn => ?_
  obtain ⟨rfl, rfl⟩ := hR
  refine tr_ret R (fun q h => h) (ed_to (ed_tup (ea_cons (ed_tup (ea_cons ed_int (ea_cons ed_int (ea_cons ed_int (ea_cons ed_int (ea_cons ed_int ea_nil)))))) (ea_cons (ed_tup (ea_cons ed_int (ea_cons ed_int (ea_cons ed_int (ea_cons ed_int (ea_cons ed_int ea_nil)))))) (ea_cons (ed_tup (ea_cons ed_int (ea_cons ed_int (ea_cons ed_int (ea_cons ed_int (ea_cons ed_int ea_nil)))))) ea_nil)))) rfl)
/-! ## _law_lists -/
def lstN : Nat → PyData → PyData
  | N + 1, .list ds => .list (ds.map (lstN N))
  | N + 1, .tuple ds => .list (ds.map (lstN N))
  | _, d => d
def rqLst (N : Nat) (ds : List PyData) (d : PyData) : Prop := ∃ x, ds = [x] ∧ Dep N x ∧ d = lstN N x
abbrev nqLst : List Str := ["_law_matter", "_law_own"]
theorem sqcLst : FnScope nqLst ["_law_matter"] (defScope sLists) := ⟨rfl, rfl, rfl, by decide +kernel, rfl, by decide +kernel, by decide +kernel⟩
theorem okq_lst {f : Addr} {fd : FuncData} (F : Fun K "_law_lists" "_law_lists" sLists f fd) (T : Txt mg) (hm : mg "_law_lists" = some (.ref f)) (hb : Binds K fd ["_law_matter"] []) : ∀ N : Nat, FnOk P w K mg base CX0 (N + 1) f fd ["_law_matter"] (spD K (rqLst N)) := by
  intro N
  induction N with
  | zero =>
    refine fn_pure F sqcLst (fun ds d h => by obtain ⟨x, rfl, _⟩ := h; rfl) fun cdv A outer s H E hr B M0 D ds d hR R Rn => ?_
    obtain ⟨x, rfl, hx, hd⟩ := hR
    have go : ∀ x : PyData, kitB (tyD x) "list" = some false → kitB (tyD x) "tuple" = some false → Rt K B M0 D x → Tr (cxOf CX0 P w K mg base nqLst "_law_lists" (defScope sLists) f cdv A outer s H E).nox (Sta K B M0 (startL nqLst [x])) (defBody sLists) D := fun x h1 h2 R =>
      tr_ret R (fun q h => h) (ed_ifF (eb_val (ed_isi2 T.isinstance T.list (by decide +kernel) T.tuple (by decide +kernel) (ed_name 0 rfl) rfl h1 h2 rfl)) (ed_name 0 rfl))
    cases x with
    | none => exact go _ (by decide +kernel) (by decide +kernel) (by rw [hd] at R; exact R)
    | bool b => exact go _ (by show kitB "bool" _ = _; decide +kernel) (by show kitB "bool" _ = _; decide +kernel) (by rw [hd] at R; exact R)
    | int i => exact go _ (by show kitB "int" _ = _; decide +kernel) (by show kitB "int" _ = _; decide +kernel) (by rw [hd] at R; exact R)
    | str x => exact go _ (by show kitB "str" _ = _; decide +kernel) (by show kitB "str" _ = _; decide +kernel) (by rw [hd] at R; exact R)
    | list ds => exact hx.elim
    | tuple ds => exact hx.elim
    | dict ds => exact hx.elim
  | succ N ih =>
    have D1 : Df P w K mg base CX0 (N + 1) "_law_lists" ["_law_matter"] (spD K (rqLst N)) := df_mk F hm hb ih
    refine fn_pure F sqcLst (fun ds d h => by obtain ⟨x, rfl, _⟩ := h; rfl) fun cdv A outer s H E hr B M0 D ds d hR R Rn => ?_
    obtain ⟨x, rfl, hx, hd⟩ := hR
    have go : ∀ x : PyData, kitB (tyD x) "list" = some false → kitB (tyD x) "tuple" = some false → Rt K B M0 D x → Tr (cxOf CX0 P w K mg base nqLst "_law_lists" (defScope sLists) f cdv A outer s H E).nox (Sta K B M0 (startL nqLst [x])) (defBody sLists) D := fun x h1 h2 R =>
      tr_ret R (fun q h => h) (ed_ifF (eb_val (ed_isi2 T.isinstance T.list (by decide +kernel) T.tuple (by decide +kernel) (ed_name 0 rfl) rfl h1 h2 rfl)) (ed_name 0 rfl))
    have go2 : ∀ (x : PyData) (ds : List PyData) (p q : Bool), (p || q) = true → kitB (tyD x) "list" = some p → kitB (tyD x) "tuple" = some q → (x = .tuple ds ∨ x = .list ds) → ds.length ≤ 900 → (∀ y ∈ ds, Dep N y) → Rt K B M0 D (.list (ds.map (lstN N))) →
        Tr (cxOf CX0 P w K mg base nqLst "_law_lists" (defScope sLists) f cdv A outer s H E).nox (Sta K B M0 (startL nqLst [x])) (defBody sLists) D := fun x ds p q hpq h1 h2 hx hz hd R => by
      have e : ds.map (lstN N) = (List.range ds.length).map fun i => lstN N (yAt ds i) := by
        conv => lhs; rw [list_vec ds]
        exact vec_map _ _ _
      rw [e] at R
      rcases hx with rfl | rfl
      · refine tr_ret R (fun q h => h) (ed_ifT (eb_val (ed_isi2 T.isinstance T.list (by decide +kernel) T.tuple (by decide +kernel) (ed_name 0 rfl) rfl h1 h2 hpq)) (ed_of_f ?_))
        refine ef_lcN 1 (by omega : ds.length ≤ 1000) rfl sqcLst.nd (ei_tup (ed_name 0 rfl)) (by show blkC nqLst (defScope sLists) _ _ = true; decide +kernel) fun i hi B1 Mx Da acc ad s H C cl fp => ?_
        exact ed_call D1 hr ⟨_, rfl, hd _ (yAt_mem hi), rfl⟩ (ea_cons (ed_name 1 rfl) ea_nil)
      · refine tr_ret R (fun q h => h) (ed_ifT (eb_val (ed_isi2 T.isinstance T.list (by decide +kernel) T.tuple (by decide +kernel) (ed_name 0 rfl) rfl h1 h2 hpq)) (ed_of_f ?_))
        refine ef_lcN 1 (by omega : ds.length ≤ 1000) rfl sqcLst.nd (ei_lst (ed_name 0 rfl)) (by show blkC nqLst (defScope sLists) _ _ = true; decide +kernel) fun i hi B1 Mx Da acc ad s H C cl fp => ?_
        exact ed_call D1 hr ⟨_, rfl, hd _ (yAt_mem hi), rfl⟩ (ea_cons (ed_name 1 rfl) ea_nil)
    cases x with
    | none => exact go _ (by decide +kernel) (by decide +kernel) (by rw [hd] at R; exact R)
    | bool b => exact go _ (by show kitB "bool" _ = _; decide +kernel) (by show kitB "bool" _ = _; decide +kernel) (by rw [hd] at R; exact R)
    | int i => exact go _ (by show kitB "int" _ = _; decide +kernel) (by show kitB "int" _ = _; decide +kernel) (by rw [hd] at R; exact R)
    | str x => exact go _ (by show kitB "str" _ = _; decide +kernel) (by show kitB "str" _ = _; decide +kernel) (by rw [hd] at R; exact R)
    | list ds => exact go2 _ ds true false rfl (by show kitB "list" _ = _; decide +kernel) (by show kitB "list" _ = _; decide +kernel) (.inr rfl) hx.1 hx.2 (by rw [hd] at R; exact R)
    | tuple ds => exact go2 _ ds false true rfl (by show kitB "tuple" _ = _; decide +kernel) (by show kitB "tuple" _ = _; decide +kernel) (.inl rfl) hx.1 hx.2 (by rw [hd] at R; exact R)
    | dict ds => exact hx.elim
/-! ## _law_same -/
def rqSame (N : Nat) (ds : List PyData) (d : PyData) : Prop := ∃ x, ds = [x, x] ∧ Dep N x ∧ d = .bool true
abbrev nqSame : List Str := ["_law_got", "_law_goal", "_law_mine_so", "_law_own"]
abbrev pqSame : List Str := ["_law_got", "_law_goal"]
theorem sqcSame : FnScope nqSame pqSame (defScope sSame) := ⟨rfl, rfl, rfl, by decide +kernel, rfl, by decide +kernel, by decide +kernel⟩
theorem okq_same {f : Addr} {fd : FuncData} (F : Fun K "_law_same" "_law_same" sSame f fd) (T : Txt mg) (hm : mg "_law_same" = some (.ref f)) (hb : Binds K fd pqSame []) : ∀ N : Nat, FnOk P w K mg base CX0 (N + 1) f fd pqSame (spD K (rqSame N)) := by
  intro N
  -- what is no list and no tuple
  have goI : ∀ (cdv : Value) (A : Around) (outer : List Env) (s : Shared) (H : Hp) (E : XK) (n : Nat), Room n (A.deeper (envOfC "_law_same" (defScope sSame) s.heap.objs.size f cdv)) → ∀ (B : Hp) (M0 : Ms) (D : Ends) (i : Int), Rt K B M0 D (.bool true) →
      Tr (cxOf CX0 P w K mg base nqSame "_law_same" (defScope sSame) f cdv A outer s H E).nox (Sta K B M0 (startL nqSame [.int i, .int i])) (defBody sSame) D := fun cdv A outer s H E n hr B M0 D i R => by
    refine tr_ifF (eb_val (ed_isi2 (Tn := "list") (Un := "tuple") T.isinstance T.list (by decide +kernel) T.tuple (by decide +kernel) (ed_name 1 rfl) (t := "int") (q1 := false) (q2 := false) rfl (by decide +kernel) (by decide +kernel) rfl)) ?_
    refine tr_ifF (eb_w (ew_orF (eb_isN (d := .int i) rfl (ed_name 1 rfl)) (ew_or1 (eb_val (ed_isi2 (Tn := "bool") (Un := "str") T.isinstance T.bool (by decide +kernel) T.str (by decide +kernel) (ed_name 1 rfl) (t := "int") (q1 := false) (q2 := false) rfl (by decide +kernel) (by decide +kernel) rfl))))) ?_
    exact tr_ret R (fun q h => h) (ed_andT (ed_isi (Tn := "int") T.isinstance T.int (by decide +kernel) (ed_name 0 rfl) (t := "int") rfl (by decide +kernel)) (ed_andT (ed_to (ed_not (ed_isi (Tn := "bool") T.isinstance T.bool (by decide +kernel) (ed_name 0 rfl) (t := "int") (p := false) rfl (by decide +kernel))) rfl) (ed_one (ed_eq (decide_eq_true rfl) (ed_name 0 rfl) (ed_name 1 rfl)))))
  have goX : ∀ (cdv : Value) (A : Around) (outer : List Env) (s : Shared) (H : Hp) (E : XK) (n : Nat), Room n (A.deeper (envOfC "_law_same" (defScope sSame) s.heap.objs.size f cdv)) → ∀ (B : Hp) (M0 : Ms) (D : Ends) (x : PyData) (p b s' : Bool), kitB (tyD x) "list" = some false → kitB (tyD x) "tuple" = some false → isNn x = p → kitB (tyD x) "bool" = some b → kitB (tyD x) "str" = some s' → (p || (b || s')) = true →
      PyData.eqv x x = true → SeqAt.shaped x = true → Rt K B M0 D (.bool true) →
      Tr (cxOf CX0 P w K mg base nqSame "_law_same" (defScope sSame) f cdv A outer s H E).nox (Sta K B M0 (startL nqSame [x, x])) (defBody sSame) D := fun cdv A outer s H E n hr B M0 D x p b s' h1 h2 h3 h4 h5 h6 he hs R => by
    refine tr_ifF (eb_val (ed_isi2 T.isinstance T.list (by decide +kernel) T.tuple (by decide +kernel) (ed_name 1 rfl) rfl h1 h2 rfl)) ?_
    have hb : Tr (cxOf CX0 P w K mg base nqSame "_law_same" (defScope sSame) f cdv A outer s H E).nox (Sta K B M0 (startL nqSame [x, x])) ((defBody sSame).drop 1) D := by
      cases p with
      | true =>
        refine tr_ifR (eb_w (ew_orT (eb_isN h3 (ed_name 1 rfl)))) ?_
        exact tr_ret (R.ends rfl) (fun q h => h) (ed_andT (ed_eqD hr.units he hs hs (ed_name 0 rfl) (ed_name 1 rfl)) (ed_andT (ed_eqB (by rw [beq_self_eq_true]) (ed_isi T.isinstance T.bool (by decide +kernel) (ed_name 0 rfl) rfl h4) (ed_isi T.isinstance T.bool (by decide +kernel) (ed_name 1 rfl) rfl h4)) (ed_one (ed_eqB rfl (ed_isN h3 (ed_name 0 rfl)) (ed_isN h3 (ed_name 1 rfl))))))
      | false =>
        refine tr_ifR (eb_w (ew_orF (eb_isN h3 (ed_name 1 rfl)) (ew_or1 (eb_val (ed_isi2 T.isinstance T.bool (by decide +kernel) T.str (by decide +kernel) (ed_name 1 rfl) rfl h4 h5 (by simpa using h6)))))) ?_
        exact tr_ret (R.ends rfl) (fun q h => h) (ed_andT (ed_eqD hr.units he hs hs (ed_name 0 rfl) (ed_name 1 rfl)) (ed_andT (ed_eqB (by rw [beq_self_eq_true]) (ed_isi T.isinstance T.bool (by decide +kernel) (ed_name 0 rfl) rfl h4) (ed_isi T.isinstance T.bool (by decide +kernel) (ed_name 1 rfl) rfl h4)) (ed_one (ed_eqB rfl (ed_isN h3 (ed_name 0 rfl)) (ed_isN h3 (ed_name 1 rfl))))))
    exact hb
  induction N with
  | zero =>
    refine fn_pure F sqcSame (fun ds d h => by obtain ⟨x, rfl, _⟩ := h; rfl) fun cdv A outer s H E hr B M0 D ds d hR R Rn => ?_
    obtain ⟨x, rfl, hx, rfl⟩ := hR
    cases x with
    | none => exact goX cdv A outer s H E 0 hr B M0 D _ true false false (by decide +kernel) (by decide +kernel) rfl (by decide +kernel) (by decide +kernel) rfl rfl rfl R
    | bool b => exact goX cdv A outer s H E 0 hr B M0 D _ false true false (by show kitB "bool" _ = _; decide +kernel) (by show kitB "bool" _ = _; decide +kernel) rfl (by show kitB "bool" _ = _; decide +kernel) (by show kitB "bool" _ = _; decide +kernel) rfl (by simp [PyData.eqv]) rfl R
    | int i => exact goI cdv A outer s H E 0 hr B M0 D i R
    | str x => exact goX cdv A outer s H E 0 hr B M0 D _ false false true (by show kitB "str" _ = _; decide +kernel) (by show kitB "str" _ = _; decide +kernel) rfl (by show kitB "str" _ = _; decide +kernel) (by show kitB "str" _ = _; decide +kernel) rfl (by simp [PyData.eqv]) hx R
    | list ds => exact hx.elim
    | tuple ds => exact hx.elim
    | dict ds => exact hx.elim
  | succ N ih =>
    have D1 : Df P w K mg base CX0 (N + 1) "_law_same" pqSame (spD K (rqSame N)) := df_mk F hm hb ih
    refine fn_pure F sqcSame (fun ds d h => by obtain ⟨x, rfl, _⟩ := h; rfl) fun cdv A outer s H E hr B M0 D ds d hR R Rn => ?_
    obtain ⟨x, rfl, hx, rfl⟩ := hR
    have go2 : ∀ (x : PyData) (ds : List PyData) (p q : Bool), (p || q) = true → kitB (tyD x) "list" = some p → kitB (tyD x) "tuple" = some q → (x = .tuple ds ∨ x = .list ds) → ds.length ≤ 900 → (∀ y ∈ ds, Dep N y) →
        Tr (cxOf CX0 P w K mg base nqSame "_law_same" (defScope sSame) f cdv A outer s H E).nox (Sta K B M0 (startL nqSame [x, x])) (defBody sSame) D := fun x ds p q hpq h1 h2 hx hz hd => by
      refine tr_ifR (eb_val (ed_isi2 T.isinstance T.list (by decide +kernel) T.tuple (by decide +kernel) (ed_name 1 rfl) rfl h1 h2 hpq)) ?_
      refine tr_ifF (eb_w (ew_orF (eb_neB (by rw [beq_self_eq_true]; rfl) (ed_isi T.isinstance T.list (by decide +kernel) (ed_name 0 rfl) rfl h1) (ed_isi T.isinstance T.list (by decide +kernel) (ed_name 1 rfl) rfl h1)) (ew_or1 (eb_neB (by rw [beq_self_eq_true]; rfl) (ed_isi T.isinstance T.tuple (by decide +kernel) (ed_name 0 rfl) rfl h2) (ed_isi T.isinstance T.tuple (by decide +kernel) (ed_name 1 rfl) rfl h2))))) ?_
      have eall : (List.replicate ds.length true).all id = true := by simp
      rcases hx with rfl | rfl
      · refine tr_ret (R.ends rfl) (fun q h => h) (ed_andT (ed_eq (decide_eq_true rfl) (ed_lenT T.len (ea_cons (ed_name 0 rfl) ea_nil)) (ed_lenT T.len (ea_cons (ed_name 1 rfl) ea_nil))) (ed_one (ed_to (ed_all (bs := List.replicate ds.length true) rfl T.all (ea_cons (ed_to (ed_of_f (ef_lcP (n := ds.length) (Y1 := yAt ds) (Y2 := yAt ds) (F := fun _ => .bool true) (t := fun _ => true) 2 3 (by omega) rfl sqcSame.nd ?_ (by show blkC nqSame (defScope sSame) _ _ = true; decide +kernel)
          (fun i hi B1 Mx Da acc ad s H C cl fp => pts_no) (fun i hi _ B1 Mx Da acc ad s H C cl fp => ?_))) (by rw [done_vec, ← rep_vec, List.map_replicate])) ea_nil)) (by rw [eall]))))
        · exact ei_to (ei_zip T.zip (ea_cons (ed_name 0 rfl) (ea_cons (ed_name 1 rfl) ea_nil)) (.inl rfl) (.inl rfl)) (by omega) fun i hi => rfl
        · exact ed_call D1 hr ⟨_, rfl, hd _ (yAt_mem hi), rfl⟩ (ea_cons (ed_name 2 rfl) (ea_cons (ed_name 3 rfl) ea_nil))
      · refine tr_ret (R.ends rfl) (fun q h => h) (ed_andT (ed_eq (decide_eq_true rfl) (ed_lenL T.len (ea_cons (ed_name 0 rfl) ea_nil)) (ed_lenL T.len (ea_cons (ed_name 1 rfl) ea_nil))) (ed_one (ed_to (ed_all (bs := List.replicate ds.length true) rfl T.all (ea_cons (ed_to (ed_of_f (ef_lcP (n := ds.length) (Y1 := yAt ds) (Y2 := yAt ds) (F := fun _ => .bool true) (t := fun _ => true) 2 3 (by omega) rfl sqcSame.nd ?_ (by show blkC nqSame (defScope sSame) _ _ = true; decide +kernel)
          (fun i hi B1 Mx Da acc ad s H C cl fp => pts_no) (fun i hi _ B1 Mx Da acc ad s H C cl fp => ?_))) (by rw [done_vec, ← rep_vec, List.map_replicate])) ea_nil)) (by rw [eall]))))
        · exact ei_to (ei_zip T.zip (ea_cons (ed_name 0 rfl) (ea_cons (ed_name 1 rfl) ea_nil)) (.inr rfl) (.inr rfl)) (by omega) fun i hi => rfl
        · exact ed_call D1 hr ⟨_, rfl, hd _ (yAt_mem hi), rfl⟩ (ea_cons (ed_name 2 rfl) (ea_cons (ed_name 3 rfl) ea_nil))
    cases x with
    | none => exact goX cdv A outer s H E (N + 1) hr B M0 D _ true false false (by decide +kernel) (by decide +kernel) rfl (by decide +kernel) (by decide +kernel) rfl rfl rfl R
    | bool b => exact goX cdv A outer s H E (N + 1) hr B M0 D _ false true false (by show kitB "bool" _ = _; decide +kernel) (by show kitB "bool" _ = _; decide +kernel) rfl (by show kitB "bool" _ = _; decide +kernel) (by show kitB "bool" _ = _; decide +kernel) rfl (by simp [PyData.eqv]) rfl R
    | int i => exact goI cdv A outer s H E (N + 1) hr B M0 D i R
    | str x => exact goX cdv A outer s H E (N + 1) hr B M0 D _ false false true (by show kitB "str" _ = _; decide +kernel) (by show kitB "str" _ = _; decide +kernel) rfl (by show kitB "str" _ = _; decide +kernel) (by show kitB "str" _ = _; decide +kernel) rfl (by simp [PyData.eqv]) hx R
    | list ds => exact go2 _ ds true false rfl (by show kitB "list" _ = _; decide +kernel) (by show kitB "list" _ = _; decide +kernel) (.inr rfl) hx.1 hx.2
    | tuple ds => exact go2 _ ds false true rfl (by show kitB "tuple" _ = _; decide +kernel) (by show kitB "tuple" _ = _; decide +kernel) (.inl rfl) hx.1 hx.2
    | dict ds => exact hx.elim
end
end KX
namespace KX
open PySem PySem.Spec PyProof.Rows L2
/-! ## wells drawn from the urn -/
def mU (u : Urn) : Nat → Urn
  | 0 => u
  | i + 1 => tkU (tkU (tkU (tkU (mU u i) 4) 4) 4) 2
def mS (u : Urn) (i : Nat) : Int := tkR (mU u i) 4
def mR (u : Urn) (i : Nat) : Int := tkR (tkU (mU u i) 4) 4
def mM (u : Urn) (i : Nat) : Int := tkR (tkU (tkU (mU u i) 4) 4) 4
def mO (u : Urn) (i : Nat) : Int := tkR (tkU (tkU (tkU (mU u i) 4) 4) 4) 2
def mF (u : Urn) : Nat → Int
  | 0 => 0
  | i + 1 => mF u i + mS u i
def mW (u : Urn) (n : Nat) (i : Nat) : Well := ⟨(n : Int) + 1 - i, (mF u (i + 1) + mR u i) * (if decide ((0 : Int) < (i : Int)) = true then 1 else 0), mS u i, if mF u (i + 1) + mM u i > 1 then mF u (i + 1) + mM u i else 1, mO u i⟩
theorem mU_c {u : Urn} {m : Int} (h : cOk u m) : ∀ i : Nat, cOk (mU u i) (m + 4 * i)
  | 0 => by
    have : m + 4 * ((0 : Nat) : Int) = m := by omega
    rw [this]; exact h
  | i + 1 => by
    have := cOk_step (low := 2) (cOk_step (low := 4) (cOk_step (low := 4) (cOk_step (low := 4) (mU_c h i))))
    exact cOk_le this (by omega)
theorem mF_flow (u : Urn) (n : Nat) : ∀ i, flow (mW u n) i = mF u i
  | 0 => rfl
  | i + 1 => by
    show flow (mW u n) i + mS u i = mF u i + mS u i
    rw [mF_flow u n i]
theorem mild_rods (u : Urn) (n : Nat) : Rods n (mW u n) := fun k _ => by
  have := tkR_lt (u := tkU (tkU (tkU (mU u k) 4) 4) 4) (low := 2) (by decide)
  show tkR _ 2 = 0 ∨ tkR _ 2 = 1
  omega
theorem mild_sprs (u : Urn) (n : Nat) : Sprs n (mW u n) := fun k _ => (tkR_lt (u := mU u k) (low := 4) (by decide)).1
theorem mild_easy (u : Urn) (n : Nat) : easyB n (mW u n) = true := easyB_iff.mpr fun k _ => by
  have hm := (tkR_lt (u := tkU (tkU (mU u k) 4) 4) (low := 4) (by decide)).1
  have hr := (tkR_lt (u := tkU (mU u k) 4) (low := 4) (by decide)).1
  have h1 : flow (mW u n) (k + 1) ≤ (mW u n k).meas := by
    rw [mF_flow]
    show mF u (k + 1) ≤ if mF u (k + 1) + tkR _ 4 > 1 then mF u (k + 1) + tkR _ 4 else 1
    split <;> omega
  unfold easyAt
  rw [decide_eq_true h1, Bool.true_and, Bool.or_eq_true]
  by_cases hk : k = 0
  · exact .inl (decide_eq_true hk)
  · refine .inr (decide_eq_true ?_)
    rw [mF_flow]
    show mF u (k + 1) ≤ (mF u (k + 1) + tkR _ 4) * (if decide ((0 : Int) < (k : Int)) = true then 1 else 0)
    rw [if_pos (decide_eq_true (by omega)), Int.mul_one]
    omega
section
variable {P : Program} {w : World} {K : PySem.W.Frag} {mg : Str → Option Value} {base : Heap}
/-! ## _law_mild -/
def rqMild (u ds : List PyData) (d : PyData) (u' : List PyData) : Prop := ∃ (U : Urn) (n : Nat), u = uD U ∧ ds = [.int n] ∧ n ≤ 50 ∧ cOk U 1000 ∧ d = wsD n (mW U n) ∧ u' = uD (mU U n)
abbrev nqMild : List Str := ["_law_urn", "_law_many", "_law_found", "_law_flow", "_law_k", "_law_spring", "_law_room", "_law_more"]
theorem sqcMild : FnScope nqMild ["_law_urn", "_law_many"] (defScope sqMild) := ⟨rfl, rfl, rfl, by decide +kernel, rfl, by decide +kernel, by decide +kernel⟩
theorem okq_mild {f : Addr} {fd : FuncData} (F : Fun K "_law_mild" "_law_mild" sqMild f fd) (T : Txt mg) (D1 : Df P w K mg base CX0 1 "_law_take" pqTake (spE K rqTake)) : FnOk P w K mg base CX0 2 f fd ["_law_urn", "_law_many"] (spE K rqMild) := by
  refine fn_eff F sqcMild (fun u ds d u' h => by obtain ⟨U, n, _, rfl, _⟩ := h; rfl) (by decide) fun cdv A outer s H E hr B p M0 D u ds d u' hR R => ?_
  obtain ⟨U, n, rfl, rfl, hn, hc, rfl, rfl⟩ := hR
  refine tr_od (ct := .l []) (db := .int 0) 2 3 rfl sqcMild.nd (ef_lst ea_nil) (fun l => ed_int) fun l hl => ?_
  refine tr_forN 4 (fun i => (l, .l (vec i fun k => wD (mW U n k))) :: (p, .l (uD (mU U i))) :: M0) (fun i => [some (.v (.ref p)), some (.d (.int n)), some (.v (.ref l)), some (.d (.int (mF U i))), none, none, none, none]) (fun _ => True)
    sqcMild.nd .never rfl (ei_range (j := n) T.range (ea_cons (ed_name 1 rfl) ea_nil) (by omega) (by omega)) (by repeat constructor) rfl trivial (fun i => rfl) (fun B1 hB i hi _ => ?_) (fun _ => ?_)
  · rw [Int.toNat_natCast] at hi
    have c0 := cOk_le (mU_c hc i) (show (1000 : Int) + 4 * i ≤ 2000 by omega)
    have c1 := cOk_step (low := 4) c0
    have c2 := cOk_step (low := 4) c1
    have c3 := cOk_step (low := 4) c2
    refine tr_setM (d := .int (mS U i)) (M' := (l, .l (vec i fun k => wD (mW U n k))) :: (p, .l (uD (tkU (mU U i) 4))) :: M0) 5 sqcMild.nd (em_callE 0 1 D1 hr rfl rfl ⟨mU U i, 4, rfl, rfl, by decide, by decide, cOk_le c0 (by omega), rfl, rfl⟩ (ea_cons ed_int ea_nil)) ?_
    refine tr_set (d := .int (mF U (i + 1))) 3 sqcMild.nd (ed_add (ed_name 3 rfl) (ed_name 5 rfl)) ?_
    refine tr_mm (da := .int (mF U (i + 1) + mR U i)) (db := .int (mM U i)) (M' := (l, .l (vec i fun k => wD (mW U n k))) :: (p, .l (uD (tkU (tkU (mU U i) 4) 4))) :: M0) (M2 := (l, .l (vec i fun k => wD (mW U n k))) :: (p, .l (uD (tkU (tkU (tkU (mU U i) 4) 4) 4))) :: M0) 6 7 rfl sqcMild.nd
      (em_add (em_of (ed_name 3 rfl)) (em_callE 0 1 D1 hr rfl rfl ⟨tkU (mU U i) 4, 4, rfl, rfl, by decide, by decide, cOk_le c1 (by omega), rfl, rfl⟩ (ea_cons ed_int ea_nil)))
      (em_callE 0 1 D1 hr rfl rfl ⟨tkU (tkU (mU U i) 4) 4, 4, rfl, rfl, by decide, by decide, cOk_le c2 (by omega), rfl, rfl⟩ (ea_cons ed_int ea_nil)) ?_
    refine tr_append (d := wD (mW U n i)) (M' := (l, .l (vec i fun k => wD (mW U n k))) :: (p, .l (uD (mU U (i + 1)))) :: M0) 2 0 rfl (em_tup (ema_cons (em_of (ed_sub (ed_add (ed_name 1 rfl) ed_int) (ed_name 4 rfl)))
      (ema_cons (em_of (ed_mul (.inr ?_) (ed_name 6 rfl) (ed_intB T.int (ea_cons (ed_gt rfl (ed_name 4 rfl) ed_int) ea_nil))))
      (ema_cons (em_of (ed_name 5 rfl)) (ema_cons (em_of (ed_max2 rfl T.max (ea_cons ed_int (ea_cons (ed_add (ed_name 3 rfl) (ed_name 7 rfl)) ea_nil))))
      (ema_cons (em_callE 0 1 D1 hr rfl rfl ⟨tkU (tkU (tkU (mU U i) 4) 4) 4, 2, rfl, rfl, by decide, by decide, cOk_le c3 (by omega), rfl, rfl⟩ (ea_cons ed_int ea_nil)) ema_nil)))))) rfl ⟨0, _, rfl⟩ (by rw [vec_len]; omega) ?_
    · generalize decide ((0 : Int) < (i : Int)) = b
      cases b <;> decide
    exact tr_end (by repeat constructor) (by show (l, Ct.l (vec i (fun k => wD (mW U n k)) ++ [wD (mW U n i)])) :: _ = _; rw [vec_snoc]) fun σ H S => ⟨trivial, S⟩
  · rw [Int.toNat_natCast]
    refine tr_freeze 2 rfl ?_
    exact tr_ret R (fun q h => h) (ed_tupL T.tuple (ea_cons (ed_name 2 rfl) ea_nil))
end
end KX
namespace KX
open PySem PySem.Spec PyProof.Rows L2
/-! ## heard is due -/
theorem flow_sp {W : Nat → Well} {s s' : Nat → Int} : ∀ k, (∀ j, j < k → s j = s' j) → flow (wSp W s) k = flow (wSp W s') k
  | 0, _ => rfl
  | k + 1, h => by
    show flow (wSp W s) k + s k = flow (wSp W s') k + s' k
    rw [flow_sp k fun j hj => h j (by omega), h k (by omega)]
theorem easy_sp {n : Nat} {W : Nat → Well} {s s' : Nat → Int} (h : ∀ k, k < n → s k = s' k) (he : easyB n (wSp W s) = true) : easyB n (wSp W s') = true := easyB_iff.mpr fun k hk => by
  have := easyB_iff.mp he k hk
  unfold easyAt at this ⊢
  rw [← flow_sp (k + 1) fun j hj => h j (by omega)]
  exact this
theorem out_sp {n : Nat} {W : Nat → Well} {s : Nat → Int} (h1 : 1 ≤ n) (hr : Rods n W) (r : Nat) : out n (wSp W s) r = sumTo n fun k => tm (s k) (way n W k) r := by
  rw [out_sum h1 (rods_sp hr)]
  exact sumTo_congr fun k _ => by rw [way_sp]; rfl
theorem tm_mono {s : Int} {w r r' : Nat} (hs : 0 ≤ s) (h : r ≤ r') (hp : r % 2 = r' % 2) : tm s w r ≤ tm s w r' := by
  unfold tm
  by_cases c : w ≤ r ∧ w % 2 = r % 2
  · rw [if_pos c, if_pos (by omega)]; omega
  · rw [if_neg c]
    split <;> omega
theorem tm_nn {s : Int} {w r : Nat} (hs : 0 ≤ s) : 0 ≤ tm s w r := by
  unfold tm
  split <;> omega
theorem sumTo_nn {n : Nat} {f : Nat → Int} (h : ∀ k, k < n → 0 ≤ f k) : 0 ≤ sumTo n f := by
  have := sumTo_le (f := fun _ => 0) (g := f) (n := n) h
  rw [sumTo_zero fun _ _ => rfl] at this
  exact this
/-- the row of springs that are not negative only rises along one parity -/
theorem dl_out {n : Nat} {W : Nat → Well} {s : Nat → Int} {ln : Nat → Int} {m : Nat} (h1 : 1 ≤ n) (hr : Rods n W) (hs : ∀ k, k < n → 0 ≤ s k) (hm : way n W 0 < m) (h : ∀ r, r < m → out n (wSp W s) r = ln r) : ∀ k, k < n → 0 ≤ dl n W ln k := by
  intro k hk
  have hw : ∀ j, j < n → way n W j < m := fun j hj => Nat.lt_of_le_of_lt (way_mono hr (Nat.zero_le j) hj) hm
  unfold dl
  rw [← h _ (hw k hk), out_sp h1 hr]
  by_cases c : k + 1 = n
  · rw [if_pos c]
    have := sumTo_nn (n := n) (f := fun j => tm (s j) (way n W j) (way n W k)) fun j hj => tm_nn (hs j hj)
    omega
  · rw [if_neg c, ← h _ (hw (k + 1) (by omega)), out_sp h1 hr]
    have := sumTo_le (n := n) (f := fun j => tm (s j) (way n W j) (way n W (k + 1))) (g := fun j => tm (s j) (way n W j) (way n W k)) fun j hj => tm_mono (hs j hj) (way_mono hr (by omega) (by omega)) (by rw [way_par hr hk, way_par hr (k := k + 1) (by omega)])
    omega
theorem sums_due {n : Nat} {W : Nat → Well} {ln : Nat → Int} {m : Nat} (h1 : 1 ≤ n) (hr : Rods n W) (hm : way n W 0 < m) : sumsOk n W ln m ↔ dueOk n W ln m := by
  have same : (∀ k, k < n → 0 ≤ dl n W ln k) → ∀ k, k < n → dl n W ln k = up0 n W ln k := fun h k hk => by
    have := h k hk
    unfold up0
    split <;> omega
  constructor
  · rintro ⟨a, b, c⟩
    have e := same a
    refine ⟨easy_sp e b, fun r hr' => ?_⟩
    rw [← c r hr', out_sp h1 hr, out_sp h1 hr]
    exact sumTo_congr fun k hk => by rw [e k hk]
  · rintro ⟨b, c⟩
    have a := dl_out h1 hr (fun k _ => up0_nn (n := n) (W := W) (ln := ln) k) hm c
    have e := same a
    refine ⟨a, easy_sp (fun k hk => (e k hk).symm) b, fun r hr' => ?_⟩
    rw [← c r hr', out_sp h1 hr, out_sp h1 hr]
    exact sumTo_congr fun k hk => by rw [e k hk]
/-- what is heard is what is due -/
theorem heard_due {n : Nat} {W : Nat → Well} {m : Nat} {ln : Nat → Int} (h1 : 1 ≤ n) (hn : n ≤ 50) (hr : Rods n W) (hm : m ≤ 900) : ∃ d, (d = unfitD ∨ d = .list (foundD n W (dl n W ln) n)) ∧ rqDue [wsD n W, .tuple (vI m ln)] d ∧
    ∀ x row, Dep 2 x → tupN 2 x = wsD n W → (row = .tuple (vI m ln) ∨ row = .list (vI m ln)) → rqHeard [x, row] d := by
  by_cases c : way n W 0 < m
  · by_cases c2 : sumsOk n W ln m
    · exact ⟨_, .inr rfl, ⟨n, W, m, ln, rfl, h1, hn, hr, hm, .inr ⟨c, (sums_due h1 hr c).mp c2, rfl⟩⟩, fun x row hx ex hrow => ⟨_, ⟨x, row, n, W, m, ln, rfl, hx, ex, h1, by omega, hr, hrow, hm, .inr ⟨c, c2, rfl⟩⟩, rfl⟩⟩
    · exact ⟨_, .inl rfl, ⟨n, W, m, ln, rfl, h1, hn, hr, hm, .inl ⟨.inr fun q => c2 ((sums_due h1 hr c).mpr q), rfl⟩⟩, fun x row hx ex hrow => ⟨none, ⟨x, row, n, W, m, ln, rfl, hx, ex, h1, by omega, hr, hrow, hm, .inl ⟨.inr c2, rfl⟩⟩, rfl⟩⟩
  · exact ⟨_, .inl rfl, ⟨n, W, m, ln, rfl, h1, hn, hr, hm, .inl ⟨.inl (by omega), rfl⟩⟩, fun x row hx ex hrow => ⟨none, ⟨x, row, n, W, m, ln, rfl, hx, ex, h1, by omega, hr, hrow, hm, .inl ⟨.inl (by omega), rfl⟩⟩, rfl⟩⟩
/-! ## one's own row -/
def eK (n : Nat) (W : Nat → Well) (k : Nat) : Bool := !lastK n W k
def carr (n : Nat) (W : Nat → Well) (k : Nat) : Int := if eK n W k = true then (W k).spr else 0
def carp (n : Nat) (W : Nat → Well) (k : Nat) : Int := if k = 0 then 0 else carr n W (k - 1)
theorem eK_iff {n : Nat} {W : Nat → Well} {k : Nat} : eK n W k = true ↔ k + 1 ≠ n ∧ eqW W k = true := by
  unfold eK lastK
  simp
theorem tail_one {n : Nat} {f : Nat → Int} {k : Nat} (hk : k < n) : sumTo n (fun j => if k ≤ j then f j else 0) - sumTo n (fun j => if k + 1 ≤ j then f j else 0) = f k := by
  rw [← sumTo_sub]
  rw [sumTo_one (k := k) hk fun j hj hne => ?_]
  · rw [if_pos (Nat.le_refl _), if_neg (by omega)]; omega
  · by_cases c : k ≤ j
    · rw [if_pos c, if_pos (by omega)]; omega
    · rw [if_neg c, if_neg (by omega)]; rfl
theorem out_way {n : Nat} {W : Nat → Well} {k : Nat} (h1 : 1 ≤ n) (hr : Rods n W) (hk : k < n) : out n W (way n W k) = sumTo n (fun j => if k ≤ j then (W j).spr else 0) + carp n W k := by
  rw [out_sum h1 hr]
  have hp : ∀ j, j < n → way n W j % 2 = way n W k % 2 := fun j hj => by rw [way_par hr hj, way_par hr hk]
  have e : ∀ j, j < n → tm (W j).spr (way n W j) (way n W k) = (if k ≤ j then (W j).spr else 0) + (if j + 1 = k ∧ eqW W j = true then (W j).spr else 0) := fun j hj => by
    unfold tm
    by_cases c : k ≤ j
    · rw [if_pos ⟨way_mono hr c hj, hp j hj⟩, if_pos c, if_neg (by omega)]; omega
    · rw [if_neg c]
      by_cases c2 : j + 1 = k ∧ eqW W j = true
      · have h3 : way n W j = way n W k := by
          have h4 := way_step hr (k := j) (by omega)
          rw [c2.2, if_pos rfl] at h4
          rw [← c2.1]; exact h4
        rw [if_pos ⟨Nat.le_of_eq h3, hp j hj⟩, if_pos c2]; omega
      · rw [if_neg c2, if_neg]
        · rfl
        · rintro ⟨h3, _⟩
          by_cases c3 : eqW W j = true
          · have e2 : eqW W (j + 1) = false := by
              cases e3 : eqW W (j + 1) with
              | false => rfl
              | true => rw [eqW_no2 e3] at c3; cases c3
            have hne : j + 1 ≠ k := fun q => c2 ⟨q, c3⟩
            have := way_lt hr (k := j + 1) (j := k) (by omega) hk e2
            have h4 := way_step hr (k := j) (by omega)
            rw [c3, if_pos rfl] at h4
            omega
          · have := way_lt hr (k := j) (j := k) (by omega) hk (by simpa using c3)
            omega
  rw [sumTo_congr e, sumTo_add]
  congr 1
  unfold carp
  by_cases c : k = 0
  · rw [if_pos c]
    exact sumTo_zero fun j _ => if_neg (by omega)
  · rw [if_neg c, sumTo_one (k := k - 1) (by omega) fun j _ hne => if_neg (by omega)]
    unfold carr
    by_cases c2 : eqW W (k - 1) = true
    · rw [if_pos ⟨by omega, c2⟩, if_pos (eK_iff.mpr ⟨by omega, c2⟩)]
    · rw [if_neg (fun q => c2 q.2), if_neg (fun q => c2 (eK_iff.mp q).2)]
theorem dl_own {n : Nat} {W : Nat → Well} {k : Nat} (h1 : 1 ≤ n) (hr : Rods n W) (hk : k < n) : dl n W (out n W) k = (W k).spr - carr n W k + carp n W k := by
  unfold dl
  rw [out_way h1 hr hk]
  have ht := tail_one (f := fun j => (W j).spr) hk
  by_cases c : k + 1 = n
  · rw [if_pos c]
    have : sumTo n (fun j => if k + 1 ≤ j then (W j).spr else 0) = 0 := sumTo_zero fun j hj => if_neg (by omega)
    have hc : carr n W k = 0 := by
      unfold carr
      rw [if_neg (fun q => (eK_iff.mp q).1 c)]
    omega
  · rw [if_neg c, out_way h1 hr (k := k + 1) (by omega)]
    have hc : carp n W (k + 1) = carr n W k := by
      unfold carp
      rw [if_neg (by omega), show k + 1 - 1 = k by omega]
    omega
theorem carr_nn {n : Nat} {W : Nat → Well} (hs : Sprs n W) {k : Nat} (hk : k < n) : 0 ≤ carr n W k ∧ carr n W k ≤ (W k).spr := by
  have := hs k hk
  unfold carr
  split <;> omega
theorem own_nn {n : Nat} {W : Nat → Well} (h1 : 1 ≤ n) (hr : Rods n W) (hs : Sprs n W) {k : Nat} (hk : k < n) : 0 ≤ dl n W (out n W) k := by
  rw [dl_own h1 hr hk]
  have := carr_nn hs hk
  have : 0 ≤ carp n W k := by
    unfold carp
    split
    · exact Int.le_refl _
    · exact (carr_nn hs (by omega)).1
  omega
theorem flow_own {n : Nat} {W : Nat → Well} (h1 : 1 ≤ n) (hr : Rods n W) : ∀ k, k < n → flow (wSp W (dl n W (out n W))) (k + 1) = flow W (k + 1) - carr n W k
  | 0, hk => by
    show (0 : Int) + dl n W (out n W) 0 = 0 + (W 0).spr - carr n W 0
    rw [dl_own h1 hr hk]
    have : carp n W 0 = 0 := rfl
    omega
  | k + 1, hk => by
    show flow (wSp W (dl n W (out n W))) (k + 1) + dl n W (out n W) (k + 1) = flow W (k + 1) + (W (k + 1)).spr - carr n W (k + 1)
    rw [flow_own h1 hr k (by omega), dl_own h1 hr hk]
    have : carp n W (k + 1) = carr n W k := by
      unfold carp
      rw [if_neg (by omega), show k + 1 - 1 = k by omega]
    omega
theorem sumTo_shift {g : Nat → Int} : ∀ m : Nat, sumTo (m + 1) (fun k => if k = 0 then 0 else g (k - 1)) = sumTo m g
  | 0 => rfl
  | m + 1 => by
    show sumTo (m + 1) (fun k => if k = 0 then 0 else g (k - 1)) + (if m + 1 = 0 then 0 else g (m + 1 - 1)) = sumTo m g + g m
    rw [sumTo_shift m, if_neg (by omega), show m + 1 - 1 = m by omega]
theorem tm_lin (a b c : Int) (w r : Nat) : tm (a - b + c) w r = tm a w r - tm b w r + tm c w r := by
  unfold tm
  split <;> omega
theorem row_own {n : Nat} {W : Nat → Well} (h1 : 1 ≤ n) (hr : Rods n W) (r : Nat) : out n (wSp W (dl n W (out n W))) r = out n W r := by
  rw [out_sp h1 hr, out_sum h1 hr]
  have e : ∀ k, k < n → tm (dl n W (out n W) k) (way n W k) r = tm (W k).spr (way n W k) r - tm (carr n W k) (way n W k) r + tm (carp n W k) (way n W k) r := fun k hk => by
    rw [dl_own h1 hr hk, tm_lin]
  rw [sumTo_congr e, sumTo_add, sumTo_sub]
  have e2 : sumTo n (fun k => tm (carp n W k) (way n W k) r) = sumTo n fun k => tm (carr n W k) (way n W k) r := by
    obtain ⟨m, rfl⟩ : ∃ m, n = m + 1 := ⟨n - 1, by omega⟩
    have a : sumTo (m + 1) (fun k => tm (carp (m + 1) W k) (way (m + 1) W k) r) = sumTo (m + 1) (fun k => if k = 0 then 0 else tm (carr (m + 1) W (k - 1)) (way (m + 1) W (k - 1)) r) := sumTo_congr fun k hk => by
      unfold carp
      by_cases c : k = 0
      · rw [if_pos c, if_pos c, tm_0]
      · rw [if_neg c, if_neg c]
        unfold carr
        by_cases c2 : eK (m + 1) W (k - 1) = true
        · have h3 := way_step hr (k := k - 1) (by omega)
          rw [(eK_iff.mp c2).2, if_pos rfl, show k - 1 + 1 = k by omega] at h3
          rw [h3]; rfl
        · rw [if_neg c2, tm_0, tm_0]
    rw [a, sumTo_shift (g := fun k => tm (carr (m + 1) W k) (way (m + 1) W k) r)]
    show _ = sumTo m _ + tm (carr (m + 1) W m) (way (m + 1) W m) r
    have : carr (m + 1) W m = 0 := by
      unfold carr
      rw [if_neg (fun q => (eK_iff.mp q).1 rfl)]
    rw [this, tm_0]; omega
  omega
theorem own_ok {n : Nat} {W : Nat → Well} (h1 : 1 ≤ n) (hr : Rods n W) (hs : Sprs n W) (he : easyB n W = true) (m : Nat) : sumsOk n W (out n W) m := by
  refine ⟨fun k hk => own_nn h1 hr hs hk, easyB_iff.mpr fun k hk => ?_, fun r _ => row_own h1 hr r⟩
  obtain ⟨e1, e2⟩ := easyAt_le (easyB_iff.mp he k hk)
  have h3 := flow_own h1 hr k hk
  have h4 := (carr_nn hs hk).1
  unfold easyAt
  rw [h3]
  have a1 : flow W (k + 1) - carr n W k ≤ (wSp W (dl n W (out n W)) k).meas := by
    show _ ≤ (W k).meas
    omega
  rw [decide_eq_true a1, Bool.true_and, Bool.or_eq_true]
  by_cases c : k = 0
  · exact .inl (decide_eq_true c)
  · refine .inr (decide_eq_true ?_)
    show _ ≤ (W k).room
    have := e2 (by omega)
    omega
/-- what the lot's springs bring -/
theorem own_lot {n : Nat} {W : Nat → Well} {k : Nat} (h1 : 1 ≤ n) (hr : Rods n W) (hk : k < n) (hl : lastK n W k = true) : dl n W (out n W) k = (if 0 < k ∧ eqW W (k - 1) = true then [(W (k - 1)).spr, (W k).spr] else [(W k).spr]).sum := by
  rw [dl_own h1 hr hk]
  have hc : carr n W k = 0 := by
    unfold carr eK
    rw [hl]; rfl
  rw [hc]
  unfold carp
  by_cases c : 0 < k ∧ eqW W (k - 1) = true
  · rw [if_neg (by omega), if_pos c]
    unfold carr
    rw [if_pos (eK_iff.mpr ⟨by omega, c.2⟩)]
    simp; omega
  · rw [if_neg c]
    by_cases c2 : k = 0
    · rw [if_pos c2]; simp
    · rw [if_neg c2]
      unfold carr
      rw [if_neg (fun q => c ⟨by omega, (eK_iff.mp q).2⟩)]
      simp
end KX
namespace KX
open PySem PySem.Spec PyProof.Rows L2
section
variable {X : Cx} {B : Hp} {M : Ms} {L : Ls} {a b e : Expr} {es : List Expr} {d : PyData} {ds us : List PyData} {pos spos : Pos} {rest : List Stmt} {D : Ends} {it elt : Expr} {scope : Scope}
/-- x + e, lists, x one's own: a new list -/
theorem ef_catOwn (i k : Nat) {x : Str} {l : Addr} {px : Pos} (hz : ds.length + us.length ≤ 1000) (hL : L[i]? = some (some (.v (.ref l)))) (hM : M[k]? = some (l, Ct.l ds)) (he : EF X B M L e (.l us))
    (hN : X.N[i]? = some x := by rfl) (hv : Vis X.env.scope x := by first | exact Or.inl rfl | exact Or.inr (Or.inl rfl) | exact Or.inr (Or.inr rfl))
    (hd : (x == ("__debug__" : Str)) = false := by decide) (hcd : (x == ("__classdict__" : Str)) = false := by decide) : EF X B M L (.BinOp (.Name x px) .Add e pos) (.l (ds ++ us)) :=
  pe_imp (pe_op op_cat (pe_var hN hv hd hcd) he) fun σ H Q ⟨S, kq⟩ => by
    obtain ⟨v, h1, h2⟩ := S.loc i _ hL
    have h2' : v = .ref l := h2
    subst h2'
    refine ⟨_, h1, S, fun p H2 hp s c => ?_⟩
    have S2 := S.grow hp s c
    obtain ⟨xs, e1, z1, g1⟩ := S2.get (k := k + 1) (by simpa using hM)
    obtain ⟨zs, e2, z2, g2⟩ := S2.get (k := 0) rfl
    have l1 := dpa_len g1
    have l2 := dpa_len g2
    refine ⟨l, p, xs, zs, rfl, rfl, e1, e2, sz1000 (by omega), fun q hq => ?_⟩
    have sall := s.trans (msk_same (O := [p]) (H := H2))
    have up : Same (msk (adr ((p, Ct.l us) :: M)) H2) (msk (q :: adr M) (upd H2 q (.lst (xs ++ zs)))) := by
      have a1 : Same (msk (adr ((p, Ct.l us) :: M)) H2) (msk (adr M) H2) := by
        show Same (msk (p :: adr M) H2) _
        rw [msk_cons]
        exact same_msk msk_same
      refine a1.trans ?_
      rw [msk_cons]
      exact same_msk (fresh_in hq)
    exact kq q _ (back_none sall hq) (fresh_msk sall hq) ⟨xs ++ zs, upd_same, by rw [List.length_append]; omega, dpa_app (dp_monos up _ _ g1) (dp_monos up _ _ g2)⟩
/-- name = [elt for x in it] -/
theorem tr_lcN {n : Nat} {Y F : Nat → PyData} {x nm : Str} {pn px : Pos} (i i0 : Nat) (hz : n ≤ 1000) (hc : X.calm = true) (hN : X.N.Nodup) (hi : EI X B M L (.Name x px) it n Y) (ok : blkC X.N X.env.scope scope [(x, i0)] = true)
    (he : ∀ i, i < n → ∀ B1 Mx Da acc, adr Mx = adr M → BlkP X scope fun Z => ED Z B1 ((Da, .l acc) :: Mx) ((L.set i0 none).set i0 (some (.d (Y i)))) elt (F i))
    (hr : ∀ l, l ∉ adr M → Tr X (Sta X.K B ((l, .l (vec n F)) :: M) (L.set i (some (.v (.ref l))))) rest D)
    (hn1 : X.N[i]? = some nm := by rfl) (hnl : X.env.scope.names.lookup nm = some .local := by rfl)
    (hx1 : X.N[i0]? = some x := by rfl) (hx : BlkP X scope fun Z => Loc Z.env.scope x := by first | exact fun _ _ _ _ _ => Or.inl rfl | exact fun _ _ _ _ _ => Or.inr rfl) (hf : BlkP X scope fun Z => Z.fn x = true ∨ Z.env.scope.names.lookup x = some .local := by first | exact fun _ _ _ _ _ => Or.inr rfl | exact fun _ _ _ _ _ => Or.inl rfl)
    (hsw : swapsWith (.ListComp elt [⟨.Name x px, it, [], 0⟩] scope pos) (some (.Name nm pn)) spos.line X.env = pure true := by exact sw_true rfl rfl rfl (by decide +kernel)) (hs : ∀ x, foldedSetIterable it X.env x = pure x := by intro _; rfl) :
    Tr X (Sta X.K B M L) (.Assign [.Name nm pn] (.ListComp elt [⟨.Name x px, it, [], 0⟩] scope pos) spos :: rest) D :=
  tr_lcG (own := [(x, i0)]) (t := fun _ => true) (F := F) i hz hc hN hi (blkOk_by ok) (fun s H C cl fp => pg_name hN hx1 (hx s H C cl fp) (hf s H C cl fp)) (fun i _ => tgw_name i0 (by simp)) (fun i hi B1 Mx Da acc _ s H C cl fp => pts_no) (fun i hi _ => he i hi) (by rw [done_vec]; exact hr) hn1 hnl hsw hs
end
/-! ## the values by hand -/
mutual
def depB : Nat → PyData → Bool
  | _, .none => true
  | _, .bool _ => true
  | _, .int _ => true
  | _, .str x => SeqAt.shaped (.str x)
  | _, .dict _ => false
  | 0, .list _ => false
  | 0, .tuple _ => false
  | N + 1, .list ds => decide (ds.length ≤ 900) && depBs N ds
  | N + 1, .tuple ds => decide (ds.length ≤ 900) && depBs N ds
def depBs : Nat → List PyData → Bool
  | _, [] => true
  | N, d :: ds => depB N d && depBs N ds
end
theorem dep_all {N : Nat} {ds : List PyData} (k : ∀ x, depB N x = true → Dep N x) (h : depBs N ds = true) : ∀ x ∈ ds, Dep N x := by
  induction ds with
  | nil => intro x hx; cases hx
  | cons d ds ih =>
    rw [depBs, Bool.and_eq_true] at h
    intro x hx
    rcases List.mem_cons.mp hx with rfl | hx
    · exact k _ h.1
    · exact ih h.2 x hx
theorem dep_of : ∀ {N : Nat} {x : PyData}, depB N x = true → Dep N x
  | 0, x, h => by
    cases x with
    | list ds => simp [depB] at h
    | tuple ds => simp [depB] at h
    | dict ds => simp [depB] at h
    | str x => rw [depB] at h; exact h
    | _ => trivial
  | N + 1, x, h => by
    cases x with
    | list ds =>
      rw [depB, Bool.and_eq_true] at h
      exact ⟨of_decide_eq_true h.1, dep_all (fun x => dep_of) h.2⟩
    | tuple ds =>
      rw [depB, Bool.and_eq_true] at h
      exact ⟨of_decide_eq_true h.1, dep_all (fun x => dep_of) h.2⟩
    | dict ds => simp [depB] at h
    | str x => rw [depB] at h; exact h
    | _ => trivial
theorem brook_rods : Rods 3 brookW := fun k hk => by
  match k, hk with
  | 0, _ => exact .inr rfl
  | 1, _ => exact .inl rfl
  | 2, _ => exact .inl rfl
def tI1 (ns : List Int) : PyData := .tuple (ns.map .int)
def lnOf (ns : List Int) (r : Nat) : Int := ns.getD r 0
def hA : PyData := .list [.tuple [.tuple [.int 2], .int 1], .tuple [.tuple [.int 0, .int 1], .int 2]]
def hB : PyData := .list [.tuple [.tuple [.int 2], .int 3], .tuple [.tuple [.int 0, .int 1], .int 3]]
theorem sums_hand (ns : List Int) (h1 : way 3 brookW 0 < ns.length) (h2 : sumsOk 3 brookW (lnOf ns) ns.length) (hn : ns.length ≤ 900) : rSums [wsD 3 brookW, .tuple (vI ns.length (lnOf ns))] (some (.list (foundD 3 brookW (dl 3 brookW (lnOf ns)) 3))) :=
  ⟨_, _, 3, brookW, ns.length, lnOf ns, rfl, (dep_ws (by decide)).1, (dep_ws (by decide)).2, by decide, by decide, brook_rods, .inl rfl, hn, .inr ⟨h1, h2, rfl⟩⟩
theorem sums_not (ns : List Int) (h : ns.length ≤ way 3 brookW 0 ∨ ¬ sumsOk 3 brookW (lnOf ns) ns.length) (hn : ns.length ≤ 900) : rSums [wsD 3 brookW, .tuple (vI ns.length (lnOf ns))] none :=
  ⟨_, _, 3, brookW, ns.length, lnOf ns, rfl, (dep_ws (by decide)).1, (dep_ws (by decide)).2, by decide, by decide, brook_rods, .inl rfl, hn, .inl ⟨h, rfl⟩⟩
def hL : List (List Int) := [[0, 0, 0, 1, 0, 3], [0, 0, 0, 3, 0, 6, 0, 6], [0, 0, 0, 1, 0], [0, 0, 0, 3, 0, 2]]
def hR : List PyData := [hA, hB, unfitD, unfitD]
theorem ok1 : sumsOk 3 brookW (lnOf [0, 0, 0, 1, 0, 3]) 6 := ⟨by decide +kernel, by decide +kernel, by decide +kernel⟩
theorem ok2 : sumsOk 3 brookW (lnOf [0, 0, 0, 3, 0, 6, 0, 6]) 8 := ⟨by decide +kernel, by decide +kernel, by decide +kernel⟩
theorem no4 : ¬ sumsOk 3 brookW (lnOf [0, 0, 0, 3, 0, 2]) 6 := fun h => absurd (h.1 1 (by decide)) (by decide +kernel)
theorem hand_heard : ∀ i, i < 4 → rqHeard [wsD 3 brookW, tI1 (hL.getD i [])] (yAt hR i)
  | 0, _ => ⟨_, sums_hand [0, 0, 0, 1, 0, 3] (by decide +kernel) ok1 (by decide), rfl⟩
  | 1, _ => ⟨_, sums_hand [0, 0, 0, 3, 0, 6, 0, 6] (by decide +kernel) ok2 (by decide), rfl⟩
  | 2, _ => ⟨_, sums_not [0, 0, 0, 1, 0] (.inl (by decide +kernel)) (by decide), rfl⟩
  | 3, _ => ⟨_, sums_not [0, 0, 0, 3, 0, 2] (.inr no4) (by decide), rfl⟩
  | i + 4, h => absurd h (by omega)
theorem hand_due : rqDue [wsD 3 brookW, tI1 [0, 0, 0, 1, 0, 3]] hA := ⟨3, brookW, 6, lnOf [0, 0, 0, 1, 0, 3], rfl, by decide, by decide, brook_rods, by decide, .inr ⟨by decide +kernel, (sums_due (by decide) brook_rods (by decide +kernel)).mp ok1, rfl⟩⟩
def hWays : PyData := .list [.int 5, .int 5, .int 3]
def hLots : PyData := .list [.tuple [.int 3, .tuple [.int 2]], .tuple [.int 5, .tuple [.int 0, .int 1]]]
theorem hand_ways : rqWays [wsD 3 brookW] hWays := ⟨3, brookW, rfl, by decide, by decide, brook_rods, rfl⟩
theorem hand_lots : rqLots [wsD 3 brookW] hLots := ⟨3, brookW, rfl, by decide, by decide, brook_rods, rfl⟩
def hAll : PyData := .list (hR ++ [hWays, hLots, hA])
theorem hand_dep : Dep 4 hAll := dep_of (by decide +kernel)
section
variable {P : Program} {w : World} {K : PySem.W.Frag} {mg : Str → Option Value} {base : Heap}
/-! ## _law_by_hand_right -/
def rqHand (ds : List PyData) (d : PyData) : Prop := ds = [] ∧ d = .bool true
abbrev nqHand : List Str := ["_law_brook_here", "_law_got", "_law_due_here", "_law_own"]
theorem sqcHand : FnScope nqHand [] (defScope sqHand) := ⟨rfl, rfl, rfl, by decide +kernel, rfl, by decide +kernel, by decide +kernel⟩
theorem okq_hand {f : Addr} {fd : FuncData} (F : Fun K "_law_by_hand_right" "_law_by_hand_right" sqHand f fd) (T : Txt mg) (D1 : Df P w K mg base CX0 1 "_law_brook" [] (spD K rqBrook)) (D2 : Df P w K mg base CX0 7 "_law_heard" ["_law_wells", "_law_line"] (spD K rqHeard))
    (D3 : Df P w K mg base CX0 3 "_law_ways" ["_law_wells"] (spD K rqWays)) (D4 : Df P w K mg base CX0 4 "_law_lots" ["_law_wells"] (spD K rqLots)) (D5 : Df P w K mg base CX0 5 "_law_due" ["_law_wells", "_law_line"] (spD K rqDue)) (D6 : Df P w K mg base CX0 5 "_law_same" pqSame (spD K (rqSame 4))) :
    FnOk P w K mg base CX0 8 f fd [] (spD K rqHand) := by
  refine fn_pure F sqcHand (fun ds d h => by obtain ⟨rfl, _⟩ := h; rfl) fun cdv A outer s H E hr B M0 D ds d hR' R Rn => ?_
  obtain ⟨rfl, rfl⟩ := hR'
  refine tr_set (d := wsD 3 brookW) 0 sqcHand.nd (ed_call0 D1 (hr.mono (by decide)) ⟨rfl, rfl⟩) ?_
  refine tr_lcN (n := 4) (Y := fun i => tI1 (hL.getD i [])) (F := yAt hR) 1 3 (by decide) rfl sqcHand.nd ?_ (by show blkC nqHand (defScope sqHand) _ _ = true; decide +kernel) (fun i hi B1 Mx Da acc ad s H C cl fp => ?_) fun l hl => ?_
  · refine ei_to (ei_tup (ed_tup (ea_cons (d := tI1 [0, 0, 0, 1, 0, 3]) (ed_to (ed_tup (ea_cons ed_int (ea_cons ed_int (ea_cons ed_int (ea_cons ed_int (ea_cons ed_int (ea_cons ed_int ea_nil))))))) rfl)
      (ea_cons (d := tI1 [0, 0, 0, 3, 0, 6, 0, 6]) (ed_to (ed_tup (ea_cons ed_int (ea_cons ed_int (ea_cons ed_int (ea_cons ed_int (ea_cons ed_int (ea_cons ed_int (ea_cons ed_int (ea_cons ed_int ea_nil))))))))) rfl)
      (ea_cons (d := tI1 [0, 0, 0, 1, 0]) (ed_to (ed_tup (ea_cons ed_int (ea_cons ed_int (ea_cons ed_int (ea_cons ed_int (ea_cons ed_int ea_nil)))))) rfl)
      (ea_cons (d := tI1 [0, 0, 0, 3, 0, 2]) (ed_to (ed_tup (ea_cons ed_int (ea_cons ed_int (ea_cons ed_int (ea_cons ed_int (ea_cons ed_int (ea_cons ed_int ea_nil))))))) rfl) ea_nil)))))) rfl fun i hi => ?_
    match i, hi with
    | 0, _ => rfl
    | 1, _ => rfl
    | 2, _ => rfl
    | 3, _ => rfl
  · exact ed_call D2 hr (hand_heard i hi) (ea_cons (ed_name 0 rfl) (ea_cons (ed_name 3 rfl) ea_nil))
  refine tr_own (ct := .l hR) 2 sqcHand.nd (ef_to (ef_lst (ea_cons (ed_to (ed_lst (ea_cons (ed_tup (ea_cons (ed_tup (ea_cons ed_int ea_nil)) (ea_cons ed_int ea_nil))) (ea_cons (ed_tup (ea_cons (ed_tup (ea_cons ed_int (ea_cons ed_int ea_nil))) (ea_cons ed_int ea_nil))) ea_nil))) (d' := hA) rfl)
    (ea_cons (ed_to (ed_lst (ea_cons (ed_tup (ea_cons (ed_tup (ea_cons ed_int ea_nil)) (ea_cons ed_int ea_nil))) (ea_cons (ed_tup (ea_cons (ed_tup (ea_cons ed_int (ea_cons ed_int ea_nil))) (ea_cons ed_int ea_nil))) ea_nil))) (d' := hB) rfl)
    (ea_cons (ed_to (ed_lst (ea_cons ed_str ea_nil)) (d' := unfitD) rfl) (ea_cons (ed_to (ed_lst (ea_cons ed_str ea_nil)) (d' := unfitD) rfl) ea_nil))))) rfl) fun l2 hl2 => ?_
  refine tr_own (ct := .l (hR ++ [hWays, hLots, hA])) 1 sqcHand.nd (ef_to (ef_catOwn (us := [hWays, hLots, hA]) 1 1 (by decide) rfl rfl (ef_lst (ea_cons (ed_call D3 (hr.mono (by decide)) hand_ways (ea_cons (ed_name 0 rfl) ea_nil)) (ea_cons (ed_call D4 (hr.mono (by decide)) hand_lots (ea_cons (ed_name 0 rfl) ea_nil))
    (ea_cons (ed_call D5 (hr.mono (by decide)) hand_due (ea_cons (ed_name 0 rfl) (ea_cons (ed_to (ed_tup (ea_cons ed_int (ea_cons ed_int (ea_cons ed_int (ea_cons ed_int (ea_cons ed_int (ea_cons ed_int ea_nil))))))) rfl) ea_nil))) ea_nil))))) rfl) fun l3 hl3 => ?_
  refine tr_freeze 1 rfl ?_
  refine tr_ret R (fun q h => List.mem_cons_of_mem _ (List.mem_cons_of_mem _ h)) (ed_call D6 (hr.mono (by decide)) ⟨hAll, rfl, hand_dep, rfl⟩ (ea_cons (ed_to (ed_name 1 rfl) rfl) (ea_cons (ed_to (ed_of_f (ef_catOwn (us := [hWays, hLots, hA]) 2 0 (by decide) rfl rfl (ef_to (ef_lst
    (ea_cons (ed_to (ed_lst (ea_cons ed_int (ea_cons ed_int (ea_cons ed_int ea_nil)))) (d' := hWays) rfl)
    (ea_cons (ed_to (ed_lst (ea_cons (ed_tup (ea_cons ed_int (ea_cons (ed_tup (ea_cons ed_int ea_nil)) ea_nil))) (ea_cons (ed_tup (ea_cons ed_int (ea_cons (ed_tup (ea_cons ed_int (ea_cons ed_int ea_nil))) ea_nil))) ea_nil))) (d' := hLots) rfl)
    (ea_cons (ed_to (ed_lst (ea_cons (ed_tup (ea_cons (ed_tup (ea_cons ed_int ea_nil)) (ea_cons ed_int ea_nil))) (ea_cons (ed_tup (ea_cons (ed_tup (ea_cons ed_int (ea_cons ed_int ea_nil))) (ea_cons ed_int ea_nil))) ea_nil))) (d' := hA) rfl) ea_nil)))) rfl))) rfl) ea_nil)))
end
end KX
namespace KX
open PySem PySem.Spec PyProof.Rows L2 LamX
/-! ## lambda x: -x[0] -/
abbrev lamA (pa : Pos) : Arguments := { posonlyargs := [], args := [{ arg := "_law_own", annotation := none, pos := pa }], vararg := none, kwonlyargs := [], kw_defaults := [], kwarg := none, defaults := [] }
abbrev lamB (j : Nat) (p1 p2 p3 p4 : Pos) : Expr := .UnaryOp .USub (.Subscript (.Name "_law_own" p1) (.Constant (.int 0) j p2) p3) p4
abbrev lamS : Scope := { kind := .function, names := [("_law_own", .local)], isGenerator := false, isCoroutine := false }
section
variable {prog : Program} {w : World} {A : Around} {s : Shared} {f t c' : Addr} {qual x : Str} {pm ctv : Value} {k : Int} {tk : Tok} {u : Value} {pa p1 p2 p3 p4 : Pos} {j : Nat}
theorem lam_key (hroom : A.depth < recursionLimit) (ho : s.heap.get? f = some (PySem.W.kla_obj "<lambda>" qual (lamA pa) (lamB j p1 p2 p3 p4) lamS [] pm c' ctv)) (hcd : s.heap.CodeRec (.ref c') qual) (hlim : s.heap.NoLimit) (ht : s.heap.IsTuple t #[.int k tk, u]) :
    wpAny (model prog w) A (call (.ref f) [.ref t]) (PySem.W.KeyPure (.int (-k)) s) (fun _ _ => False) s := by
  refine wpAny_call ?_
  refine PySem.W.kla_callFunE hroom ho rfl rfl rfl rfl hcd ?_
  have hb : bindArgs (PySem.W.kla_fn "<lambda>" qual (lamA pa) (lamB j p1 p2 p3 p4) lamS [] pm (.ref c') ctv) ⟨[.ref t], []⟩ = pure [(("_law_own" : Str), Value.ref t)] := rfl
  rw [hb]
  refine wpAny_pure (wpAny_newFunctionEnv (by simp) (by simp) (fun h₁ hns hsb => ?_) rfl)
  have kept : ∀ b o, s.heap.get? b = some o → h₁.get? b = some o := fun b o e => hsb.extBut b o (Nat.ne_of_lt (Heap.lt_size e)) (Heap.get?_push_of_some _ e)
  refine ⟨hlim.fresh _ hsb, PySem.W.kla_codeExpr ?_⟩
  have ht1 : h₁.IsTuple t #[.int k tk, u] := let ⟨o, e, r⟩ := ht; ⟨o, kept _ _ e, r⟩
  refine UnaryOp_ (Subscript_ (wpAny_Name (wpAny_loadName_local rfl rfl hns rfl ?_) (by decide)))
  refine wpAny_Constant_int ?_
  refine subscriptTail_builtinR (x := .int k tk) (ht1.typeIs) slot_tuple_getitem.lookup (getItem_tuple (j := 0) (Q := fun r s' => r = .int k tk ∧ _) ht1 (by decide) (by decide) (by rfl) rfl ⟨rfl, ?_⟩) rfl
  refine neg_int ?_
  exact ⟨_, _, rfl, kept, .int _ _⟩
end
/-! ## the making of it -/
def GoodT (H : Hp) (q : Str) (ps : Array Value) : Prop := TriplesOk ps.toList ∧ ∀ (pos : Pos) (cv : Value), codeAmong pos ps.toList = some cv → ∃ c, cv = .ref c ∧ H c = some (CodeO c q)
theorem GoodT.mono {H H' : Hp} {q : Str} {ps : Array Value} (g : GoodT H q ps) (h : ∀ c, H c = some (CodeO c q) → H' c = some (CodeO c q)) : GoodT H' q ps := ⟨g.1, fun pos cv e => let ⟨c, a, b⟩ := g.2 pos cv e; ⟨c, a, h c b⟩⟩
section
variable {X : Cx} {pins : List (Addr × Obj)} {σ : L2.St} {H : Hp} {s : Shared}
theorem lam_make3 {c P : Addr} {ps : Array Value} {params : Arguments} {body : Expr} {scope : Scope} {pos : Pos} {E : Value → Shared → Prop} {Q : Value → Shared → Prop} (I : Inv X pins σ H s) (TB : LamX.TabB X.base X.mg c P) (hcode : X.env.code = .ref c)
    (hP : H P = some (.tbl ps)) (hg : GoodT H (X.env.qual ++ "<lambda>") ps) (hdef : defaultsOf params X.env = ([], [])) (hclo : closureFor scope X.env = pure [])
    (h : ∀ (f c' : Addr) (pm ctv : Value) (ps' : Array Value) (H1 : Hp) (s' : Shared), Inv X pins σ H1 s' → H1 P = some (.tbl ps') → GoodT H1 (X.env.qual ++ "<lambda>") ps' → (∀ b o, b ≠ P → H b = some o → H1 b = some o) →
      s'.heap.get? f = some (PySem.W.kla_obj "<lambda>" (X.env.qual ++ "<lambda>") params body scope [] pm c' ctv) → H1 c' = some (CodeO c' (X.env.qual ++ "<lambda>")) → Q (.ref f) s') :
    wpAny (model X.prog X.w) X.A (eval (.Lambda params body scope pos) X.env) Q E s := by
  obtain ⟨ht, ha⟩ := hg
  refine PySem.W.kla_eval hdef ?_
  have bP : s.heap.BuiltinsAt X.mg P := TB.bm.keeps I.bk
  have hP' : s.heap.get? P = some { cls := .none, data := .fields ps } := I.hok P _ hP
  cases hc : codeAmong pos ps.toList with
  | none =>
    refine PySem.W.kla_makeFunction (mg := X.mg) (c := c) (P := P) (ps := ps) hclo I.ok.glob (I.mod.glob.keeps I.bk) hcode (TB.code.keeps I.bk) hP' ht hc TB.gP bP fun c' ctv h' tk hx hge hlt hrec htb => ?_
    obtain ⟨c2, oc, vs, t, e2, hoc, hd, hv⟩ := hrec
    cases e2
    have nC : H c' = none := I.hok.fresh hge
    have I1 := inv_table (t' := tk) (more := #[rawInt pos.line, rawInt pos.col, .ref c']) (h' := h'.push (PySem.W.kla_obj "<lambda>" (X.env.qual ++ "<lambda>") params body scope [] ((X.mg "__name__").getD .none) c' ctv)) I hP
      (fun b o hb e => Heap.get?_push_of_some _ (hx b o hb e)) (Heap.get?_push_of_some _ htb) hge ⟨oc, vs, t, Heap.get?_push_of_some _ hoc, hd, hv⟩
    have eL : (ps ++ #[rawInt pos.line, rawInt pos.col, .ref c']).toList = ps.toList ++ [rawInt pos.line, rawInt pos.col, .ref c'] := by simp
    have keep : ∀ b o, b ≠ P → H b = some o → (upd (upd H P (.tbl (ps ++ #[rawInt pos.line, rawInt pos.col, .ref c']))) c' (CodeO c' (X.env.qual ++ "<lambda>"))) b = some o := fun b o hb e => by
      rw [upd_ne (ne_of_none e nC), upd_ne hb]; exact e
    refine h h'.objs.size c' ((X.mg "__name__").getD .none) ctv _ _ _ I1 (by rw [upd_ne (ne_of_none hP nC), upd_same]) ⟨by rw [eL]; exact PySem.TriplesOk_snoc _ _ _ _ ht, fun p' cv hcv => ?_⟩ keep (Heap.get?_push_size _ rfl) upd_same
    rw [eL] at hcv
    rcases among_app _ ht hcv with z | z
    · obtain ⟨c0, e1, e2⟩ := ha p' cv z
      refine ⟨c0, e1, keep _ _ (fun w => ?_) e2⟩
      rw [w, hP] at e2
      exact codeO_ne _ (Option.some.inj e2).symm
    · exact ⟨c', z, upd_same⟩
  | some cv =>
    obtain ⟨c', e, hco⟩ := ha pos cv hc
    subst e
    refine PySem.W.kla_makeFunctionHit (mg := X.mg) (c := c) (P := P) (ps := ps) hclo I.ok.glob (I.mod.glob.keeps I.bk) hcode (TB.code.keeps I.bk) hP' ht hc bP fun ctv h' tk hx hsz => ?_
    have I1 : Inv X pins σ H { s with heap := h'.push (PySem.W.kla_obj "<lambda>" (X.env.qual ++ "<lambda>") params body scope [] ((X.mg "__name__").getD .none) c' ctv), toks := tk } := I.kept fun b o e => Heap.get?_push_of_some _ (hx b o e)
    exact h h'.objs.size c' ((X.mg "__name__").getD .none) ctv ps H _ I1 hP ⟨ht, ha⟩ (fun _ _ _ e => e) (Heap.get?_push_size _ rfl) hco
/-- pairs by their first ints -/
def PairI (K : PySem.W.Frag) (H : Hp) (v : V) (k : Int) : Prop := ∃ t u, v = .ref t ∧ SqT K H t [.int k, u]
def sSrt (K : PySem.W.Frag) (P : Addr) (q : Str) (vs : List V) (H1 : Hp) (Q : VK) : Prop := ∃ (l : Addr) (xs : List V) (ks : List Int) (ps : Array Value), vs = [.ref l] ∧ SqL K H1 l xs ∧ xs.length ≤ 1000 ∧ Paired (PairI K H1) xs ks ∧ ks.Pairwise (· < ·) ∧ H1 P = some (.tbl ps) ∧ GoodT H1 q ps ∧
  ∀ (H2 : Hp) (ps' : Array Value) (D : Addr), H2 P = some (.tbl ps') → GoodT H2 q ps' → (∀ b o, b ≠ P → H1 b = some o → H2 b = some o) → H2 D = none → Q (.ref D) (upd H2 D (.lst xs.reverse))
def tSrt (K : PySem.W.Frag) (P : Addr) (q : Str) (te : TE) : TE := fun σ H Q => te σ H fun x H1 => sSrt K P q [x] H1 Q
theorem paired_get {α β : Type} {F : α → β → Prop} : ∀ {xs : List α} {ys : List β}, Paired F xs ys → ∀ (i : Nat) (x : α) (y : β), xs[i]? = some x → ys[i]? = some y → F x y
  | _, _, .nil, i, x, y, h, _ => by simp at h
  | _, _, .cons h t, 0, x, y, h1, h2 => by simp at h1 h2; subst h1; subst h2; exact h
  | _, _, .cons h t, i + 1, x, y, h1, h2 => paired_get t i x y (by simpa using h1) (by simpa using h2)
theorem each_vals {bs : List (V × Int)} {out : List Value} (e : PySem.W.EachIs (fun (v : Value) (b : V × Int) => RelV b.1 v) out bs) : Vals (bs.map (·.1)) out := by
  induction e with
  | nil => exact .nil
  | cons h _ ih => exact .cons h ih
theorem pe_srtLam {e : Expr} {te : TE} {c P : Addr} {j : Nat} {pa p1 p2 p3 p4 p0 lp kp pos : Pos} (he : PE X e te) (TB : LamX.TabB X.base X.mg c P) (hcode : X.env.code = .ref c) (hc : X.calm = true) (hr : Room 2 X.A) (hm : X.mg "sorted" = none) (hg : Gl X "sorted" := by rfl)
    (hclo : closureFor lamS X.env = pure [] := by rfl) (hst : starEach [e] X.env = (false, eval e X.env) :: starEach [] X.env := by rfl)
    (hb : backTo pos (starEach [e] X.env) = (false, eval e X.env) :: backTo pos (starEach [] X.env) := by rfl) (hpl : (backTo pos (starEach [e] X.env)).any (·.1) = false := by rfl) :
    PE X (.Call (.Name "sorted" p0) [e] [⟨some "key", .Lambda (lamA pa) (lamB j p1 p2 p3 p4) lamS lp, kp⟩] pos) (tSrt X.K P (X.env.qual ++ "<lambda>") te) := by
  refine ⟨fun pins s σ H Q I h => ?_⟩
  refine wpAny_Call_Name_kw (ld_blt I hg hm (show bootBuiltins "sorted" = some (.builtin "sorted") by decide +kernel) ?_ (by decide) (by decide))
  refine PyProof.Rows.callWith_kw (thn ((pa_cons he pa_nil hst).run pos pins s σ H (fun vs H1 => sSrt X.K P (X.env.qual ++ "<lambda>") vs H1 Q) I h) fun us s1 hh => ?_) hb hpl rfl rfl
  obtain ⟨vs, H1, I1, r1, l, xs, ks, ps, ex, hq, hz, hpr, hks, hP, hgd, q⟩ := hh
  subst ex
  show wpAny _ _ (evalAll ((do let v ← eval (.Lambda (lamA pa) (lamB j p1 p2 p3 p4) lamS lp) X.env; standAt pos; pure v) :: (backToKw pos (keywordEach [] X.env)).map (·.2))) _ _ s1
  refine wpAny_evalAll_cons (wpAny_bind (lam_make3 I1 TB hcode hP hgd rfl hclo fun f c' pm ctv ps' H2 s2 I2 hP2 hg2 keep hf hc2 => wpAny_bind (wpAny_standAt (wpAny_pure ?_))))
  refine wpAny_evalAll_nil ?_
  obtain rfl := Vals.ref1 r1
  show wpAny (model X.prog X.w) X.A (call (.builtin "sorted") [.ref l] [(Str.ofString "key", .ref f)]) (EP X pins σ Q) X.xe s2
  have hlP : ∀ {b : Addr} {o : HO}, H1 b = some o → (∀ ps, o ≠ .tbl ps) → H2 b = some o := fun {b o} e n => keep b o (fun z => n ps (by rw [z, hP] at e; exact (Option.some.inj e).symm)) e
  have hl2 : SqL X.K H2 l xs := by
    rcases hq with (h | ⟨o, h⟩) | h
    · exact .inl (.inl (hlP h fun _ z => by cases z))
    · exact .inl (.inr ⟨o, hlP h fun _ z => by cases z⟩)
    · exact .inr h
  have ht2 : ∀ {t : Addr} {ys : List V}, SqT X.K H1 t ys → SqT X.K H2 t ys := fun {t ys} hq => by
    rcases hq with (h | ⟨o, h⟩) | h
    · exact .inl (.inl (hlP h fun _ z => by cases z))
    · exact .inl (.inr ⟨o, hlP h fun _ z => by cases z⟩)
    · exact .inr h
  obtain ⟨its, rv, pl, hz2⟩ := I2.list hl2
  have hlen := rv.length
  have hkl : xs.length = ks.length := Paired.length hpr
  have hcd : s2.heap.CodeRec (.ref c') (X.env.qual ++ "<lambda>") := by
    obtain ⟨⟨oc, vs, t, a1, a2, a3⟩, _⟩ := (show ObjOk X.prog X.w H2 s2.heap c' (CodeO c' (X.env.qual ++ "<lambda>")) from I2.hok c' _ hc2)
    exact ⟨c', oc, vs, t, rfl, a1, a2, a3⟩
  have each : PySem.W.EachIs (fun (v : Value) (b : V × Int) => RelV b.1 v) its (xs.zip ks) := by
    refine PySem.W.EachIs.of_zip (by rw [List.length_zip]; omega) fun p hp => ?_
    obtain ⟨i, hi⟩ := List.mem_iff_getElem?.mp hp
    obtain ⟨j1, j2⟩ := List.getElem?_zip_eq_some.mp hi
    obtain ⟨j3, j4⟩ := List.getElem?_zip_eq_some.mp j2
    obtain ⟨u, hu, r⟩ := rv.get j3
    rw [j1] at hu
    cases hu
    exact r
  have hroom := hr.in1.in1
  refine PySem.W.sorted_key_data (s := s2) (b := false) (fun b : V × Int => .int (-b.2)) pl.isList each (PySem.W.AllAlike.of fun _ _ => by simp [PySem.W.alike]) (PySem.W.Sortable.others fun _ => ⟨by simp, by simp⟩) (by rw [List.length_zip, sizeLine_eq]; omega)
    (fun b _ => by have := hr.un; show X.A.units + 2 + 0 < cLine; omega) (PyProof.Rows.ksk_s1 _ _) (fun _ => PyProof.Rows.ksk_l1 _ _) (fun _ => PyProof.Rows.ksk_t1 _ _) (fun v b hvb hb h tk kp => ?_) fun out c2 h' tk kp hn hD hlo eo => ?_
  · obtain ⟨i, hi⟩ := List.mem_iff_getElem?.mp hb
    obtain ⟨j1, j2⟩ := List.getElem?_zip_eq_some.mp hi
    obtain ⟨t, u, e1, hT⟩ := paired_get hpr i _ _ j1 j2
    rw [e1] at hvb
    obtain rfl : v = Value.ref t := hvb
    obtain ⟨its2, rv2, pt, _⟩ := I2.tuple (ht2 hT)
    obtain ⟨u1, u2, rfl, ri, rj⟩ := vals2 rv2
    obtain ⟨tk1, rfl⟩ := ri
    refine lam_key (s := { s2 with heap := h, toks := tk }) (k := b.2) hroom.depth (kp _ _ hf) (hcd.keeps kp) (I2.nolimit.keeps kp) (tk := tk1) (u := u2) ?_
    obtain ⟨o, ho, r⟩ := pt
    exact ⟨o, kp _ _ ho, r⟩
  · have e0 : (xs.zip ks).mergeSort (PySem.W.dataLe false fun b : V × Int => .int (-b.2)) = (xs.zip ks).reverse := by
      have hks2 : (xs.zip ks).Pairwise (fun a b => a.2 < b.2) := by
        have m : (xs.zip ks).map (·.2) = ks := List.map_snd_zip (by omega)
        rw [← m] at hks
        exact List.pairwise_map.mp hks
      have hrev : (xs.zip ks).reverse.Pairwise (fun a b => -a.2 < -b.2) := by
        rw [List.pairwise_reverse]
        exact hks2.imp fun h => by omega
      have perm : ((xs.zip ks).mergeSort (PySem.W.dataLe false fun b : V × Int => .int (-b.2))).Perm (xs.zip ks) := List.mergeSort_perm _ _
      have srt : ((xs.zip ks).mergeSort (PySem.W.dataLe false fun b : V × Int => .int (-b.2))).Pairwise (fun x y => PySem.W.dataLe false (fun b : V × Int => .int (-b.2)) x y = true) := PySem.W.sort_pairwise (PySem.W.sortLe_total _ _ _) _
      have nd : ((xs.zip ks).mergeSort (PySem.W.dataLe false fun b : V × Int => .int (-b.2))).Pairwise (fun a b => a.2 ≠ b.2) := (perm.pairwise_iff (fun h => Ne.symm h)).mpr (hks2.imp fun h => by omega)
      refine up_one (fun b : V × Int => -b.2) (perm.trans (List.reverse_perm _).symm) ?_ hrev
      refine (srt.and nd).imp fun {a b} h => ?_
      obtain ⟨h1, h2⟩ := h
      rw [PySem.W.dataLe_int] at h1
      have := of_decide_eq_true h1
      omega
    rw [e0] at eo
    have vals := each_vals eo
    have em : ((xs.zip ks).reverse).map (·.1) = xs.reverse := by
      rw [List.map_reverse, List.map_fst_zip (by omega)]
    rw [em] at vals
    have hf : H2 (s2.heap.objs.size + 1) = none := I2.hok.fresh (Nat.le_succ _)
    have hlen2 : xs.reverse.length ≤ sizeLine := by rw [List.length_reverse, sizeLine_eq]; omega
    exact ⟨.ref (s2.heap.objs.size + 1), upd H2 (s2.heap.objs.size + 1) (.lst xs.reverse), I2.laid (t' := tk) kp (Nat.le_succ _) ⟨hlen2, out, c2, vals, hD⟩, rfl, q H2 ps' _ hP2 hg2 keep hf⟩
end
end KX
namespace KX
open PySem PySem.Spec PyProof.Rows L2
/-! ## wells with other springs -/
theorem dl_sp {n : Nat} {W : Nat → Well} {s ln : Nat → Int} : dl n (wSp W s) ln = dl n W ln := by
  funext k
  unfold dl
  rw [way_sp, way_sp]
theorem foundD_sp {n : Nat} {W : Nat → Well} {s g : Nat → Int} {j : Nat} : foundD n (wSp W s) g j = foundD n W g j := rfl
theorem sumsOk_sp {n : Nat} {W : Nat → Well} {s ln : Nat → Int} {m : Nat} (h : sumsOk n W ln m) : sumsOk n (wSp W s) ln m := by
  obtain ⟨a, b, c⟩ := h
  refine ⟨by rw [dl_sp]; exact a, by rw [dl_sp]; exact b, by rw [dl_sp]; exact c⟩
/-! ## the lots' springs -/
theorem done_cong {t : Nat → Bool} {F G : Nat → PyData} {n : Nat} (h : ∀ j, j < n → t j = true → F j = G j) : done t F n = done t G n := by
  unfold done
  exact List.map_congr_left fun j hj => h j (List.mem_range.mp (List.mem_filter.mp hj).1) (List.mem_filter.mp hj).2
def lotS (W : Nat → Well) (k : Nat) : List Int := if 0 < k ∧ eqW W (k - 1) = true then [(W (k - 1)).spr, (W k).spr] else [(W k).spr]
theorem found_own {n : Nat} {W : Nat → Well} (h1 : 1 ≤ n) (hr : Rods n W) : foundD n W (dl n W (out n W)) n = done (lastJ n W) (fun j => .tuple [yL n W j, .int (lotS W (n - 1 - j)).sum]) n := by
  unfold foundD
  refine done_cong fun j hj ht => ?_
  unfold fF
  rw [own_lot h1 hr (by omega) ht]
  rfl
theorem lotS_len (W : Nat → Well) (k : Nat) : (lotS W k).length = (lotK W k).length := by
  unfold lotS lotK
  split <;> rfl
theorem lotK_at {W : Nat → Well} {k i : Nat} (h : i < (lotK W k).length) : ∃ j : Nat, j ≤ k ∧ yAt ((lotK W k).map .int) i = .int j ∧ (lotS W k)[i]? = some (W j).spr := by
  unfold lotK at h ⊢
  unfold lotS
  split
  · rename_i c
    rw [if_pos c] at h
    match i, h with
    | 0, _ => exact ⟨k - 1, by omega, by show PyData.int ((k : Int) - 1) = _; congr 1; omega, rfl⟩
    | 1, _ => exact ⟨k, Nat.le_refl _, rfl, rfl⟩
  · rename_i c
    rw [if_neg c] at h
    match i, h with
    | 0, _ => exact ⟨k, Nat.le_refl _, rfl, rfl⟩
theorem lotS_vec (W : Nat → Well) (k : Nat) : (lotS W k).map PyData.int = vec (lotK W k).length fun i => .int ((lotS W k).getD i 0) := by
  apply List.ext_getElem?
  intro i
  by_cases h : i < (lotK W k).length
  · rw [vec_get h, List.getElem?_map, List.getD_eq_getElem?_getD, List.getElem?_eq_getElem (by rw [lotS_len]; exact h)]
    rfl
  · rw [List.getElem?_eq_none (by rw [List.length_map, lotS_len]; omega), List.getElem?_eq_none (by rw [vec_len]; omega)]
/-! ## the lots of two are the pairs -/
def prD (ks : List Int) : List PyData := ks.map fun k => .tuple [.int k, .int (k + 1)]
def prK (n : Nat) (W : Nat → Well) : List Int := ((List.range (n - 1)).filter (eqW W)).map fun k : Nat => (k : Int)
theorem prD_done (n : Nat) (W : Nat → Well) : done (eqW W) (fun k => .tuple [.int k, .int (k + 1)]) (n - 1) = prD (prK n W) := by
  unfold done prD prK
  rw [List.map_map]
  rfl
theorem prK_up (n : Nat) (W : Nat → Well) : (prK n W).Pairwise (· < ·) := List.pairwise_map.mpr ((fil_pw _ _).imp fun h => by omega)
theorem prK_len (n : Nat) (W : Nat → Well) : (prK n W).length ≤ n := by
  unfold prK
  rw [List.length_map]
  exact Nat.le_trans (List.length_filter_le _ _) (by rw [List.length_range]; omega)
theorem done_sub {t p : Nat → Bool} {G : Nat → PyData} {n : Nat} : done (fun i => p (nthF t n i)) (fun i => G (nthF t n i)) ((List.range n).filter t).length = (((List.range n).filter t).filter p).map G := by
  unfold done nthF
  generalize (List.range n).filter t = l
  have e : l = (List.range l.length).map fun i => l.getD i n := by
    apply List.ext_getElem?
    intro i
    by_cases h : i < l.length
    · rw [List.getElem?_map, List.getElem?_range h]
      show _ = some (l.getD i n)
      rw [List.getD_eq_getElem?_getD, List.getElem?_eq_getElem h]
      rfl
    · rw [List.getElem?_eq_none (by omega), List.getElem?_eq_none (by simp; omega)]
  conv => rhs; rw [e]
  rw [List.filter_map, List.map_map]
  rfl
theorem pairs_eq {n : Nat} {W : Nat → Well} (h1 : 1 ≤ n) : done (fun i => decide (1 < (((lotK W (n - 1 - nthF (lastJ n W) n i)).map PyData.int).length : Int))) (fun i => yL n W (nthF (lastJ n W) n i)) ((List.range n).filter (lastJ n W)).length = (prD (prK n W)).reverse := by
  rw [done_sub (p := fun j => decide (1 < (((lotK W (n - 1 - j)).map PyData.int).length : Int))) (G := yL n W)]
  obtain ⟨m, rfl⟩ : ∃ m, n = m + 1 := ⟨n - 1, by omega⟩
  rw [List.filter_filter, List.range_succ, List.filter_append, List.map_append]
  have e2 : ([m].filter fun j => decide (1 < (((lotK W (m + 1 - 1 - j)).map PyData.int).length : Int)) && lastJ (m + 1) W j) = [] := by
    have : lotK W (m + 1 - 1 - m) = [((m + 1 - 1 - m : Nat) : Int)] := if_neg fun q => by have := q.1; omega
    rw [List.filter_cons, this]
    rfl
  have e1 : ((List.range m).filter fun j => decide (1 < (((lotK W (m + 1 - 1 - j)).map PyData.int).length : Int)) && lastJ (m + 1) W j) = (List.range m).filter fun j => eqW W (m - 1 - j) := List.filter_congr fun j hj => by
    have hjm := List.mem_range.mp hj
    cases c : eqW W (m - 1 - j) with
    | true =>
      have hl : lotK W (m + 1 - 1 - j) = [((m + 1 - 1 - j : Nat) : Int) - 1, (m + 1 - 1 - j : Nat)] := if_pos ⟨by omega, by rw [show m + 1 - 1 - j - 1 = m - 1 - j by omega]; exact c⟩
      have hla : lastJ (m + 1) W j = true := by
        unfold lastJ lastK
        rw [Bool.or_eq_true]
        refine .inr ?_
        cases c2 : eqW W (m + 1 - 1 - j) with
        | false => rfl
        | true =>
          have := eqW_no2 (W := W) (k := m - 1 - j) (by rw [show m - 1 - j + 1 = m + 1 - 1 - j by omega]; exact c2)
          rw [c] at this; cases this
      rw [hl, hla]
      rfl
    | false =>
      have hl : lotK W (m + 1 - 1 - j) = [((m + 1 - 1 - j : Nat) : Int)] := if_neg fun q => by
        have := q.2
        rw [show m + 1 - 1 - j - 1 = m - 1 - j by omega, c] at this
        cases this
      rw [hl]
      rfl
  rw [e1, e2, List.map_nil, List.append_nil]
  unfold prD prK
  rw [← List.map_reverse, ← List.map_reverse, ← List.filter_reverse]
  show _ = List.map _ (List.map _ (List.filter _ (List.range m).reverse))
  rw [range_rev, List.filter_map, List.map_map, List.map_map]
  refine List.map_congr_left fun j hj => ?_
  have hjm := List.mem_range.mp (List.mem_filter.mp hj).1
  have c := (List.mem_filter.mp hj).2
  show tI2 (lotK W (m + 1 - 1 - j)) = _
  have hl : lotK W (m + 1 - 1 - j) = [((m + 1 - 1 - j : Nat) : Int) - 1, (m + 1 - 1 - j : Nat)] := if_pos ⟨by omega, by rw [show m + 1 - 1 - j - 1 = m - 1 - j by omega]; exact c⟩
  rw [hl]
  show PyData.tuple [.int _, .int _] = PyData.tuple [.int _, .int _]
  have a1 : ((m + 1 - 1 - j : Nat) : Int) - 1 = ((m - 1 - j : Nat) : Int) := by omega
  have a2 : ((m + 1 - 1 - j : Nat) : Int) = ((m - 1 - j : Nat) : Int) + 1 := by omega
  rw [a1, a2]
/-! ## the same of it -/
theorem shaped_prD (ks : List Int) : SeqAt.shaped (.list (prD ks)) = true := by
  have h1 : PyData.canLayAll0 (prD ks) = true := by
    induction ks with
    | nil => rfl
    | cons n ns ih =>
      show PyData.canLayAll0 (_ :: prD ns) = true
      rw [PyData.canLayAll0, ih]
      rfl
  have h2 : PyData.depthAll (prD ks) ≤ 2 := by
    induction ks with
    | nil => decide
    | cons n ns ih =>
      show PyData.depthAll (.tuple [.int n, .int (n + 1)] :: prD ns) ≤ 2
      rw [PyData.depthAll]
      have h3 : (PyData.tuple [.int n, .int (n + 1)]).depth ≤ 2 := by simp [PyData.depth, PyData.depthAll]
      have ih' := ih (by
        have : PyData.canLayAll0 (_ :: prD ns) = true := h1
        rw [PyData.canLayAll0, Bool.and_eq_true] at this
        exact this.2)
      omega
  have h3 : (PyData.list (prD ks)).depth ≤ 64 := by
    rw [PyData.depth]
    omega
  unfold SeqAt.shaped
  rw [decide_eq_true h3, Bool.and_true]
  exact h1
theorem prD_rev (ks : List Int) : (prD ks).reverse = prD ks.reverse := List.map_reverse.symm
theorem eqv_prD (ks : List Int) : PyData.eqv (.list (prD ks)) (.list (prD ks)) = true := SeqAt.eqv_refl _ (by
  have := shaped_prD ks
  unfold SeqAt.shaped at this
  rw [Bool.and_eq_true] at this
  exact this.1)
end KX
namespace KX
open PySem PySem.Spec PyProof.Rows L2 LamX
/-! ## a def with a lambda: its code object is known -/
section
variable {P : Program} {w : World} {K : PySem.W.Frag} {mg : Str → Option Value} {base : Heap}
theorem okC {x qual : Str} {st : Stmt} {f : Addr} {fd : FuncData} {N ps : List Str} {k : Nat} {sp : Sp} {c : Addr} (F : Fun K x qual st f fd) (hc : fd.code = .ref c) (S : FnScope N ps (defScope st)) (len : ∀ vs H Q E, sp vs H Q E → vs.length = ps.length)
    (hbody : ∀ (A : Around) (outer : List Env) (s : Shared) (H : Hp) (vs : List V) (Q : VK) (E : XK), Room k (A.deeper (envOfC qual (defScope st) s.heap.objs.size f (.ref c))) → sp vs H Q E →
      ∃ t, PSs (cxOf CX0 P w K mg base N qual (defScope st) f (.ref c) A outer s H E).nox (defBody st) t ∧ t { nx := fun _ H' => Q .non H', rt := Q } (start N vs) H) : FnOk P w K mg base CX0 (k + 1) f fd ps sp := by
  obtain ⟨oc, od, kV, doc, pm, an, cdv, ct, osl, rfl, lk, hcd⟩ := F.ex
  obtain rfl : cdv = .ref c := hc
  refine fn_of lk hcd S len fun A outer s H vs Q E hr hsp => ?_
  obtain ⟨t, h, q⟩ := hbody A outer s H vs Q E hr hsp
  exact ⟨t, h.nox, q⟩
end
theorem good_msk {H : Hp} {q : Str} {ps : Array Value} {O : List Addr} (g : GoodT H q ps) (h : ∀ b ∈ O, ∀ c, H b ≠ some (CodeO c q)) : GoodT (msk O H) q ps :=
  ⟨g.1, fun pos cv e => let ⟨c, a, b⟩ := g.2 pos cv e; ⟨c, a, by rw [msk_out (fun z => h _ z _ b)]; exact b⟩⟩
theorem codeO_l {c : Addr} {q : Str} (xs : List V) : CodeO c q ≠ .lst xs := fun z => by
  unfold CodeO at z
  cases z
/-! ## a def that is handed a list of its own, and makes a lambda -/
def spR (K : PySem.W.Frag) (P : Addr) (q : Str) (R : List PyData → Prop) : Sp := fun vs H Q _ => ∃ (p : Addr) (u : List PyData) (xs : List V) (ps : Array Value), vs = [.ref p] ∧ p ≠ P ∧ H p = some (.lst xs) ∧ xs.length ≤ 1000 ∧ DpAll K (msk [p, P] H) xs u ∧ R u ∧ H P = some (.tbl ps) ∧ GoodT H q ps ∧
  ∀ H' ps', Same (msk [p, P] H) (msk [p, P] H') → H' P = some (.tbl ps') → GoodT H' q ps' → Q (.bl true) H'
structure Rr (K : PySem.W.Frag) (B : Hp) (P : Addr) (q : Str) (D : Ends) : Prop where
  rt : ∀ H M L σ ps, (P, Ct.x (.tbl ps)) ∈ M → Sta K B M L σ H → GoodT B q ps → D.rt (.bl true) H
theorem Rr.re {K : PySem.W.Frag} {B B' : Hp} {P : Addr} {q : Str} {D : Ends} {ps' : Array Value} (R : ∀ H M L σ ps, (P, Ct.x (.tbl ps)) ∈ M → Sta K B M L σ H → GoodT H q ps → D.rt (.bl true) H) (h : Same B B') (g : GoodT B' q ps') {H : Hp} {M : Ms} {L : Ls} {σ : L2.St} (hm : (P, Ct.x (.tbl ps')) ∈ M) (S : Sta K B' M L σ H) : D.rt (.bl true) H :=
  R H M L σ ps' hm (S.rebase h) (g.mono fun c e => S.ex _ _ e)
section
variable {P : Program} {w : World} {K : PySem.W.Frag} {mg : Str → Option Value} {base : Heap}
theorem fn_right {x qual pn : Str} {st : Stmt} {f : Addr} {fd : FuncData} {N : List Str} {k : Nat} {R : List PyData → Prop} {c Pa : Addr} (F : Fun K x qual st f fd) (hc : fd.code = .ref c) (S : FnScope N [pn] (defScope st)) {q : Str} (hN : 1 ≤ N.length)
    (hbody : ∀ (A : Around) (outer : List Env) (s : Shared) (H : Hp) (E : XK), Room k (A.deeper (envOfC qual (defScope st) s.heap.objs.size f (.ref c))) → ∀ (B : Hp) (p : Addr) (ps : Array Value) (D : Ends) (u : List PyData), R u → p ≠ Pa → GoodT B q ps →
      (∀ H M L σ ps, (Pa, Ct.x (.tbl ps)) ∈ M → Sta K B M L σ H → GoodT H q ps → D.rt (.bl true) H) →
      Tr (cxOf CX0 P w K mg base N qual (defScope st) f (.ref c) A outer s H E).nox (Sta K B [(p, .l u), (Pa, .x (.tbl ps))] (startE N p [])) (defBody st) D) : FnOk P w K mg base CX0 (k + 1) f fd [pn] (spR K Pa q R) := by
  refine okC F hc S (fun vs H Q E h => ?_) (fun A outer s H vs Q E hr h => ?_)
  · obtain ⟨p, u, xs, ps, rfl, _⟩ := h
    rfl
  · obtain ⟨p, u, xs, ps, rfl, hne, h1, h2, h3, hR, h4, h5, kq⟩ := h
    have ef : frz [Pa] H = [(Pa, Ct.x (.tbl ps))] := by
      show [(Pa, Ct.x ((H Pa).getD (.lst [])))] = _
      rw [h4]; rfl
    have g0 : GoodT (msk [p, Pa] H) q ps := good_msk h5 fun b hb c => by
      rcases List.mem_cons.mp hb with rfl | hb
      · rw [h1]; exact fun z => codeO_l _ (Option.some.inj z).symm
      · rw [List.mem_singleton.mp hb, h4]; exact fun z => codeO_ne _ (Option.some.inj z).symm
    have st := sta_startE (K := K) (N := N) (O := [Pa]) (H := H) (p := p) (ws := []) (xs := xs) (u := u) (ds := []) (fun e => by rw [e] at hN; exact absurd hN (by decide)) (fun b hb => ⟨.tbl ps, by rw [List.mem_singleton.mp hb]; exact h4⟩) (by simp) (fun z => hne (List.mem_singleton.mp z)) h1 h2 h3 .nil hN
    rw [ef] at st
    refine ⟨_, hbody A outer s H E hr (msk [p, Pa] H) p ps { nx := fun _ H' => Q .non H', rt := Q } u hR hne g0 (fun H' M L σ ps' hm S' g => ?_), st, Le.refl _⟩
    refine kq H' ps' (fun b o e => ?_) (S'.own _ hm) g
    have hb : b ∉ [p, Pa] := fun z => by rw [msk_in z] at e; cases e
    rw [msk_out hb]
    exact S'.ex _ _ e
end
/-! ## if a != sorted(xs, key=lambda x: -x[0]): .. -/
theorem Sta.tabbed {K : PySem.W.Frag} {B H H' : Hp} {M : Ms} {L : Ls} {σ : L2.St} {k : Nat} {P : Addr} {u u' : HO} (S : Sta K B M L σ H) (hM : M[k]? = some (P, Ct.x u)) (keep : ∀ b o, b ≠ P → H b = some o → H' b = some o) (hP : H' P = some u') :
    Sta K (msk (adr M) H') (M.set k (P, Ct.x u')) L σ H' ∧ Same B (msk (adr M) H') ∧ Same (msk (adr M) H) (msk (adr M) H') := by
  have hmem : (P, Ct.x u) ∈ M := List.mem_of_getElem? hM
  have hPm : P ∈ adr M := List.mem_map.mpr ⟨_, hmem, rfl⟩
  have hkl : k < M.length := (List.getElem?_eq_some_iff.mp hM).1
  have ad : adr (M.set k (P, Ct.x u')) = adr M := adr_set hM
  have s2 : Same (msk (adr M) H) (msk (adr M) H') := fun b o e => by
    have hb : b ∉ adr M := fun z => by rw [msk_in z] at e; cases e
    rw [msk_out hb] at e ⊢
    exact keep b o (fun z => hb (z ▸ hPm)) e
  refine ⟨⟨S.len, fun j t q => ?_, by rw [ad]; exact S.nd, fun q hq => ?_, by exact msk_same, fun q hq => ?_⟩, fun b o e => ?_, s2⟩
  · rw [ad]
    obtain ⟨v, a1, a2⟩ := S.loc j t q
    exact ⟨v, a1, sh_mono s2 a2⟩
  · rw [ad]
    obtain ⟨j, hj⟩ := List.mem_iff_getElem?.mp hq
    by_cases hkj : k = j
    · subst hkj
      rw [List.getElem?_set_self hkl] at hj
      cases hj
      exact hP
    · rw [List.getElem?_set_ne hkj] at hj
      have hq' : q ∈ M := List.mem_of_getElem? hj
      have hne : q.1 ≠ P := fun e => by
        have a1 : (adr M)[j]? = some P := by
          unfold adr
          rw [List.getElem?_map, hj, ← e]
          rfl
        have a2 : (adr M)[k]? = some P := by
          unfold adr
          rw [List.getElem?_map, hM]
          rfl
        have hjl : j < (adr M).length := (List.getElem?_eq_some_iff.mp a1).1
        exact hkj ((List.getElem?_inj hjl S.nd).mp (a1.trans a2.symm)).symm
      have c := S.own q hq'
      obtain ⟨o, ho⟩ := ct_some c
      rw [keep _ _ hne ho, ← ho]
      exact ct_mono s2 c
  · have : q.1 ∈ adr M := by
      rw [← ad]
      exact List.mem_map.mpr ⟨q, hq, rfl⟩
    exact msk_in this
  · have hb : b ∉ adr M := fun z => by
      obtain ⟨q, hq, rfl⟩ := List.mem_map.mp z
      rw [S.fr q hq] at e
      cases e
    have := s2 b o (by rw [msk_out hb]; exact S.ex _ _ e)
    exact this
theorem prD_paired {K : PySem.W.Frag} {H : Hp} : ∀ {ks : List Int} {xs : List V}, DpAll K H xs (prD ks) → Paired (PairI K H) xs ks
  | [], _, h => by cases h; exact .nil
  | k :: ks, _, h => by
    cases h with
    | cons h1 h2 =>
      obtain ⟨a, ys, rfl, h3, h4⟩ := dp_tup h1
      obtain ⟨v, w, rfl, g1, g2⟩ := dpa2 h4
      cases g1
      exact .cons ⟨a, w, rfl, h3⟩ (prD_paired h2)
theorem dpa_rev {K : PySem.W.Frag} {H : Hp} {xs : List V} {ds : List PyData} (h : DpAll K H xs ds) : DpAll K H xs.reverse ds.reverse := by
  induction ds generalizing xs with
  | nil => cases h; exact .nil
  | cons d ds ih =>
    cases h with
    | cons h1 h2 =>
      rw [List.reverse_cons, List.reverse_cons]
      exact dpa_app (ih h2) (.cons h1 .nil)
section
variable {X : Cx} {B : Hp} {L : Ls} {a e : Expr} {d : PyData} {pos pos2 : Pos} {rest body : List Stmt} {D : Ends}
theorem tr_ifLam {c P p : Addr} {ps : Array Value} {u : List PyData} {ks : List Int} {j : Nat} {pa p1 p2 p3 p4 p0 lp kp cp : Pos} (hu : X.A.units + 64 < cLine) (hz : ks.length ≤ 1000) (hks : ks.Pairwise (· < ·)) (hg : GoodT B (X.env.qual ++ "<lambda>") ps)
    (ha : ED X B [(p, .l u), (P, .x (.tbl ps))] L a (.list (prD ks).reverse)) (he : ED X B [(p, .l u), (P, .x (.tbl ps))] L e (.list (prD ks))) (TB : LamX.TabB X.base X.mg c P) (hcode : X.env.code = .ref c) (hc : X.calm = true) (hr : Room 2 X.A) (hm : X.mg "sorted" = none)
    (hrest : ∀ B' ps', Same B B' → GoodT B' (X.env.qual ++ "<lambda>") ps' → Tr X (Sta X.K B' [(p, .l u), (P, .x (.tbl ps'))] L) rest D) (hg0 : Gl X "sorted" := by rfl)
    (hclo : closureFor lamS X.env = pure [] := by rfl) (hst : starEach [e] X.env = (false, eval e X.env) :: starEach [] X.env := by rfl)
    (hb : backTo cp (starEach [e] X.env) = (false, eval e X.env) :: backTo cp (starEach [] X.env) := by rfl) (hpl : (backTo cp (starEach [e] X.env)).any (·.1) = false := by rfl)
    (hmk : behindInMarks .NotEq (.Call (.Name "sorted" p0) [e] [⟨some "key", .Lambda (lamA pa) (lamB j p1 p2 p3 p4) lamS lp, kp⟩] cp) = false := by rfl) :
    Tr X (Sta X.K B [(p, .l u), (P, .x (.tbl ps))] L) (.If (.Compare a [.NotEq] [.Call (.Name "sorted" p0) [e] [⟨some "key", .Lambda (lamA pa) (lamB j p1 p2 p3 p4) lamS lp, kp⟩] cp] pos) body [] pos2 :: rest) D := by
  refine tr_cons (Mid := fun σ H => ∃ i : { i : Hp × Array Value // Same B i.1 ∧ GoodT i.1 (X.env.qual ++ "<lambda>") i.2 }, Sta X.K i.1.1 [(p, .l u), (P, .x (.tbl i.1.2))] L σ H)
    (ps_ifF (pt_cmpR (op_neD hu) ha (pe_srtLam he TB hcode hc hr hm hg0 hclo hst hb hpl) hmk) pss_nil) (tr_ex fun i => hrest i.1.1 i.1.2 i.2.1 i.2.2) fun σ H nx S kk => ⟨S, fun x H1 s1 g1 => ⟨S.same s1, fun y H2 s2 g2 => ?_⟩⟩
  have S2 := S.same (s1.trans s2)
  obtain ⟨l, xs, rfl, hl, hall⟩ := dp_lst g2
  have hP2 : H2 P = some (.tbl ps) := S2.own _ (List.mem_cons_of_mem _ List.mem_cons_self)
  have hxl : xs.length = ks.length := by rw [dpa_len hall]; exact List.length_map _
  refine ⟨l, xs, ks, ps, rfl, same_l msk_same hl, by omega, ?_, hks, hP2, hg.mono fun c e => S2.ex _ _ e, fun H3 ps' D' hP3 hg3 keep hD => ?_⟩
  · exact (prD_paired (dp_monos msk_same _ _ hall))
  have hDP : D' ≠ P := fun z => by rw [z, hP3] at hD; cases hD
  have keep2 : ∀ b o, b ≠ P → H2 b = some o → (upd H3 D' (.lst xs.reverse)) b = some o := fun b o hb e => by
    rw [upd_ne (ne_of_none (keep b o hb e) hD)]
    exact keep b o hb e
  have hP4 : (upd H3 D' (.lst xs.reverse)) P = some (.tbl ps') := by
    rw [upd_ne (fun z => hDP z.symm)]
    exact hP3
  obtain ⟨S4, sB, s3⟩ := S2.tabbed (k := 1) rfl keep2 hP4
  have hDM : D' ∉ adr [(p, Ct.l u), (P, Ct.x (.tbl ps))] := fun z => by
    have z' : D' = p ∨ D' = P := by simpa using z
    rcases z' with z' | z'
    · have hpP : p ≠ P := fun e => by
        have nd := S2.nd
        rw [e] at nd
        simp at nd
      obtain ⟨ys, e1, _⟩ := S2.own (p, Ct.l u) List.mem_cons_self
      have e2 := keep p _ hpP e1
      rw [← z', hD] at e2
      cases e2
    · exact hDP z'
  refine ⟨.list (prD ks).reverse, .list (prD ks).reverse, dp_mono (msk_same.trans (Same.refl _)) _ _ (dp_mono s3 _ _ (dp_mono (same_msk s2) _ _ g1)), ?_, by rw [prD_rev]; exact shaped_prD _, by rw [prD_rev]; exact shaped_prD _, ?_⟩
  · refine .lst (SqL.of upd_same) ?_
    exact dp_monos msk_same _ _ (dp_monos s3 _ _ (dpa_rev hall))
  · rw [prD_rev, eqv_prD]
    refine ⟨false, rfl, rfl, kk _ _ ⟨⟨(msk (adr [(p, Ct.l u), (P, Ct.x (.tbl ps))]) (upd H3 D' (.lst xs.reverse)), ps'), sB, ?_⟩, S4⟩⟩
    refine good_msk (hg3.mono fun c e => ?_) fun b hb c => ?_
    · rw [upd_ne (ne_of_none e hD)]
      exact e
    · have z' : b = p ∨ b = P := by simpa using hb
      rcases z' with rfl | rfl
      · obtain ⟨ys, e1, _⟩ := S4.own (b, Ct.l u) List.mem_cons_self
        have e1' : (upd H3 D' (.lst xs.reverse)) b = some (.lst ys) := e1
        rw [e1']
        exact fun z => codeO_l _ (Option.some.inj z).symm
      · rw [hP4]
        exact fun z => codeO_ne _ (Option.some.inj z).symm
end
/-! ## e or (0,), e not empty -/
section
variable {X : Cx} {B : Hp} {M : Ms} {L : Ls} {a b : Expr} {ds : List PyData} {pos : Pos} {tb : TE}
theorem ed_orT (hne : ds ≠ []) (ha : ED X B M L a (.tuple ds)) (hb : PE X b tb) : ED X B M L (.BoolOp .Or [a, b] pos) (.tuple ds) :=
  pe_imp (pe_orT ha (pe_one hb)) fun σ H Q ⟨S, k⟩ => ⟨S, fun v H1 s1 g1 => by
    obtain ⟨p, xs, rfl, h1, h2⟩ := dp_tup g1
    refine ⟨!xs.isEmpty, ?_, ?_⟩
    · exact .inr (.inl ⟨xs, same_t msk_same h1, rfl⟩)
    · cases xs with
      | nil => exact absurd (List.length_eq_zero_iff.mp (dpa_len h2).symm) hne
      | cons x xs => exact k _ H1 s1 g1⟩
end
end KX
namespace KX
open PySem PySem.Spec PyProof.Rows L2
/-! ## what the last def asks -/
theorem dep_int (N : Nat) (i : Int) : Dep N (.int i) := by cases N <;> trivial
theorem dep_bool (N : Nat) (b : Bool) : Dep N (.bool b) := by cases N <;> trivial
theorem dep_str (N : Nat) (x : Str) (h : SeqAt.shaped (.str x) = true) : Dep N (.str x) := by cases N <;> exact h
theorem dep_ints (N m : Nat) (f : Nat → Int) (h : m ≤ 900) : Dep (N + 1) (.tuple (vI m f)) := ⟨by rw [vI_len]; exact h, fun x hx => by
  obtain ⟨k, _, rfl⟩ := List.mem_map.mp hx
  exact dep_int _ _⟩
theorem dep_found (N : Nat) {n : Nat} {W : Nat → Well} {g : Nat → Int} (h : n ≤ 900) : Dep (N + 3) (.list (foundD n W g n)) := by
  refine ⟨?_, fun x hx => ?_⟩
  · unfold foundD done
    rw [List.length_map]
    exact Nat.le_trans (List.length_filter_le _ _) (by rw [List.length_range]; exact h)
  · obtain ⟨j, _, rfl⟩ := List.mem_map.mp hx
    refine ⟨by simp, fun y hy => ?_⟩
    have hy' : y = yL n W j ∨ y = .int (g (n - 1 - j)) := by simpa using hy
    rcases hy' with rfl | rfl
    · refine ⟨?_, fun z hz => ?_⟩
      · rw [List.length_map]
        exact Nat.le_trans (lotK_len W _) (by decide)
      · obtain ⟨k, _, rfl⟩ := List.mem_map.mp hz
        exact dep_int _ _
    · exact dep_int _ _
theorem dep_unfit (N : Nat) : Dep (N + 1) unfitD := ⟨by decide, fun x hx => by
  have : x = .str "unfit" := by simpa using hx
  subst this
  exact dep_str _ _ (by decide +kernel)⟩
theorem dep_heard (N : Nat) {n : Nat} {W : Nat → Well} {g : Nat → Int} {d : PyData} (h : n ≤ 900) (e : d = unfitD ∨ d = .list (foundD n W g n)) : Dep (N + 3) d := by
  rcases e with rfl | rfl
  · exact dep_unfit (N + 2)
  · exact dep_found N h
theorem lst_ws {n : Nat} {W : Nat → Well} (hn : n ≤ 900) : Dep 2 (lstN 2 (wsD n W)) ∧ tupN 2 (lstN 2 (wsD n W)) = wsD n W := by
  have e : lstN 2 (wsD n W) = .list (vec n fun k => .list [.int (W k).lv, .int (W k).room, .int (W k).spr, .int (W k).meas, .int (W k).rod]) := by
    show PyData.list ((vec n fun k => wD (W k)).map (lstN 1)) = _
    rw [vec_map]
    rfl
  rw [e]
  refine ⟨⟨by rw [vec_len]; exact hn, fun x hx => ?_⟩, ?_⟩
  · obtain ⟨k, _, rfl⟩ := List.mem_map.mp hx
    refine ⟨by simp, fun y hy => ?_⟩
    simp at hy
    rcases hy with rfl | rfl | rfl | rfl | rfl <;> trivial
  · show PyData.tuple ((vec n fun k => PyData.list [.int (W k).lv, .int (W k).room, .int (W k).spr, .int (W k).meas, .int (W k).rod]).map (tupN 1)) = _
    rw [vec_map]
    rfl
theorem heard_own {n : Nat} {W : Nat → Well} {s : Nat → Int} {m : Nat} {x row : PyData} (h1 : 1 ≤ n) (hn : n ≤ 50) (hr : Rods n W) (hs : Sprs n W) (he : easyB n W = true) (hm : m ≤ 900) (hw : way n W 0 < m) (hx : Dep 2 x) (ex : tupN 2 x = wsD n (wSp W s)) (hrow : row = .tuple (vI m (out n W)) ∨ row = .list (vI m (out n W))) :
    rqHeard [x, row] (.list (foundD n W (dl n W (out n W)) n)) :=
  ⟨some (.list (foundD n W (dl n W (out n W)) n)), ⟨x, row, n, wSp W s, m, out n W, rfl, hx, ex, h1, by omega, rods_sp hr, hrow, hm, .inr ⟨by rw [way_sp]; exact hw, sumsOk_sp (own_ok h1 hr hs he m), by rw [dl_sp, foundD_sp]⟩⟩, rfl⟩
theorem wSp_own (W : Nat → Well) : wSp W (fun k => (W k).spr) = W := rfl
theorem eqv_pair {W : Nat → Well} {k : Nat} : PyData.eqv (.tuple [.int (W k).rod, .int (W (k + 1)).rod]) (.tuple [.int 1, .int 0]) = eqW W k := by
  unfold eqW
  simp [PyData.eqv, PyData.eqvAll]
  rfl
theorem vI_take {m k : Nat} {f : Nat → Int} (h : k ≤ m) : (vI m f).take k = vI k f := by
  apply List.ext_getElem?
  intro i
  by_cases hi : i < k
  · rw [List.getElem?_take_of_lt hi, vI_get (by omega), vI_get hi]
  · rw [List.getElem?_eq_none (by rw [List.length_take]; omega), List.getElem?_eq_none (by rw [vI_len]; omega)]
theorem vI_bent {m a : Nat} {f : Nat → Int} {v : Int} (h : a < m) : (vI m f).take a ++ [.int v] ++ (vI m f).drop (a + 1) = vI m fun r => if r = a then v else f r := by
  rw [vI_take (by omega)]
  apply List.ext_getElem?
  intro i
  by_cases hi : i < m
  · rw [vI_get hi]
    by_cases h1 : i < a
    · rw [List.append_assoc, List.getElem?_append_left (by rw [vI_len]; exact h1), vI_get h1, if_neg (by omega)]
    · rw [List.append_assoc, List.getElem?_append_right (by rw [vI_len]; omega), vI_len]
      by_cases h2 : i = a
      · rw [if_pos h2, h2, Nat.sub_self]
        rfl
      · rw [if_neg h2, List.getElem?_append_right (by simp; omega), List.getElem?_drop, vI_get (by simp; omega)]
        congr 3
        simp; omega
  · rw [List.getElem?_eq_none (by simp [vI_len]; omega), List.getElem?_eq_none (by rw [vI_len]; omega)]
theorem em_to {X : Cx} {B : Hp} {M M' : Ms} {L : Ls} {e : Expr} {d d' : PyData} (h : EM X B M L e d M') (q : d = d') : EM X B M L e d' M' := q ▸ h
section
variable {X : Cx} {B : Hp} {M : Ms} {L : Ls} {e : Expr} {es : List Expr} {d : PyData} {pos spos : Pos} {rest : List Stmt} {D : Ends} {it elt : Expr} {ifs : List Expr} {scope : Scope}
/-- name = [elt for x in it if c] -/
theorem tr_lcT {n : Nat} {Y F : Nat → PyData} {t : Nat → Bool} {x nm : Str} {pn px : Pos} (i i0 : Nat) (hz : n ≤ 1000) (hc : X.calm = true) (hN : X.N.Nodup) (hi : EI X B M L (.Name x px) it n Y) (ok : blkC X.N X.env.scope scope [(x, i0)] = true)
    (htest : ∀ i, i < n → ∀ B1 Mx Da acc, adr Mx = adr M → BlkP X scope fun Z => PTs Z ifs (tPb X.K B1 ((Da, .l acc) :: Mx) ((L.set i0 none).set i0 (some (.d (Y i)))) (t i)))
    (he : ∀ i, i < n → t i = true → ∀ B1 Mx Da acc, adr Mx = adr M → BlkP X scope fun Z => ED Z B1 ((Da, .l acc) :: Mx) ((L.set i0 none).set i0 (some (.d (Y i)))) elt (F i))
    (hr : ∀ l, l ∉ adr M → Tr X (Sta X.K B ((l, .l (done t F n)) :: M) (L.set i (some (.v (.ref l))))) rest D)
    (hn1 : X.N[i]? = some nm := by rfl) (hnl : X.env.scope.names.lookup nm = some .local := by rfl)
    (hx1 : X.N[i0]? = some x := by rfl) (hx : BlkP X scope fun Z => Loc Z.env.scope x := by first | exact fun _ _ _ _ _ => Or.inl rfl | exact fun _ _ _ _ _ => Or.inr rfl) (hf : BlkP X scope fun Z => Z.fn x = true ∨ Z.env.scope.names.lookup x = some .local := by first | exact fun _ _ _ _ _ => Or.inr rfl | exact fun _ _ _ _ _ => Or.inl rfl)
    (hsw : swapsWith (.ListComp elt [⟨.Name x px, it, ifs, 0⟩] scope pos) (some (.Name nm pn)) spos.line X.env = pure true := by exact sw_true rfl rfl rfl (by decide +kernel)) (hs : ∀ x, foldedSetIterable it X.env x = pure x := by intro _; rfl) :
    Tr X (Sta X.K B M L) (.Assign [.Name nm pn] (.ListComp elt [⟨.Name x px, it, ifs, 0⟩] scope pos) spos :: rest) D :=
  tr_lcG (own := [(x, i0)]) i hz hc hN hi (blkOk_by ok) (fun s H C cl fp => pg_name hN hx1 (hx s H C cl fp) (hf s H C cl fp)) (fun i _ => tgw_name i0 (by simp)) htest he hr hn1 hnl hsw hs
/-- return e, e True -/
theorem tr_retB {P : Addr} {q : Str} {ps : Array Value} {B0 : Hp} (R : ∀ H M L σ ps, (P, Ct.x (.tbl ps)) ∈ M → Sta X.K B0 M L σ H → GoodT H q ps → D.rt (.bl true) H) (h : Same B0 B) (g : GoodT B q ps) (hm : (P, Ct.x (.tbl ps)) ∈ M) (he : ED X B M L e (.bool true)) : Tr X (Sta X.K B M L) (.Return (some e) pos :: rest) D :=
  tr_cons (Mid := fun _ _ => False) (ps_ret he) tr_false fun σ H nx S k => ⟨S, fun v H2 s g2 => by
    cases g2
    exact Rr.re R h g hm (S.same s)⟩
end
end KX
namespace KX
open PySem PySem.Spec PyProof.Rows L2 LamX
section
variable {P : Program} {w : World} {K : PySem.W.Frag} {mg : Str → Option Value} {base : Heap}
/-! ## _law_right -/
def rqRight (u : List PyData) : Prop := ∃ U : Urn, u = uD U ∧ cOk U 100
abbrev qRt : Str := ("_law_right" : Str) ++ (".<locals>." : Str) ++ ("<lambda>" : Str)
abbrev nqRight : List Str := ["_law_urn", "_law_size", "_law_wells", "_law_lots_here", "_law_springs", "_law_pairs", "_law_many", "_law_line", "_law_due_here", "_law_bare", "_law_got", "_law_at_so", "_law_bent", "_law_own", "_law_k", "_law_way", "_law_lot"]
abbrev cDue : Scope := { kind := .function, names := [(".0", .local), ("_law_way", .local), ("_law_lot", .local), ("sum", .globalImplicit), ("_law_springs", .cell)], isGenerator := false, isCoroutine := false }
theorem sqcRight : FnScope nqRight ["_law_urn"] (defScope sqRight) := ⟨rfl, rfl, rfl, by decide +kernel, rfl, by decide +kernel, by decide +kernel⟩
theorem okq_right {f c Pa : Addr} {fd : FuncData} (F : Fun K "_law_right" "_law_right" sqRight f fd) (hc : fd.code = .ref c) (TB : LamX.TabB base mg c Pa) (T : Txt mg) (D1 : Df P w K mg base CX0 1 "_law_take" pqTake (spE K rqTake)) (D2 : Df P w K mg base CX0 2 "_law_mild" ["_law_urn", "_law_many"] (spE K rqMild))
    (D3 : Df P w K mg base CX0 4 "_law_lots" ["_law_wells"] (spD K rqLots)) (D4 : Df P w K mg base CX0 2 "_law_play" pqPlay (spD K rqPlay)) (D5 : Df P w K mg base CX0 1 "_law_other" ["_law_wells", "_law_springs"] (spD K rqOther)) (D6 : Df P w K mg base CX0 5 "leaky_row" ["waters", "leak", "many"] (spD K rLRow))
    (D7 : Df P w K mg base CX0 1 "is_easy" ["waters"] (spD K rEasy)) (D8 : Df P w K mg base CX0 7 "_law_heard" ["_law_wells", "_law_line"] (spD K rqHeard)) (D9 : Df P w K mg base CX0 3 "_law_lists" ["_law_matter"] (spD K (rqLst 2))) (D10 : Df P w K mg base CX0 5 "_law_due" ["_law_wells", "_law_line"] (spD K rqDue))
    (D11 : Df P w K mg base CX0 5 "_law_same" pqSame (spD K (rqSame 4))) : FnOk P w K mg base CX0 8 f fd ["_law_urn"] (spR K Pa qRt rqRight) := by
  refine fn_right F hc sqcRight (by decide) fun A outer s H E hr B p ps D u hR hne hg R => ?_
  obtain ⟨U, rfl, hU⟩ := hR
  have hn0 := tkR_lt (u := U) (low := 5) (by decide)
  obtain ⟨n, hn⟩ : ∃ n : Nat, 1 + tkR U 5 = (n : Int) := ⟨(1 + tkR U 5).toNat, by omega⟩
  have h1 : 1 ≤ n := by omega
  have h5 : n ≤ 5 := by omega
  have c1 := cOk_step (low := 5) hU
  refine tr_setM (d := .int (1 + tkR U 5)) (M' := [(p, .l (uD (tkU U 5))), (Pa, .x (.tbl ps))]) 1 sqcRight.nd (em_add (em_of ed_int) (em_callE 0 0 D1 (hr.mono (by decide)) rfl rfl ⟨U, 5, rfl, rfl, by decide, by decide, cOk_le hU (by decide), rfl, rfl⟩ (ea_cons ed_int ea_nil))) ?_
  rw [hn]
  refine tr_setM (d := wsD n (mW (tkU U 5) n)) (M' := [(p, .l (uD (mU (tkU U 5) n))), (Pa, .x (.tbl ps))]) 2 sqcRight.nd (em_callE 0 0 D2 (hr.mono (by decide)) rfl rfl ⟨tkU U 5, n, rfl, rfl, by omega, cOk_le c1 (by decide), rfl, rfl⟩ (ea_cons (ed_name 1 rfl) ea_nil)) ?_
  have hrod := mild_rods (tkU U 5) n
  have hspr := mild_sprs (tkU U 5) n
  have heasy := mild_easy (tkU U 5) n
  have c2 := cOk_le (mU_c c1 n) (show (100 + 1 : Int) + 4 * n ≤ 200 by omega)
  generalize mW (tkU U 5) n = W at hrod hspr heasy ⊢
  generalize mU (tkU U 5) n = U2 at c2 ⊢
  have hfl : ((List.range n).filter (lastJ n W)).length ≤ n := Nat.le_trans (List.length_filter_le _ _) (by rw [List.length_range]; omega)
  refine tr_pair (d1 := .list (lotsD n W)) (d2 := .list (vI n fun i => (W i).spr)) 3 4 rfl sqcRight.nd (ed_tup (ea_cons (ed_call D3 (hr.mono (by decide)) ⟨n, W, rfl, h1, by omega, hrod, rfl⟩ (ea_cons (ed_name 2 rfl) ea_nil))
    (ea_cons (ed_of_f (ef_lcN (n := n) (Y := fun i => wD (W i)) (F := fun i => .int (W i).spr) 13 (by omega) rfl sqcRight.nd (ei_to (ei_tup (ed_name 2 rfl)) (vec_len _ _) fun i hi => vec_y hi) (by show blkC nqRight (defScope sqRight) _ _ = true; decide +kernel) fun i hi B1 Mx Da acc ad s H C cl fp => ed_ixT rfl (ed_name 13 rfl) ed_int)) ea_nil))) ?_
  refine tr_lcT (n := n - 1) (Y := fun k => .int k) (F := fun k => .tuple [.int k, .int (k + 1)]) (t := eqW W) 5 14 (by omega) rfl sqcRight.nd (ei_to (ei_range (j := (n : Int) - 1) T.range (ea_cons (ed_sub (ed_name 1 rfl) ed_int) ea_nil) (by omega) (by omega)) (by omega) fun i hi => rfl) (by show blkC nqRight (defScope sqRight) _ _ = true; decide +kernel)
    (fun k hk B1 Mx Da acc ad s H C cl fp => ?_) (fun k hk _ B1 Mx Da acc ad s H C cl fp => ?_) fun l hl => ?_
  · have hat : atI (vec n fun k => wD (W k)) ((k : Int) + 1) = some (wD (W (k + 1))) := vec_at (i := k + 1) (by omega)
    exact pts_1 (eb_eqD (da := .tuple [.int (W k).rod, .int (W (k + 1)).rod]) (db := .tuple [.int 1, .int 0]) hr.units eqv_pair (shaped_ints [_, _]) (shaped_ints [_, _])
      (ed_tup (ea_cons (ed_ixT rfl (ed_ixT (vec_at (by omega)) (ed_name 2 rfl) (ed_name 14 rfl)) ed_int) (ea_cons (ed_ixT rfl (ed_ixT hat (ed_name 2 rfl) (ed_add (ed_name 14 rfl) ed_int)) ed_int) ea_nil))) (ed_tup (ea_cons ed_int (ea_cons ed_int ea_nil))))
  · exact ed_tup (ea_cons (ed_name 14 rfl) (ea_cons (ed_add (ed_name 14 rfl) ed_int) ea_nil))
  refine tr_freeze 5 rfl ?_
  rw [prD_done]
  have hprz := prK_len n W
  have lotsAt : (lotsD n W).length = ((List.range n).filter (lastJ n W)).length ∧ ∀ i, i < ((List.range n).filter (lastJ n W)).length → yAt (lotsD n W) i = .tuple [yW n W (nthF (lastJ n W) n i), yL n W (nthF (lastJ n W) n i)] := by
    refine ⟨?_, fun i hi => ?_⟩
    · unfold lotsD; rw [done_nth, vec_len]
    · unfold lotsD; rw [done_nth, vec_y hi]
  refine tr_ifLam (ks := prK n W) hr.units (by omega) (prK_up n W) hg (ed_to (ed_of_f (ef_lcP (n := ((List.range n).filter (lastJ n W)).length) (Y1 := fun i => yW n W (nthF (lastJ n W) n i)) (Y2 := fun i => yL n W (nthF (lastJ n W) n i)) (F := fun i => yL n W (nthF (lastJ n W) n i))
    (t := fun i => decide (1 < (((lotK W (n - 1 - nthF (lastJ n W) n i)).map PyData.int).length : Int))) 15 16 (by omega) rfl sqcRight.nd (ei_to (ei_lst (ed_name 3 rfl)) lotsAt.1 lotsAt.2) (by show blkC nqRight (defScope sqRight) _ _ = true; decide +kernel)
    (fun i hi B1 Mx Da acc ad s H C cl fp => pts_1 (eb_gt rfl (ed_lenT T.len (ea_cons (ed_name 16 rfl) ea_nil)) ed_int)) (fun i hi _ B1 Mx Da acc ad s H C cl fp => ed_name 16 rfl))) (by rw [pairs_eq h1])) (ed_name 5 rfl) TB rfl rfl (hr.mono (by decide)) T.sorted fun B' ps' hB hg' => ?_
  have hw0 := way_le (n := n) (W := W) (k := 0)
  have hw2 := way_ge (n := n) (W := W) (k := 0) (by omega)
  obtain ⟨dlast, hlast⟩ := lots_last h1 hrod
  have hm0 := tkR_lt (u := U2) (low := 5) (by decide)
  obtain ⟨m, hm⟩ : ∃ m : Nat, (way n W 0 : Int) + 1 + tkR U2 5 = (m : Int) := ⟨((way n W 0 : Int) + 1 + tkR U2 5).toNat, by omega⟩
  have c3 := cOk_step (low := 5) c2
  refine tr_setM (d := .int ((way n W 0 : Int) + 1 + tkR U2 5)) (M' := [(p, .l (uD (tkU U2 5))), (Pa, .x (.tbl ps'))]) 6 sqcRight.nd (em_add (em_add (em_of (ed_ixT rfl (ed_ixL hlast (ed_name 3 rfl) (ed_neg ed_int)) ed_int)) (em_of ed_int)) (em_callE 0 0 D1 (hr.mono (by decide)) rfl rfl ⟨U2, 5, rfl, rfl, by decide, by decide, cOk_le c2 (by decide), rfl, rfl⟩ (ea_cons ed_int ea_nil))) ?_
  rw [hm]
  generalize tkU U2 5 = U3 at c3 ⊢
  have hmw : way n W 0 < m := by omega
  have hm9 : m ≤ 20 := by omega
  have hG := good_easy hrod hspr heasy m
  refine tr_set (d := .tuple (vI m (out n W))) 7 sqcRight.nd (ed_ixT rfl (ed_call D4 (hr.mono (by decide)) ⟨n, W, m, rfl, h1, by omega, by omega, hG, rfl⟩ (ea_cons (ed_name 2 rfl) (ea_cons ed_none (ea_cons (ed_name 6 rfl) ea_nil)))) ed_int) ?_
  refine tr_lcP (n := ((List.range n).filter (lastJ n W)).length) (Y1 := fun i => yW n W (nthF (lastJ n W) n i)) (Y2 := fun i => yL n W (nthF (lastJ n W) n i)) (F := fun i => .tuple [yL n W (nthF (lastJ n W) n i), .int (lotS W (n - 1 - nthF (lastJ n W) n i)).sum]) (t := fun _ => true) 8 15 16 (by omega) rfl sqcRight.nd (ei_to (ei_lst (ed_name 3 rfl)) lotsAt.1 lotsAt.2) (by show blkC nqRight (defScope sqRight) _ _ = true; decide +kernel)
    (fun i hi B1 Mx Da acc ad s H C cl fp => pts_no) (fun i hi _ B1 Mx Da acc ad s H C cl fp => ?_) fun l hl => ?_
  · obtain ⟨_, hj, _⟩ := nthF_in hi
    generalize nthF (lastJ n W) n i = j at hj ⊢
    refine ed_tup (ea_cons (ed_name 16 rfl) (ea_cons (ed_sum rfl T.sum (ea_cons (ed_to (ed_of_f (ef_lcN (n := (lotK W (n - 1 - j)).length) (Y := yAt ((lotK W (n - 1 - j)).map PyData.int)) (F := fun i => .int ((lotS W (n - 1 - j)).getD i 0)) 14 (Nat.le_trans (lotK_len W _) (by decide)) rfl sqcRight.nd (ei_to (ei_tup (ed_name 16 rfl)) (List.length_map _) fun i hi => rfl)
      (by show blkC nqRight cDue _ _ = true; decide +kernel) fun r hr' B1 Mx Da acc ad s H C cl fp => ?_)) (congrArg PyData.list (lotS_vec W (n - 1 - j)).symm)) ea_nil)) ea_nil))
    obtain ⟨q, hq1, hq2, hq3⟩ := lotK_at hr'
    have eS : (lotS W (n - 1 - j)).getD r 0 = (W q).spr := by
      rw [List.getD_eq_getElem?_getD, hq3]
      rfl
    rw [hq2, eS]
    exact ed_ixL (vI_at (f := fun i => (W i).spr) (by omega)) (ed_name 4 rfl) (ed_name 14 rfl)
  have eF : done (fun _ => true) (fun i => PyData.tuple [yL n W (nthF (lastJ n W) n i), .int (lotS W (n - 1 - nthF (lastJ n W) n i)).sum]) ((List.range n).filter (lastJ n W)).length = foundD n W (dl n W (out n W)) n := by
    rw [done_vec, found_own h1 hrod, done_nth]
  rw [eF]
  refine tr_freeze 8 rfl ?_
  have hbare : Rods n (wSp W fun _ => 0) := rods_sp hrod
  refine tr_set (d := wsD n (wSp W fun _ => 0)) 9 sqcRight.nd (ed_call D5 (hr.mono (by decide)) ⟨n, W, fun _ => 0, rfl, by omega, rfl⟩ (ea_cons (ed_name 2 rfl) (ea_cons (ed_to (ed_of_f (ef_rep (i := (n : Int)) (by omega) (by omega) (ea_cons ed_int ea_nil) (ed_name 1 rfl))) (by rw [Int.toNat_natCast]; exact congrArg PyData.list (rep_vec n _))) ea_nil))) ?_
  have eCut : cutD (vI m (out n W)) none (some (-1)) = vI (m - 1) (out n W) := by
    rw [cutD_init, vI_len]
    exact vI_take (by omega)
  obtain ⟨d5, e5, due5, heard5⟩ := heard_due (n := n) (W := wSp W fun _ => 0) (m := m - 1) (ln := out n W) h1 (by omega) hbare (by omega)
  have dw := dep_ws (n := n) (W := W) (by omega)
  have dwb := dep_ws (n := n) (W := wSp W fun _ => 0) (by omega)
  have dlb := lst_ws (n := n) (W := wSp W fun _ => 0) (by omega)
  have hd1 : rqHeard [wsD n W, .tuple (vI m (out n W))] (.list (foundD n W (dl n W (out n W)) n)) := heard_own (s := fun k => (W k).spr) h1 (by omega) hrod hspr heasy (by omega) hmw dw.1 dw.2 (.inl rfl)
  have hd2 : rqHeard [lstN 2 (wsD n (wSp W fun _ => 0)), .list (vI m (out n W))] (.list (foundD n W (dl n W (out n W)) n)) := heard_own (s := fun _ => 0) h1 (by omega) hrod hspr heasy (by omega) hmw dlb.1 dlb.2 (.inr rfl)
  have hd3 : rqHeard [wsD n (wSp W fun _ => 0), .tuple (vI (m - 1) (out n W))] d5 := heard5 _ _ dwb.1 dwb.2 (.inl rfl)
  have hx1 : Dep 4 (.list [.tuple (vI m (out n W)), .bool true, .list (foundD n W (dl n W (out n W)) n), .list (foundD n W (dl n W (out n W)) n), d5]) := ⟨by show 5 ≤ 900; decide, fun x hx => by
    have hx' : x = .tuple (vI m (out n W)) ∨ x = .bool true ∨ x = .list (foundD n W (dl n W (out n W)) n) ∨ x = d5 := by simpa using hx
    rcases hx' with rfl | rfl | rfl | rfl
    · exact dep_ints 2 m _ (by omega)
    · trivial
    · exact dep_found 0 (by omega)
    · exact dep_heard 0 (by omega) e5⟩
  refine tr_set (d := .list [.tuple (vI m (out n W)), .bool true, .list (foundD n W (dl n W (out n W)) n), .list (foundD n W (dl n W (out n W)) n), d5]) 10 sqcRight.nd (ed_lst (ea_cons (ed_call D6 (hr.mono (by decide)) ⟨wsD n W, n, W, m, rfl, dw.1, dw.2, h1, by omega, by omega, hG, rfl⟩ (ea_cons (ed_name 2 rfl) (ea_cons ed_none (ea_cons (ed_name 6 rfl) ea_nil))))
    (ea_cons (ed_call D7 (hr.mono (by decide)) ⟨n, W, rfl, by omega, by rw [heasy]⟩ (ea_cons (ed_name 2 rfl) ea_nil))
    (ea_cons (ed_call D8 hr hd1 (ea_cons (ed_name 2 rfl) (ea_cons (ed_name 7 rfl) ea_nil)))
    (ea_cons (ed_call D8 hr hd2 (ea_cons (ed_call D9 (hr.mono (by decide)) ⟨_, rfl, dwb.1, rfl⟩ (ea_cons (ed_name 9 rfl) ea_nil)) (ea_cons (ed_of_f (ef_listT (by rw [vI_len]; omega) T.list (ea_cons (ed_name 7 rfl) ea_nil))) ea_nil)))
    (ea_cons (ed_call D8 hr hd3 (ea_cons (ed_name 9 rfl) (ea_cons (ed_to (ed_cutT (ed_name 7 rfl) eo_none (eo_some (ed_neg ed_int))) (congrArg PyData.tuple eCut)) ea_nil))) ea_nil)))))) ?_
  refine tr_ifF (eb_not' (p := true) rfl (eb_val (ed_call D11 (hr.mono (by decide)) ⟨_, rfl, hx1, rfl⟩ (ea_cons (ed_name 10 rfl) (ea_cons (ed_lst (ea_cons (ed_name 7 rfl) (ea_cons ed_bool (ea_cons (ed_name 8 rfl) (ea_cons (ed_name 8 rfl)
    (ea_cons (ed_call D10 (hr.mono (by decide)) due5 (ea_cons (ed_name 9 rfl) (ea_cons (ed_to (ed_cutT (ed_name 7 rfl) eo_none (eo_some (ed_neg ed_int))) (congrArg PyData.tuple eCut)) ea_nil))) ea_nil)))))) ea_nil))))) ?_
  have ha0 := tkR_lt (u := U3) (low := (m : Int)) (by omega)
  obtain ⟨a, ha⟩ : ∃ a : Nat, tkR U3 m = (a : Int) := ⟨(tkR U3 m).toNat, by omega⟩
  have ham : a < m := by omega
  have c4 := cOk_step (low := (m : Int)) c3
  refine tr_setM (d := .int (tkR U3 m)) (M' := [(p, .l (uD (tkU U3 m))), (Pa, .x (.tbl ps'))]) 11 sqcRight.nd (em_callE 0 0 D1 (hr.mono (by decide)) rfl rfl ⟨U3, m, rfl, rfl, by omega, by omega, cOk_le c3 (by decide), rfl, rfl⟩ (ea_cons (ed_name 6 rfl) ea_nil)) ?_
  rw [ha]
  generalize tkU U3 (m : Int) = U4 at c4 ⊢
  have hb0 := tkR_lt (u := U4) (low := 3) (by decide)
  obtain ⟨δ, hδ⟩ : ∃ δ : Int, atI [PyData.int 1, .int (-1), .int 4] (tkR U4 3) = some (.int δ) := by
    have : tkR U4 3 = 0 ∨ tkR U4 3 = 1 ∨ tkR U4 3 = 2 := by omega
    rcases this with e | e | e <;> rw [e]
    · exact ⟨1, rfl⟩
    · exact ⟨-1, rfl⟩
    · exact ⟨4, rfl⟩
  obtain ⟨v, hv⟩ : ∃ v : Int, (if out n W a + δ > 0 then out n W a + δ else 0) = v := ⟨_, rfl⟩
  refine tr_setM (d := .tuple (vI m fun r => if r = a then v else out n W r)) (M' := [(p, .l (uD (tkU U4 3))), (Pa, .x (.tbl ps'))]) 12 sqcRight.nd (em_to (em_catT (M' := [(p, .l (uD (tkU U4 3))), (Pa, .x (.tbl ps'))]) (by
      have z1 := @cutD_len (vI m (out n W)) none (some (a : Int))
      have z2 := @cutD_len (vI m (out n W)) (some ((a : Int) + 1)) none
      rw [vI_len] at z1 z2
      rw [List.length_append]
      show _ + 1 + _ ≤ 1000
      omega) (em_catT (by
      have z1 := @cutD_len (vI m (out n W)) none (some (a : Int))
      rw [vI_len] at z1
      show _ + 1 ≤ 1000
      omega) (em_of (ed_cutT (ed_name 7 rfl) eo_none (eo_some (ed_name 11 rfl))))
    (em_tup (ema_cons (em_max2 rfl T.max (ema_cons (em_of ed_int) (ema_cons (em_add (em_of (ed_ixT (vI_at ham) (ed_name 7 rfl) (ed_name 11 rfl))) (em_ixL hδ (em_of (ed_lst (ea_cons ed_int (ea_cons (ed_neg ed_int) (ea_cons ed_int ea_nil)))))
      (em_callE 0 0 D1 (hr.mono (by decide)) rfl rfl ⟨U4, 3, rfl, rfl, by decide, by decide, cOk_le c4 (by decide), rfl, rfl⟩ (ea_cons ed_int ea_nil)))) ema_nil))) ema_nil)))
    (em_of (ed_cutT (ed_name 7 rfl) (eo_some (ed_add (ed_name 11 rfl) ed_int)) eo_none))) (congrArg PyData.tuple (by
      rw [show ((a : Int) + 1) = ((a + 1 : Nat) : Int) by omega, cutD_take, cutD_drop, hv]
      exact vI_bent ham))) ?_
  obtain ⟨d6, e6, due6, heard6⟩ := heard_due (n := n) (W := W) (m := m) (ln := fun r => if r = a then v else out n W r) h1 (by omega) hrod (by omega)
  have hd6 : rqHeard [wsD n W, .tuple (vI m fun r => if r = a then v else out n W r)] d6 := heard6 _ _ dw.1 dw.2 (.inl rfl)
  have hd7 : rqHeard [wsD n W, .tuple (vI (way n W 0) (out n W))] unfitD := ⟨none, ⟨_, _, n, W, way n W 0, out n W, rfl, dw.1, dw.2, h1, by omega, hrod, .inl rfl, by omega, .inl ⟨.inl (Nat.le_refl _), rfl⟩⟩, rfl⟩
  have hx2 : Dep 4 (.list [d6, unfitD]) := ⟨by show 2 ≤ 900; decide, fun x hx => by
    have hx' : x = d6 ∨ x = unfitD := by simpa using hx
    rcases hx' with rfl | rfl
    · exact dep_heard 0 (by omega) e6
    · exact dep_unfit 2⟩
  have hne2 : vI (way n W 0) (out n W) ≠ [] := fun e => by
    have := vI_len (way n W 0) (out n W)
    rw [e] at this
    have : 0 = way n W 0 := this
    omega
  refine tr_set (d := .list [d6, unfitD]) 10 sqcRight.nd (ed_lst (ea_cons (ed_call D8 hr hd6 (ea_cons (ed_name 2 rfl) (ea_cons (ed_name 12 rfl) ea_nil))) (ea_cons (ed_call D8 hr hd7 (ea_cons (ed_name 2 rfl)
    (ea_cons (ed_orT hne2 (ed_to (ed_cutT (ed_name 7 rfl) eo_none (eo_some (ed_ixT rfl (ed_ixL hlast (ed_name 3 rfl) (ed_neg ed_int)) ed_int))) (congrArg PyData.tuple (by rw [cutD_take]; exact vI_take (by omega)))) (ed_tup (B := B') (M := [(p, .l (uD (tkU U4 3))), (Pa, .x (.tbl ps'))]) (L := []) (ea_cons ed_int ea_nil))) ea_nil))) ea_nil))) ?_
  exact tr_retB R hB hg' (List.mem_cons_of_mem _ List.mem_cons_self) (ed_call D11 (hr.mono (by decide)) ⟨_, rfl, hx2, rfl⟩ (ea_cons (ed_name 10 rfl) (ea_cons (ed_lst (ea_cons (ed_call D10 (hr.mono (by decide)) due6 (ea_cons (ed_name 2 rfl) (ea_cons (ed_name 12 rfl) ea_nil))) (ea_cons (ed_lst (ea_cons ed_str ea_nil)) ea_nil))) ea_nil)))
end
end KX
namespace KX
open PySem PySem.Spec PyProof.Rows L2 LamX
section
variable {Z : Cx} {B : Hp} {L : Ls} {e : Expr} {pos : Pos}
/-- f(e), e a new list, f a def that makes lambdas -/
theorem pe_right {Da P : Addr} {acc us : List PyData} {ps : Array Value} {q x pn : Str} {k : Nat} {R : List PyData → Prop} {px : Pos} (F : Df Z.prog Z.w Z.K Z.mg Z.base CX0 k x [pn] (spR Z.K P q R)) (hr : Room k Z.A) (he : EF Z B [(Da, .l acc), (P, .x (.tbl ps))] L e (.l us)) (hR : R us)
    (hg : Gl Z x := by rfl) (hdb : (x == ("__debug__" : Str)) = false := by decide) (hst : starEach [e] Z.env = (false, eval e Z.env) :: starEach [] Z.env := by rfl) (hpl : (backTo pos (starEach [] Z.env)).any (·.1) = false := by rfl) :
    PE Z (.Call (.Name x px) [e] [] pos) (fun σ H Q => Sta Z.K B [(Da, .l acc), (P, .x (.tbl ps))] L σ H ∧ GoodT H q ps ∧ ∀ H' ps', Sta Z.K B [(Da, .l acc), (P, .x (.tbl ps'))] L σ H' → GoodT H' q ps' → Q (.bl true) H') := by
  obtain ⟨f, fd, hm, hk, hb, F⟩ := F.ex
  refine pe_imp (pe_call F hr hg hm hk hb .nil pass0 (pa_cons he pa_nil hst) hdb hst hpl) fun σ H Q ⟨S, g, kq⟩ => ⟨S, fun p H1 hp s1 c1 => ?_⟩
  have S1 := S.grow hp s1 c1
  obtain ⟨xs, e1, z1, g1⟩ := id c1
  have hP0 : H P = some (.tbl ps) := S.own (P, .x (.tbl ps)) (List.mem_cons_of_mem _ List.mem_cons_self)
  have hP1 : H1 P = some (.tbl ps) := S1.own (P, .x (.tbl ps)) (List.mem_cons_of_mem _ (List.mem_cons_of_mem _ List.mem_cons_self))
  have hne : p ≠ P := fun z => by rw [z, hP0] at hp; cases hp
  have sall : Same H H1 := s1.trans msk_same
  have up : Same (msk (p :: adr [(Da, Ct.l acc), (P, Ct.x (.tbl ps))]) H1) (msk [p, P] H1) := fun b o eb => by
    have hb : b ∉ p :: adr [(Da, Ct.l acc), (P, Ct.x (.tbl ps))] := fun z => by rw [msk_in z] at eb; cases eb
    rw [msk_out hb] at eb
    rw [msk_out (fun z => hb ?_)]
    · exact eb
    · have z' : b = p ∨ b = P := by simpa using z
      rcases z' with rfl | rfl <;> simp
  refine ⟨p, us, xs, ps, rfl, hne, e1, z1, dp_monos up _ _ g1, hR, hP1, g.mono fun c ec => sall _ _ ec, fun H' ps' s2 hP' g' => ?_⟩
  have keep : ∀ b o, b ≠ P → H b = some o → H' b = some o := fun b o hb eb => by
    have h1 := sall b o eb
    have hbp : b ≠ p := fun z => by rw [z, hp] at eb; cases eb
    have h2 := s2 b o (by rw [msk_out (by simp [hb, hbp])]; exact h1)
    rw [msk_out (by simp [hb, hbp])] at h2
    exact h2
  obtain ⟨S4, sB, _⟩ := S.tabbed (k := 1) rfl keep hP'
  exact kq H' ps' (S4.rebase sB) g'
end
section
variable {X : Cx} {B : Hp} {L : Ls} {it elt : Expr} {scope : Scope} {pos : Pos}
structure RIx where
  i : Nat
  B : Hp
  Da : Addr
  acc : List PyData
  ps : Array Value
def teR (K : PySem.W.Frag) (P : Addr) (q : Str) (n : Nat) (Lt : Nat → Ls) : TE := fun σ H Q => ∃ j : RIx, j.i < n ∧ (Sta K j.B [(j.Da, .l j.acc), (P, .x (.tbl j.ps))] (Lt j.i) σ H ∧ GoodT H q j.ps ∧ ∀ H' ps', Sta K j.B [(j.Da, .l j.acc), (P, .x (.tbl ps'))] (Lt j.i) σ H' → GoodT H' q ps' → Q (.bl true) H')
/-- [f(..) for x in it], f as above: all True -/
theorem pe_lcR {P : Addr} {ps : Array Value} {q x : Str} {n : Nat} {Y : Nat → PyData} {px : Pos} (i0 : Nat) (hz : n ≤ 1000) (hc : X.calm = true) (hN : X.N.Nodup) (hi : EI X B [(P, .x (.tbl ps))] L (.Name x px) it n Y) (ok : blkC X.N X.env.scope scope [(x, i0)] = true)
    (he : ∀ j : RIx, j.i < n → BlkP X scope fun Z => PE Z elt (fun σ H Q => Sta X.K j.B [(j.Da, .l j.acc), (P, .x (.tbl j.ps))] ((L.set i0 none).set i0 (some (.d (Y j.i)))) σ H ∧ GoodT H q j.ps ∧ ∀ H' ps', Sta X.K j.B [(j.Da, .l j.acc), (P, .x (.tbl ps'))] ((L.set i0 none).set i0 (some (.d (Y j.i)))) σ H' → GoodT H' q ps' → Q (.bl true) H'))
    (hx1 : X.N[i0]? = some x := by rfl) (hx : BlkP X scope fun Z => Loc Z.env.scope x := by first | exact fun _ _ _ _ _ => Or.inl rfl | exact fun _ _ _ _ _ => Or.inr rfl) (hf : BlkP X scope fun Z => Z.fn x = true ∨ Z.env.scope.names.lookup x = some .local := by first | exact fun _ _ _ _ _ => Or.inr rfl | exact fun _ _ _ _ _ => Or.inl rfl)
    (hs : ∀ x, foldedSetIterable it X.env x = pure x := by intro _; rfl) :
    PE X (.ListComp elt [⟨.Name x px, it, [], 0⟩] scope pos) (fun σ H Q => Sta X.K B [(P, .x (.tbl ps))] L σ H ∧ GoodT H q ps ∧ ∀ D H', H' D = some (.lst ((List.replicate n true).map V.bl)) → Q (.ref D) H') := by
  refine pe_imp (pe_lc (own := [(x, i0)]) hc hN hi (blkOk_by ok) (fun s H C cl fp => pg_name hN hx1 (hx s H C cl fp) (hf s H C cl fp)) (fun s H C cl fp => pts_nil)
    (te := teR X.K P q n fun i => (L.set i0 none).set i0 (some (.d (Y i)))) (fun s H C cl fp => pe_fam (ι := RIx) (C := fun j => j.i < n) fun j hj => he j hj s H C cl fp) hs) fun σ H Q ⟨S, g, k⟩ => ?_
  refine ⟨S, fun J H1 s1 hW Da hDa => ?_⟩
  have S1 := S.same s1
  have hDo := S1.out hDa
  obtain ⟨G, stab, W⟩ := hW (Da :: adr [(P, Ct.x (.tbl ps))]) fun b hb => by
    rcases List.mem_cons.mp hb with rfl | hb
    · exact .inr hDa
    · exact .inl hb
  have Sw : Sta X.K (msk (adr [(P, Ct.x (.tbl ps))]) H1) [(P, .x (.tbl ps))] (wipeL L [i0]) (wipe σ [i0]) H1 := S1.start.1.wipe [i0]
  have S0 : Sta X.K (msk (adr [(P, Ct.x (.tbl ps))]) H1) [(Da, .l (List.replicate 0 (.bool true))), (P, .x (.tbl ps))] (wipeL L [i0]) (wipe σ [i0]) (upd H1 Da (.lst [])) := Sw.grow hDa (fresh_in hDa) ⟨[], upd_same, by simp, .nil⟩
  have g0 : GoodT (upd H1 Da (.lst [])) q ps := g.mono fun c ec => by
    have := s1 _ _ ec
    rw [upd_ne (ne_of_none this hDa)]
    exact this
  have toG : ∀ (i : Nat) (ps' : Array Value) (H' : Hp), Sta X.K (msk (adr [(P, Ct.x (.tbl ps))]) H1) [(Da, .l (List.replicate i (.bool true))), (P, .x (.tbl ps'))] (wipeL L [i0]) (wipe σ [i0]) H' → G H' := fun i ps' H' S' => stab H' (fun c u hc => by
    have h1 : c ∉ adr [(P, Ct.x (.tbl ps))] := fun z => by rw [msk_in z] at hc; cases hc
    have h2 : c ≠ Da := fun z => by
      rw [msk_out h1, z, hDa] at hc
      cases hc
    have h3 : c ∉ Da :: adr [(P, Ct.x (.tbl ps))] := fun z => (List.mem_cons.mp z).elim h2 h1
    rw [msk_out h3]
    exact S'.ex _ _ hc) fun c hc => S'.has c hc
  refine lc_it W (fun i H' => ∃ ps', Sta X.K (msk (adr [(P, Ct.x (.tbl ps))]) H1) [(Da, .l (List.replicate i (.bool true))), (P, .x (.tbl ps'))] (wipeL L [i0]) (wipe σ [i0]) H' ∧ GoodT H' q ps') ⟨ps, S0, g0⟩ (fun i H' _ ⟨ps', qs, _⟩ => toG i ps' H' qs) (fun i v H' H2 hlt ⟨ps', qs, gs⟩ y => ?_) fun H' ⟨ps', qs, gs⟩ => ?_
  · obtain ⟨s2, gd⟩ := y
    have q2 := qs.same s2
    refine tgw_name (vs := [i0]) i0 (by simp) _ _ _ _ _ _ q2 gd fun σ2 S3 hw => ?_
    refine ⟨(show wipe σ2 [i0] = wipe σ [i0] by rw [hw]; exact wipe_idem σ [i0]), ?_⟩
    refine iteT (B := ∃ ps', Sta X.K (msk (adr [(P, Ct.x (.tbl ps))]) H1) [(Da, .l (List.replicate (i + 1) (.bool true))), (P, .x (.tbl ps'))] (wipeL L [i0]) (wipe σ [i0]) H2 ∧ GoodT H2 q ps') ⟨⟨i, msk (adr [(P, Ct.x (.tbl ps))]) H1, Da, List.replicate i (.bool true), ps'⟩, hlt, S3, gs.mono fun c ec => s2 _ _ ec, fun H4 ps4 S4 g4 => ?_⟩
    have S5 := S4.wipe [i0]
    have eL : wipeL ((L.set i0 none).set i0 (some (.d (Y i)))) [i0] = wipeL L [i0] := by
      show ((L.set i0 none).set i0 _).set i0 none = L.set i0 none
      rw [List.set_set, List.set_set]
    have eS : wipe σ2 [i0] = wipe σ [i0] := by rw [hw]; exact wipe_idem σ [i0]
    have S6 : Sta X.K (msk (adr [(P, Ct.x (.tbl ps))]) H1) [(Da, .l (List.replicate i (.bool true))), (P, .x (.tbl ps4))] (wipeL L [i0]) (wipe σ [i0]) H4 := by
      rw [← eS, ← eL]
      exact S5
    obtain ⟨xs, e1, z1, g1⟩ := S6.get (k := 0) rfl
    have hl1 := dpa_len g1
    rw [List.length_replicate] at hl1
    refine ⟨xs, e1, small1000 z1, ps4, ?_, g4.mono fun c ec => ?_⟩
    · have := S6.upd (k := 0) (c' := .l (List.replicate (i + 1) (.bool true))) (o := .lst (xs ++ [.bl true])) rfl ⟨_, rfl, by rw [List.length_append]; simp; omega, by rw [List.replicate_succ']; exact dpa_app g1 (.cons (.bl true) .nil)⟩
      exact this
    · have hcD : c ≠ Da := fun z => by
        rw [z, e1] at ec
        exact codeO_l _ (Option.some.inj ec).symm
      rw [upd_ne hcD]
      exact ec
  · obtain ⟨xs, e1, z1, g1⟩ := qs.get (k := 0) rfl
    refine k Da H' ?_
    rw [e1]
    have e2 : List.replicate n (PyData.bool true) = (List.replicate n true).map PyData.bool := List.map_replicate.symm
    rw [e2] at g1
    rw [dpa_bools_inv g1]
/-- all([..]) of it -/
theorem pe_allR {e : Expr} {P : Addr} {ps : Array Value} {q : Str} {n : Nat} {px : Pos} (hcalm : X.calm = true) (hm : X.mg "all" = none) (he : PE X e (fun σ H Q => Sta X.K B [(P, .x (.tbl ps))] L σ H ∧ GoodT H q ps ∧ ∀ D H', H' D = some (.lst ((List.replicate n true).map V.bl)) → Q (.ref D) H'))
    (hg : Gl X "all" := by rfl) (hst : starEach [e] X.env = (false, eval e X.env) :: starEach [] X.env := by rfl) (hpl : (backTo pos (starEach [] X.env)).any (·.1) = false := by rfl) :
    PE X (.Call (.Name "all" px) [e] [] pos) (fun σ H Q => Sta X.K B [(P, .x (.tbl ps))] L σ H ∧ GoodT H q ps ∧ ∀ H', Q (.bl true) H') :=
  pe_imp (pe_callB (cr_all hcalm) hg hm (by decide +kernel) (pa_cons he pa_nil hst) (by decide) (by decide) hst hpl) fun σ H Q ⟨S, g, k⟩ => ⟨S, g, fun D H' e1 => ⟨D, List.replicate n true, rfl, SqL.of e1, by
    have : (List.replicate n true).all id = true := by simp
    rw [this]
    exact k H'⟩⟩
end
/-! ## law -/
def spLaw (K : PySem.W.Frag) (P : Addr) (q : Str) : Sp := fun vs H Q _ => ∃ (a : Addr) (ns : List Int) (ps : Array Value), vs = [.ref a] ∧ SqL K H a (ns.map V.int) ∧ ns.length ≤ 63 ∧ H P = some (.tbl ps) ∧ GoodT H q ps ∧ ∀ H', Q (.bl true) H'
abbrev nLaw : List Str := ["_law_script", "_law_cells_so", "_law_k"]
theorem scLaw : FnScope nLaw ["_law_script"] (defScope sLaw) := ⟨rfl, rfl, rfl, by decide +kernel, rfl, by decide +kernel, by decide +kernel⟩
section
variable {P : Program} {w : World} {K : PySem.W.Frag} {mg : Str → Option Value} {base : Heap}
theorem ok_law {f Pa : Addr} {fd : FuncData} (F : Fun K "law" "law" sLaw f fd) (T : Txt mg) (D1 : Df P w K mg base CX0 8 "_law_by_hand_right" [] (spD K rqHand)) (D2 : Df P w K mg base CX0 1 "_law_cells" ["_law_script", "_law_top"] (spD K rqCells)) (D3 : Df P w K mg base CX0 1 "_law_box" ["_law_script", "_law_k"] (spF K rqBox))
    (D4 : Df P w K mg base CX0 8 "_law_right" ["_law_urn"] (spR K Pa qRt rqRight)) : FnOk P w K mg base CX0 9 f fd ["_law_script"] (spLaw K Pa qRt) := by
  refine F.ok scLaw (fun vs H Q E h => ?_) (fun cdv A outer s H vs Q E hr h => ?_)
  · obtain ⟨a, ns, ps, rfl, _⟩ := h
    rfl
  · obtain ⟨a, ns, ps, rfl, hS, hlen, hP, hg, kq⟩ := h
    have hS1 : SqL K (msk [Pa] H) a (ns.map V.int) := by
      rcases hS with (h | ⟨o, h⟩) | h
      · refine .inl (.inl ?_)
        rw [msk_out (fun z => by rw [List.mem_singleton.mp z, hP] at h; cases h)]
        exact h
      · refine .inl (.inr ⟨o, ?_⟩)
        rw [msk_out (fun z => by rw [List.mem_singleton.mp z, hP] at h; cases h)]
        exact h
      · exact .inr h
    have st := sta_start (K := K) (N := nLaw) (O := [Pa]) (H := H) (vs := [.ref a]) (ds := [.list (ns.map .int)]) (fun b hb => ⟨.tbl ps, by rw [List.mem_singleton.mp hb]; exact hP⟩) (by simp) (.cons (.lst hS1 (dpa_ints ns)) .nil)
    have eM : ([Pa].map fun b => (b, Ct.x ((H b).getD (.lst [])))) = [(Pa, Ct.x (.tbl ps))] := by
      show [(Pa, Ct.x ((H Pa).getD (.lst [])))] = _
      rw [hP]; rfl
    rw [eM] at st
    have g0 : GoodT (msk [Pa] H) qRt ps := good_msk hg fun b hb c => by
      rw [List.mem_singleton.mp hb, hP]; exact fun z => codeO_ne _ (Option.some.inj z).symm
    generalize msk [Pa] H = B at st g0
    refine ⟨fun D' σ H => Sta K B [(Pa, .x (.tbl ps))] (startL nLaw [.list (ns.map .int)]) σ H ∧ Le { nx := fun _ H' => Q .non H', rt := Q } D', ?_, st, Le.refl _⟩
    show Tr _ (Sta K B [(Pa, .x (.tbl ps))] (startL nLaw [.list (ns.map .int)])) (defBody sLaw) { nx := fun _ H' => Q .non H', rt := Q }
    refine tr_ifF (eb_not' (p := true) rfl (eb_val (ed_call0 D1 hr ⟨rfl, rfl⟩))) ?_
    refine tr_set (d := .list ((cellsF ns).map .int)) 1 scLaw.nd (ed_call D2 (hr.mono (by decide)) ⟨ns, rfl, hlen, rfl⟩ (ea_cons (ed_name 0 rfl) (ea_cons ed_int ea_nil))) ?_
    have hcl : (cellsF ns).length ≤ 2 := by
      unfold cellsF
      rw [cAt_len]
      exact (cAt_0 ns).2.1
    generalize cellsF ns = cs at hcl ⊢
    refine tr_cons (Mid := fun _ _ => False) (ps_ret (pe_allR (n := cs.length) (q := qRt) rfl T.all (pe_lcR (n := cs.length) (Y := fun i => .int i) 2 (by omega) rfl scLaw.nd (ei_to (ei_range (j := ((cs.map PyData.int).length : Nat)) T.range (ea_cons (ed_lenL T.len (ea_cons (ed_name 1 rfl) ea_nil)) ea_nil) (by omega) (by rw [List.length_map]; omega)) (by rw [List.length_map, Int.toNat_natCast]) fun i hi => rfl)
      (by show blkC nLaw (defScope sLaw) _ _ = true; decide +kernel) fun j hj s H C cl fp => ?_))) tr_false fun σ H nx S k => ⟨S, g0.mono fun c ec => S.ex _ _ ec, fun H' => kq H'⟩
    exact pe_right D4 hr (ef_callF D3 (hr.mono (by decide)) ⟨cs, j.i, rfl, hj, rfl⟩ (ea_cons (ed_name 1 rfl) (ea_cons (ed_name 2 rfl) ea_nil))) ⟨boxU (cs.getD j.i 0) j.i, rfl, Int.le_refl _, by show (0 : Int) ≤ 100; decide⟩
end
end KX
namespace KX
open PySem PySem.Spec PyProof.Rows L2 LamX
/-! ## the end -/
theorem exm_own {K : PySem.W.Frag} {S : Addr} (h1 : PySem.W.subIn K (.ref S) (.type "BaseException") = some true) (h2 : PySem.W.isClsIn K S = true) (h3 : PySem.W.typeIn K (.ref S) = some (.type "type")) (h4 : PySem.W.subIn K (.ref S) (.ref S) = some true) : PySem.W.exmOne K (.ref S) (.ref S) = some true := by
  have e1 : (PySem.W.subIn K (.ref S) (.type "BaseException") == some true) = true := by rw [h1]; rfl
  have h2' : (PySem.W.clsIn K S).isSome = true := h2
  have e2 : ((PySem.W.clsIn K S).isSome && PySem.W.typeIn K (.ref S) == some (.type "type")) = true := by rw [h2', h3]; rfl
  show (if (PySem.W.subIn K (.ref S) (.type "BaseException") == some true) = true then (if ((PySem.W.clsIn K S).isSome && PySem.W.typeIn K (.ref S) == some (.type "type")) = true then PySem.W.subIn K (.ref S) (.ref S) else none) else none) = some true
  rw [if_pos e1, if_pos e2]
  exact h4
structure Gd (K : PySem.W.Frag) (x : Str) (st : Stmt) (f : Addr) (fd : FuncData) : Prop where
  a : PySem.W.nsIn K mainGlobals x = some (some (.ref f))
  F : Fun K x x st f fd
theorem gd_mk {K : PySem.W.Frag} {x : Str} {st : Stmt} {f : Addr} {od an : Option Addr} {sl : Array (Option Value)} {oc kV dc pm cd ct : Value} (a : PySem.W.nsIn K mainGlobals x = some (some (.ref f)))
    (l : K.lookup f = some ⟨oc, od, .func (PySem.W.fnOf x x (defArgs st) (defBody st) (defScope st) .none kV dc pm an cd ct), sl⟩) (c : PySem.W.codeIn K cd x = true) (k : PySem.W.keepIn K (.ref f) = true) : Gd K x st f (PySem.W.fnOf x x (defArgs st) (defBody st) (defScope st) .none kV dc pm an cd ct) := ⟨a, fun_mk l c k⟩
theorem Gd.code {K : PySem.W.Frag} {x : Str} {st : Stmt} {f c Pa : Addr} {fd : FuncData} (g : Gd K x st f fd) (h : PySem.W.tabIn K x = some (c, Pa)) : fd.code = .ref c := by
  obtain ⟨oc, od, kV, doc, pm, an, cdv, ct, osl, e, lk, _⟩ := g.F.ex
  unfold PySem.W.tabIn at h
  rw [g.a] at h
  dsimp only at h
  rw [lk] at h
  dsimp only at h
  split at h
  · rename_i c2 hc
    split at h
    · split at h
      · cases h
        exact hc
      · cases h
    · cases h
  · cases h
theorem tab_mk {K : PySem.W.Frag} {x : Str} {st : Stmt} {f c Pa : Addr} {od od2 an : Option Addr} {sl sl2 : Array (Option Value)} {oc oc2 kV dc pm ct : Value} {vs : Array Value} (a : PySem.W.nsIn K mainGlobals x = some (some (.ref f)))
    (l : K.lookup f = some ⟨oc, od, .func (PySem.W.fnOf x x (defArgs st) (defBody st) (defScope st) .none kV dc pm an (.ref c) ct), sl⟩) (l2 : K.lookup c = some ⟨oc2, od2, .fields vs, sl2⟩) (v : (vs[11]? : Option Value) = some (.ref Pa)) : PySem.W.tabIn K x = some (c, Pa) := by
  unfold PySem.W.tabIn
  rw [a]
  dsimp only
  rw [l]
  show (match K.lookup c with
        | some ⟨_, _, .fields vs, _⟩ => (match (vs[11]? : Option Value) with
          | some (.ref P) => some (c, P)
          | _ => none)
        | _ => none) = _
  rw [l2]
  dsimp only
  rw [v]
/-- the walk of a law whose def _law_right makes a lambda -/
theorem walk_mine {l : PySem.W.OpenLaw} {q : Program} {loose : List Str} {XP : (Str → Option Value) → Heap → Prop} {YP : World → Heap → Prop} {d dy : DefRec} {K : Params → PySem.W.Frag} {c Pa : Addr} (hn : l.most = some 63) (hdf : d.params.defaults = [])
    (hrec : (recsOf q).find? (fun e => e.name == ("_law_right" : Str)) = some dy) (hY : ∀ (w : World) (h : Heap), YP w h → (K w.params).In h) (ht : ∀ w : World, PySem.W.tabIn (K w.params) "_law_right" = some (c, Pa)) (nP : ∀ w : World, (K w.params).lookup Pa = none)
    (F : ∀ (w : World) (mg : Str → Option Value) (fa : Addr) (h : Heap), (K w.params).In h → h.Ns mainGlobals mg → mg d.name = some (.ref fa) → ∃ fd : FuncData, (∀ (s : Shared) (u : Value), BindsTo s fd ⟨[u], []⟩ [("_law_script", u)]) ∧
      ∀ base : Heap, (K w.params).In base → base.Ns mainGlobals mg → TabB base mg c Pa → FnOk l.prog w (K w.params) mg base CX0 9 fa fd ["_law_script"] (spLaw (K w.params) Pa qRt)) :
    PySem.W.WalkO q loose XP YP l.row.toRowW d [] (fun f vs => PySem.call f vs) := by
  refine Att.attach_callB hn hdf fun w s₀ s₁ mg mb fa o pm cd doc a vs ns G Y ho hd hcd hmg hobj hints hlen hbits hg => ?_
  have KX := hY w _ Y
  obtain ⟨tC, tP⟩ := PySem.W.tab_of G.T KX hrec (ht w)
  obtain ⟨fd, hb, hF⟩ := F w mg fa _ KX G.T.g hmg
  have one : ∀ {R : Addr × Addr → Prop}, R (c, Pa) → ∀ p ∈ [(c, Pa)], R p := fun h p hp => by rw [List.mem_singleton.mp hp]; exact h
  exact law_callTs (cs := [(c, Pa)]) (k := 9) (x := "_law_script") KX G.T.g G.T.b G.T.builtins G.T.nolimit hg (one tP) (one (nP w)) (one tC) G.T.bmain hobj hints (Nat.le_trans hlen (by decide)) ⟨rfl, by decide, by decide⟩
    (fun base h1 h2 h3 => hF base h1 h2 (h3 (c, Pa) (List.mem_singleton.mpr rfl))) hb (fun H hH hS => ⟨a, ns, #[], rfl, hS, hlen, hH (c, Pa) (List.mem_singleton.mpr rfl), ⟨by trivial, fun pos cv e => by cases e⟩, fun _ => rfl⟩) fun H e s' h => h

theorem all_mk {P : Program} {w : World} {K : PySem.W.Frag} {h : Heap} {mg : Str → Option Value} {fa C c Pa : Addr} {tR tS tM tO : Tok} {ftup fdry fsom fbri fstk fspl frst fway fesy flks frun frow fwth flot fsum fbox ftak fcel fsam flst fbrk fqrs fqpl fqot fqes fqwy fqml fqhe fqlo fqdu fqha fqri flaw : Addr} {dtup ddry dsom dbri dstk dspl drst dway desy dlks drun drow dwth dlot dsum dbox dtak dcel dsam dlst dbrk dqrs dqpl dqot dqes dqwy dqml dqhe dqlo dqdu dqha dqri dlaw : FuncData} (X : K.In h) (G : h.Ns mainGlobals mg) (hfa : mg "law" = some (.ref fa)) (ht : PySem.W.tabIn K "_law_right" = some (c, Pa))
    (gtup : Gd K "tuple_of" sTuple ftup dtup)
    (gdry : Gd K "dry_held" sDry fdry ddry)
    (gsom : Gd K "some_cistern" sSome fsom dsom)
    (gbri : Gd K "brings" sBrings fbri dbri)
    (gstk : Gd K "behind_stroke" sStroke fstk dstk)
    (gspl : Gd K "behind_spills" sSpills fspl dspl)
    (grst : Gd K "behind_rest" sRest frst drst)
    (gway : Gd K "way_out" sWay fway dway)
    (gesy : Gd K "is_easy" sEasy fesy desy)
    (glks : Gd K "leaks_then" sLeaks flks dlks)
    (grun : Gd K "leaky_run" sLRun frun drun)
    (grow : Gd K "leaky_row" sLRow frow drow)
    (gwth : Gd K "with_springs" sWith fwth dwth)
    (glot : Gd K "lots_by_way" sLots flot dlot)
    (gsum : Gd K "sums_told" sSums fsum dsum)
    (gbox : Gd K "_law_box" sBox fbox dbox)
    (gtak : Gd K "_law_take" sTake ftak dtak)
    (gcel : Gd K "_law_cells" sCells fcel dcel)
    (gsam : Gd K "_law_same" sSame fsam dsam)
    (glst : Gd K "_law_lists" sLists flst dlst)
    (gbrk : Gd K "_law_brook" sBrook fbrk dbrk)
    (gqrs : Gd K "_law_rest" sqRest fqrs dqrs)
    (gqpl : Gd K "_law_play" sqPlay fqpl dqpl)
    (gqot : Gd K "_law_other" sqOther fqot dqot)
    (gqes : Gd K "_law_easy" sqEasy fqes dqes)
    (gqwy : Gd K "_law_ways" sqWays fqwy dqwy)
    (gqml : Gd K "_law_mild" sqMild fqml dqml)
    (gqhe : Gd K "_law_heard" sqHeard fqhe dqhe)
    (gqlo : Gd K "_law_lots" sqLots fqlo dqlo)
    (gqdu : Gd K "_law_due" sqDue fqdu dqdu)
    (gqha : Gd K "_law_by_hand_right" sqHand fqha dqha)
    (gqri : Gd K "_law_right" sqRight fqri dqri)
    (glaw : Gd K "law" sLaw flaw dlaw)
    (n_len : PySem.W.nsIn K mainGlobals "len" = some none)
    (n_range : PySem.W.nsIn K mainGlobals "range" = some none)
    (n_enumerate : PySem.W.nsIn K mainGlobals "enumerate" = some none)
    (n_zip : PySem.W.nsIn K mainGlobals "zip" = some none)
    (n_tuple : PySem.W.nsIn K mainGlobals "tuple" = some none)
    (n_list : PySem.W.nsIn K mainGlobals "list" = some none)
    (n_isinstance : PySem.W.nsIn K mainGlobals "isinstance" = some none)
    (n_min : PySem.W.nsIn K mainGlobals "min" = some none)
    (n_max : PySem.W.nsIn K mainGlobals "max" = some none)
    (n_abs : PySem.W.nsIn K mainGlobals "abs" = some none)
    (n_int : PySem.W.nsIn K mainGlobals "int" = some none)
    (n_sum : PySem.W.nsIn K mainGlobals "sum" = some none)
    (n_all : PySem.W.nsIn K mainGlobals "all" = some none)
    (n_sorted : PySem.W.nsIn K mainGlobals "sorted" = some none)
    (n_set : PySem.W.nsIn K mainGlobals "set" = some none)
    (n_bool : PySem.W.nsIn K mainGlobals "bool" = some none)
    (n_str : PySem.W.nsIn K mainGlobals "str" = some none)
    (m_room : PySem.W.nsIn K mainGlobals "ROOM" = some (some (.int 1 tR)))
    (m_spring : PySem.W.nsIn K mainGlobals "SPRING" = some (some (.int 2 tS)))
    (m_measure : PySem.W.nsIn K mainGlobals "MEASURE" = some (some (.int 3 tM)))
    (m_rod : PySem.W.nsIn K mainGlobals "ROD" = some (some (.int 4 tO)))
    (aC : PySem.W.nsIn K mainGlobals "Unfit" = some (some (.ref C))) (kC : PySem.W.keepIn K (.ref C) = true) (xC : PySem.W.excIn K C [.type "ValueError", .type "Exception", .type "BaseException", .type "object"] "ValueError.__new__" = true) (bC : PySem.W.subIn K (.ref C) (.type "BaseException") = some true) (tC : PySem.W.typeIn K (.ref C) = some (.type "type")) (iC : PySem.W.isClsIn K C = true) (sC : PySem.W.subIn K (.ref C) (.ref C) = some true) :
    ∃ fd : FuncData, (∀ (s : Shared) (u : Value), BindsTo s fd ⟨[u], []⟩ [("_law_script", u)]) ∧ ∀ base : Heap, K.In base → base.Ns mainGlobals mg → TabB base mg c Pa → FnOk P w K mg base CX0 9 fa fd ["_law_script"] (spLaw K Pa qRt) := by
  have e := hfa.symm.trans (PySem.W.mg_of X G glaw.a)
  cases e
  have T : Txt mg := { len := PySem.W.mg_none_of X G n_len, range := PySem.W.mg_none_of X G n_range, enumerate := PySem.W.mg_none_of X G n_enumerate, zip := PySem.W.mg_none_of X G n_zip, tuple := PySem.W.mg_none_of X G n_tuple, list := PySem.W.mg_none_of X G n_list, isinstance := PySem.W.mg_none_of X G n_isinstance, min := PySem.W.mg_none_of X G n_min, max := PySem.W.mg_none_of X G n_max, abs := PySem.W.mg_none_of X G n_abs, int := PySem.W.mg_none_of X G n_int, sum := PySem.W.mg_none_of X G n_sum, all := PySem.W.mg_none_of X G n_all, sorted := PySem.W.mg_none_of X G n_sorted, set := PySem.W.mg_none_of X G n_set, bool := PySem.W.mg_none_of X G n_bool, str := PySem.W.mg_none_of X G n_str, room := ⟨_, PySem.W.mg_of X G m_room⟩, spring := ⟨_, PySem.W.mg_of X G m_spring⟩, measure := ⟨_, PySem.W.mg_of X G m_measure⟩, rod := ⟨_, PySem.W.mg_of X G m_rod⟩ }
  have U : UF K mg C := ⟨PySem.W.mg_of X G aC, kC, xC, bC, tC, exm_own bC iC tC sC⟩
  have btup := gtup.F.binds (ps := ["thing"]) fun _ _ _ _ _ _ us hl => match us, hl with | [_], _ => rfl
  have bdry := gdry.F.binds (ps := ["waters"]) fun _ _ _ _ _ _ us hl => match us, hl with | [_], _ => rfl
  have bsom := gsom.F.binds (ps := ["waters", "number"]) fun _ _ _ _ _ _ us hl => match us, hl with | [_, _], _ => rfl
  have bbri := gbri.F.binds (ps := pBr) fun _ _ _ _ _ _ us hl => match us, hl with | [_, _, _, _, _], _ => rfl
  have bstk := gstk.F.binds (ps := pBr) fun _ _ _ _ _ _ us hl => match us, hl with | [_, _, _, _, _], _ => rfl
  have bspl := gspl.F.binds (ps := ["waters", "standing"]) fun _ _ _ _ _ _ us hl => match us, hl with | [_, _], _ => rfl
  have brst := grst.F.binds (ps := pRest) fun _ _ _ _ _ _ us hl => match us, hl with | [_, _, _, _, _, _, _], _ => rfl
  have bway := gway.F.binds (ps := ["waters", "number"]) fun _ _ _ _ _ _ us hl => match us, hl with | [_, _], _ => rfl
  have besy := gesy.F.binds (ps := ["waters"]) fun _ _ _ _ _ _ us hl => match us, hl with | [_], _ => rfl
  have blks := glks.F.binds (ps := ["waters", "leak", "rest"]) fun _ _ _ _ _ _ us hl => match us, hl with | [_, _, _], _ => rfl
  have brun := grun.F.binds (ps := ["waters", "leak", "many"]) fun _ _ _ _ _ _ us hl => match us, hl with | [_, _, _], _ => rfl
  have brow := grow.F.binds (ps := ["waters", "leak", "many"]) fun _ _ _ _ _ _ us hl => match us, hl with | [_, _, _], _ => rfl
  have bwth := gwth.F.binds (ps := ["waters", "springs"]) fun _ _ _ _ _ _ us hl => match us, hl with | [_, _], _ => rfl
  have blot := glot.F.binds (ps := ["waters"]) fun _ _ _ _ _ _ us hl => match us, hl with | [_], _ => rfl
  have bsum := gsum.F.binds (ps := ["waters", "row"]) fun _ _ _ _ _ _ us hl => match us, hl with | [_, _], _ => rfl
  have bbox := gbox.F.binds (ps := ["_law_script", "_law_k"]) fun _ _ _ _ _ _ us hl => match us, hl with | [_, _], _ => rfl
  have btak := gtak.F.binds (ps := pqTake) fun _ _ _ _ _ _ us hl => match us, hl with | [_, _], _ => rfl
  have bcel := gcel.F.binds (ps := ["_law_script", "_law_top"]) fun _ _ _ _ _ _ us hl => match us, hl with | [_, _], _ => rfl
  have bsam := gsam.F.binds (ps := pqSame) fun _ _ _ _ _ _ us hl => match us, hl with | [_, _], _ => rfl
  have blst := glst.F.binds (ps := ["_law_matter"]) fun _ _ _ _ _ _ us hl => match us, hl with | [_], _ => rfl
  have bbrk := gbrk.F.binds (ps := []) fun _ _ _ _ _ _ us hl => match us, hl with | [], _ => rfl
  have bqrs := gqrs.F.binds (ps := pqRest) fun _ _ _ _ _ _ us hl => match us, hl with | [_, _, _, _], _ => rfl
  have bqpl := gqpl.F.binds (ps := pqPlay) fun _ _ _ _ _ _ us hl => match us, hl with | [_, _, _], _ => rfl
  have bqot := gqot.F.binds (ps := ["_law_wells", "_law_springs"]) fun _ _ _ _ _ _ us hl => match us, hl with | [_, _], _ => rfl
  have bqes := gqes.F.binds (ps := ["_law_wells"]) fun _ _ _ _ _ _ us hl => match us, hl with | [_], _ => rfl
  have bqwy := gqwy.F.binds (ps := ["_law_wells"]) fun _ _ _ _ _ _ us hl => match us, hl with | [_], _ => rfl
  have bqml := gqml.F.binds (ps := ["_law_urn", "_law_many"]) fun _ _ _ _ _ _ us hl => match us, hl with | [_, _], _ => rfl
  have bqhe := gqhe.F.binds (ps := ["_law_wells", "_law_line"]) fun _ _ _ _ _ _ us hl => match us, hl with | [_, _], _ => rfl
  have bqlo := gqlo.F.binds (ps := ["_law_wells"]) fun _ _ _ _ _ _ us hl => match us, hl with | [_], _ => rfl
  have bqdu := gqdu.F.binds (ps := ["_law_wells", "_law_line"]) fun _ _ _ _ _ _ us hl => match us, hl with | [_, _], _ => rfl
  have bqha := gqha.F.binds (ps := []) fun _ _ _ _ _ _ us hl => match us, hl with | [], _ => rfl
  have bqri := gqri.F.binds (ps := ["_law_urn"]) fun _ _ _ _ _ _ us hl => match us, hl with | [_], _ => rfl
  have blaw := glaw.F.binds (ps := ["_law_script"]) fun _ _ _ _ _ _ us hl => match us, hl with | [_], _ => rfl
  refine ⟨dlaw, fun s u => ?_, fun base _ _ TB => ?_⟩
  · obtain ⟨oc, od, kV, doc, pm, an, cdv, ct, osl, rfl, _, _⟩ := glaw.F.ex
    exact .of_eq rfl
  have Dtup := df_mk gtup.F (PySem.W.mg_of X G gtup.a) btup (ok_tup (P := P) (w := w) (base := base) gtup.F T (PySem.W.mg_of X G gtup.a) btup 2)
  have Ddry := df_mk gdry.F (PySem.W.mg_of X G gdry.a) bdry (ok_dry (P := P) (w := w) (base := base) gdry.F T)
  have Dsom := df_mk gsom.F (PySem.W.mg_of X G gsom.a) bsom (ok_some (P := P) (w := w) (base := base) gsom.F T)
  have Dbri := df_mk gbri.F (PySem.W.mg_of X G gbri.a) bbri (ok_brings (P := P) (w := w) (base := base) gbri.F T)
  have Dstk := df_mk gstk.F (PySem.W.mg_of X G gstk.a) bstk (ok_stroke gstk.F T Dbri)
  have Dspl := df_mk gspl.F (PySem.W.mg_of X G gspl.a) bspl (ok_spills (P := P) (w := w) (base := base) gspl.F T)
  have Drst := df_mk grst.F (PySem.W.mg_of X G grst.a) brst (ok_rest grst.F T Dstk Dspl)
  have Dway := df_mk gway.F (PySem.W.mg_of X G gway.a) bway (ok_way gway.F T Dsom)
  have Desy := df_mk gesy.F (PySem.W.mg_of X G gesy.a) besy (ok_easy (P := P) (w := w) (base := base) gesy.F T)
  have Dlks := df_mk glks.F (PySem.W.mg_of X G glks.a) blks (ok_leaks (P := P) (w := w) (base := base) glks.F T)
  have Drun := df_mk grun.F (PySem.W.mg_of X G grun.a) brun (ok_lrun grun.F T Dtup Ddry Drst Dlks)
  have Drow := df_mk grow.F (PySem.W.mg_of X G grow.a) brow (ok_lrow grow.F T Drun)
  have Dwth := df_mk gwth.F (PySem.W.mg_of X G gwth.a) bwth (ok_with gwth.F T Dtup)
  have Dlot := df_mk glot.F (PySem.W.mg_of X G glot.a) blot (ok_lots glot.F T Dway)
  have okS := ok_sums gsum.F T U Dtup Dlot Dwth Desy Drow
  have Dqrs := df_mk gqrs.F (PySem.W.mg_of X G gqrs.a) bqrs (okq_rest (P := P) (w := w) (base := base) gqrs.F T)
  have Dqpl := df_mk gqpl.F (PySem.W.mg_of X G gqpl.a) bqpl (okq_play gqpl.F T Dqrs)
  have Dqot := df_mk gqot.F (PySem.W.mg_of X G gqot.a) bqot (okq_other (P := P) (w := w) (base := base) gqot.F T)
  have Dqes := df_mk gqes.F (PySem.W.mg_of X G gqes.a) bqes (okq_easy (P := P) (w := w) (base := base) gqes.F T)
  have Dqwy := df_mk gqwy.F (PySem.W.mg_of X G gqwy.a) bqwy (okq_ways gqwy.F T Dqpl)
  have Dqlo := df_mk gqlo.F (PySem.W.mg_of X G gqlo.a) bqlo (okq_lots gqlo.F T Dqwy)
  have Dqdu := df_mk gqdu.F (PySem.W.mg_of X G gqdu.a) bqdu (okq_due gqdu.F T Dqlo Dqot Dqes Dqpl)
  have Dqhe := df_mk gqhe.F (PySem.W.mg_of X G gqhe.a) bqhe (okq_heard gqhe.F T U (PySem.W.mg_of X G gsum.a) gsum.F.kp bsum okS)
  have Dtak := df_mk gtak.F (PySem.W.mg_of X G gtak.a) btak (okq_take (P := P) (w := w) (base := base) gtak.F T)
  have Dbox := df_mk gbox.F (PySem.W.mg_of X G gbox.a) bbox (okq_box (P := P) (w := w) (base := base) gbox.F T)
  have Dcel := df_mk gcel.F (PySem.W.mg_of X G gcel.a) bcel (okq_cells (P := P) (w := w) (base := base) gcel.F T)
  have Dbrk := df_mk gbrk.F (PySem.W.mg_of X G gbrk.a) bbrk (okq_brook (P := P) (w := w) (base := base) gbrk.F)
  have Dlst := df_mk glst.F (PySem.W.mg_of X G glst.a) blst (okq_lst (P := P) (w := w) (base := base) glst.F T (PySem.W.mg_of X G glst.a) blst 2)
  have Dsam := df_mk gsam.F (PySem.W.mg_of X G gsam.a) bsam (okq_same (P := P) (w := w) (base := base) gsam.F T (PySem.W.mg_of X G gsam.a) bsam 4)
  have Dqml := df_mk gqml.F (PySem.W.mg_of X G gqml.a) bqml (okq_mild gqml.F T Dtak)
  have Dqha := df_mk gqha.F (PySem.W.mg_of X G gqha.a) bqha (okq_hand gqha.F T Dbrk Dqhe Dqwy Dqlo Dqdu Dsam)
  have Dqri := df_mk gqri.F (PySem.W.mg_of X G gqri.a) bqri (okq_right gqri.F (gqri.code ht) TB T Dtak Dqml Dqlo Dqpl Dqot Drow Desy Dqhe Dlst Dqdu Dsam)
  exact ok_law glaw.F T Dqha Dcel Dbox Dqri
end KX
open PySem PySem.W PyProof.Rows
theorem PySem.Challenge.cw_manrods_k86_whole_sums_that_rows_tell_holds : PySem.Challenge.rw_manrods_k86_whole_sums_that_rows_tell.Holds := by
  w_on; o_law; k_head; (case hw => w_witness2)
  k_fill
  refine' KX.walk_mine (c := ?c) (Pa := ?Pa) (dy := ?dy) (l := PySem.Challenge.rw_manrods_k86_whole_sums_that_rows_tell) rfl rfl ?hrec (fun w h Y => PySem.W.km_in_of Y) ?ht ?nP ?F
  case hrec => rfl
  case ht =>
    intro w
    refine' KX.tab_mk (st := KX.sqRight) ?ta ?tl ?tl2 ?tv
    (case ta => k_is); (case tl => k_is); (case tl2 => k_is)
    (case tv => first | rfl | kernel_rfl)
  case nP => intro w; first | k_is | rfl
  case F =>
    intro w mg fa h KN G hmg
    refine' KX.all_mk KN G hmg ?ht (KX.gd_mk ?atup ?ltup ?ctup ?ktup) (KX.gd_mk ?adry ?ldry ?cdry ?kdry) (KX.gd_mk ?asom ?lsom ?csom ?ksom) (KX.gd_mk ?abri ?lbri ?cbri ?kbri) (KX.gd_mk ?astk ?lstk ?cstk ?kstk) (KX.gd_mk ?aspl ?lspl ?cspl ?kspl) (KX.gd_mk ?arst ?lrst ?crst ?krst) (KX.gd_mk ?away ?lway ?cway ?kway) (KX.gd_mk ?aesy ?lesy ?cesy ?kesy) (KX.gd_mk ?alks ?llks ?clks ?klks) (KX.gd_mk ?arun ?lrun ?crun ?krun) (KX.gd_mk ?arow ?lrow ?crow ?krow) (KX.gd_mk ?awth ?lwth ?cwth ?kwth) (KX.gd_mk ?alot ?llot ?clot ?klot) (KX.gd_mk ?asum ?lsum ?csum ?ksum) (KX.gd_mk ?abox ?lbox ?cbox ?kbox) (KX.gd_mk ?atak ?ltak ?ctak ?ktak) (KX.gd_mk ?acel ?lcel ?ccel ?kcel) (KX.gd_mk ?asam ?lsam ?csam ?ksam) (KX.gd_mk ?alst ?llst ?clst ?klst) (KX.gd_mk ?abrk ?lbrk ?cbrk ?kbrk) (KX.gd_mk ?aqrs ?lqrs ?cqrs ?kqrs) (KX.gd_mk ?aqpl ?lqpl ?cqpl ?kqpl) (KX.gd_mk ?aqot ?lqot ?cqot ?kqot) (KX.gd_mk ?aqes ?lqes ?cqes ?kqes) (KX.gd_mk ?aqwy ?lqwy ?cqwy ?kqwy) (KX.gd_mk ?aqml ?lqml ?cqml ?kqml) (KX.gd_mk ?aqhe ?lqhe ?cqhe ?kqhe) (KX.gd_mk ?aqlo ?lqlo ?cqlo ?kqlo) (KX.gd_mk ?aqdu ?lqdu ?cqdu ?kqdu) (KX.gd_mk ?aqha ?lqha ?cqha ?kqha) (KX.gd_mk ?aqri ?lqri ?cqri ?kqri) (KX.gd_mk ?alaw ?llaw ?claw ?klaw) ?n_len ?n_range ?n_enumerate ?n_zip ?n_tuple ?n_list ?n_isinstance ?n_min ?n_max ?n_abs ?n_int ?n_sum ?n_all ?n_sorted ?n_set ?n_bool ?n_str ?m_room ?m_spring ?m_measure ?m_rod ?aC ?kC ?xC ?bC ?tC ?iC ?sC
    (case ht => refine' KX.tab_mk (st := KX.sqRight) ?ta ?tl ?tl2 ?tv; (case ta => k_is); (case tl => k_is); (case tl2 => k_is); (case tv => first | rfl | kernel_rfl))
    (case atup => k_is); (case ltup => k_is); (case ctup => k_is); (case ktup => k_is)
    (case adry => k_is); (case ldry => k_is); (case cdry => k_is); (case kdry => k_is)
    (case asom => k_is); (case lsom => k_is); (case csom => k_is); (case ksom => k_is)
    (case abri => k_is); (case lbri => k_is); (case cbri => k_is); (case kbri => k_is)
    (case astk => k_is); (case lstk => k_is); (case cstk => k_is); (case kstk => k_is)
    (case aspl => k_is); (case lspl => k_is); (case cspl => k_is); (case kspl => k_is)
    (case arst => k_is); (case lrst => k_is); (case crst => k_is); (case krst => k_is)
    (case away => k_is); (case lway => k_is); (case cway => k_is); (case kway => k_is)
    (case aesy => k_is); (case lesy => k_is); (case cesy => k_is); (case kesy => k_is)
    (case alks => k_is); (case llks => k_is); (case clks => k_is); (case klks => k_is)
    (case arun => k_is); (case lrun => k_is); (case crun => k_is); (case krun => k_is)
    (case arow => k_is); (case lrow => k_is); (case crow => k_is); (case krow => k_is)
    (case awth => k_is); (case lwth => k_is); (case cwth => k_is); (case kwth => k_is)
    (case alot => k_is); (case llot => k_is); (case clot => k_is); (case klot => k_is)
    (case asum => k_is); (case lsum => k_is); (case csum => k_is); (case ksum => k_is)
    (case abox => k_is); (case lbox => k_is); (case cbox => k_is); (case kbox => k_is)
    (case atak => k_is); (case ltak => k_is); (case ctak => k_is); (case ktak => k_is)
    (case acel => k_is); (case lcel => k_is); (case ccel => k_is); (case kcel => k_is)
    (case asam => k_is); (case lsam => k_is); (case csam => k_is); (case ksam => k_is)
    (case alst => k_is); (case llst => k_is); (case clst => k_is); (case klst => k_is)
    (case abrk => k_is); (case lbrk => k_is); (case cbrk => k_is); (case kbrk => k_is)
    (case aqrs => k_is); (case lqrs => k_is); (case cqrs => k_is); (case kqrs => k_is)
    (case aqpl => k_is); (case lqpl => k_is); (case cqpl => k_is); (case kqpl => k_is)
    (case aqot => k_is); (case lqot => k_is); (case cqot => k_is); (case kqot => k_is)
    (case aqes => k_is); (case lqes => k_is); (case cqes => k_is); (case kqes => k_is)
    (case aqwy => k_is); (case lqwy => k_is); (case cqwy => k_is); (case kqwy => k_is)
    (case aqml => k_is); (case lqml => k_is); (case cqml => k_is); (case kqml => k_is)
    (case aqhe => k_is); (case lqhe => k_is); (case cqhe => k_is); (case kqhe => k_is)
    (case aqlo => k_is); (case lqlo => k_is); (case cqlo => k_is); (case kqlo => k_is)
    (case aqdu => k_is); (case lqdu => k_is); (case cqdu => k_is); (case kqdu => k_is)
    (case aqha => k_is); (case lqha => k_is); (case cqha => k_is); (case kqha => k_is)
    (case aqri => k_is); (case lqri => k_is); (case cqri => k_is); (case kqri => k_is)
    (case alaw => k_is); (case llaw => k_is); (case claw => k_is); (case klaw => k_is)
    (case n_len => k_is)
    (case n_range => k_is)
    (case n_enumerate => k_is)
    (case n_zip => k_is)
    (case n_tuple => k_is)
    (case n_list => k_is)
    (case n_isinstance => k_is)
    (case n_min => k_is)
    (case n_max => k_is)
    (case n_abs => k_is)
    (case n_int => k_is)
    (case n_sum => k_is)
    (case n_all => k_is)
    (case n_sorted => k_is)
    (case n_set => k_is)
    (case n_bool => k_is)
    (case n_str => k_is)
    (case m_room => k_is)
    (case m_spring => k_is)
    (case m_measure => k_is)
    (case m_rod => k_is)
    (case aC => k_is); (case kC => k_is); (case xC => k_exc); (case bC => k_is); (case tC => k_is); (case iC => k_is); (case sC => first | rfl | k_is)
