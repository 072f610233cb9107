import PyProof.Rows.All
import Wide.All
import OpenK.AllK
import Wide.FinOn
import HandS.ForMost
import HandS.IsInst
import HandS.StrMore
import HandS.TupAny
import HandS.TupLe
import HandS.Conv
import PyProof.ReprRoads
import PyProof.RowDictHeap
import HandS.ExcInit
import HandS.TryMany
import HandS.ExcField
import HandS.ExcIs
import HandS.WordsExc
import KE.KExcIs
import HandS.Style
import HandS.More
import HandS.TryOnly
import HandS.DeepEq
import HandS.Iter
import HandS.OwnEq
import HandS.Rev
import HandS.DictEq
import PyProof.InstNe
import HandS.Codes
import HandS.HotCalls
import HandS.ExcValue
import HandS.ExcCtx
import HandS.Comp
import HandS.DictTup
import PyProof.DictMoreH
import HandS.SortInts
import KE.SortData
import KE.DataFind
import PySem.Challenge.RW_inorderonce_k40_leases_given_and_dropped
set_option Elab.async false
set_option linter.all false
set_option maxRecDepth 100000
set_option maxHeartbeats 8000000
/-! Z: own layer over the hand layer: readings that compute. -/
namespace Z
open PySem PySem.Spec PyProof.Rows L2

/-! ### heaps -/
/-- H2 is H with a new object at p -/
structure Nw (H : Hp) (p : Addr) (o : HO) (H2 : Hp) : Prop where
  fresh : H p = none
  here : H2 p = some o
  off : ∀ a, a ≠ p → H2 a = H a
/-- H2 is H with another object at l -/
structure Wr (H : Hp) (l : Addr) (o : HO) (H2 : Hp) : Prop where
  here : H2 l = some o
  off : ∀ a, a ≠ l → H2 a = H a
/-- all that was tracked is there, but for b -/
def But (b : Addr) (H H2 : Hp) : Prop := ∀ a o, a ≠ b → H a = some o → H2 a = some o
theorem nw {H : Hp} {p : Addr} {o : HO} (h : H p = none) : Nw H p o (upd H p o) := ⟨h, upd_same, fun _ e => upd_ne e⟩
theorem wr {H : Hp} {p : Addr} {o : HO} : Wr H p o (upd H p o) := ⟨upd_same, fun _ e => upd_ne e⟩
theorem Nw.keep {H H2 : Hp} {p a : Addr} {o u : HO} (n : Nw H p o H2) (h : H a = some u) : H2 a = some u := by
  rw [n.off a (ne_of_none h n.fresh)]
  exact h
theorem Nw.same {H H2 : Hp} {p : Addr} {o : HO} (n : Nw H p o H2) : Same H H2 := fun _ _ h => n.keep h
theorem Wr.keep {H H2 : Hp} {l a : Addr} {o u : HO} (n : Wr H l o H2) (e : a ≠ l) (h : H a = some u) : H2 a = some u := by
  rw [n.off a e]
  exact h
theorem Wr.but {H H2 : Hp} {l : Addr} {o : HO} (n : Wr H l o H2) : But l H H2 := fun a _ e h => n.keep e h
theorem Nw.but {H H2 : Hp} {p b : Addr} {o : HO} (n : Nw H p o H2) : But b H H2 := fun _ _ _ h => n.keep h
theorem But.refl (b : Addr) (H : Hp) : But b H H := fun _ _ _ h => h
theorem But.trans {b : Addr} {H H1 H2 : Hp} (x : But b H H1) (y : But b H1 H2) : But b H H2 := fun a o e h => y a o e (x a o e h)
theorem But.of {b : Addr} {H H1 : Hp} (x : Same H H1) : But b H H1 := fun a o _ h => x a o h
theorem But.at {b a : Addr} {o : HO} {H H1 : Hp} (x : But b H H1) (e : a ≠ b) (h : H a = some o) : H1 a = some o := x a o e h
/-- what was new to H and written later: H is kept -/
theorem _root_.L2.Same.wr {H H1 H2 : Hp} {l : Addr} {o : HO} (x : Same H H1) (f : H l = none) (w : Wr H1 l o H2) : Same H H2 := fun a u h =>
  w.keep (ne_of_none h f) (x a u h)
theorem _root_.L2.Same.but {H H1 H2 : Hp} {l : Addr} (x : Same H H1) (f : H l = none) (w : But l H1 H2) : Same H H2 := fun a u h =>
  w a u (ne_of_none h f) (x a u h)
theorem But.butNew {b l : Addr} {H H1 H2 : Hp} (x : But b H H1) (f : H l = none) (w : But l H1 H2) (hb : H b ≠ none → True) : But b H H2 := fun a u e h =>
  w a u (ne_of_none h f) (x a u e h)
theorem But.wr {b l : Addr} {o : HO} {H H1 H2 : Hp} (x : But b H H1) (f : H l = none) (w : Wr H1 l o H2) : But b H H2 := fun a u e h => w.keep (ne_of_none h f) (x a u e h)
theorem But.nw {b l : Addr} {o : HO} {H H1 H2 : Hp} (x : But b H H1) (w : Nw H1 l o H2) : But b H H2 := fun a u e h => w.keep (x a u e h)
theorem But.free {b l : Addr} {H H1 : Hp} (x : But b H H1) (e : l ≠ b) (f : H1 l = none) : H l = none := by
  cases q : H l with
  | none => rfl
  | some o =>
    rw [x l o e q] at f
    cases f
theorem sz {n : Nat} (h : n ≤ 16000000) : n ≤ sizeLine := Nat.le_trans h (by decide)
theorem szlt {n : Nat} (h : n ≤ 16000000) : n < sizeLine := Nat.lt_of_le_of_lt h (by decide)
theorem free_of {H H1 : Hp} {l : Addr} (x : Same H H1) (f : H1 l = none) : H l = none := x.free f

/-- the same of lists and tuples that are read -/
theorem sqL_same {K : PySem.W.Frag} {H H' : Hp} {a : Addr} {xs : List V} (e : Same H H') (h : SqL K H a xs) : SqL K H' a xs := e.seq h
theorem sqT_same {K : PySem.W.Frag} {H H' : Hp} {a : Addr} {xs : List V} (e : Same H H') (h : SqT K H a xs) : SqT K H' a xs := by
  rcases h with (h | ⟨o, h⟩) | h
  · exact .inl (.inl (e _ _ h))
  · exact .inl (.inr ⟨o, e _ _ h⟩)
  · exact .inr h

/-! ### names -/
def tV (i : Nat) : TE := fun σ H Q => match σ[i]? with
  | some (some v) => Q v H
  | _ => False
theorem tV_of {i : Nat} {σ : L2.St} {H : Hp} {Q : VK} (h : tV i σ H Q) : tVar i σ H Q := by
  unfold tV at h
  split at h
  · exact ⟨_, by assumption, h⟩
  · exact h.elim
section
variable {X : Cx}
theorem pz (i : Nat) {x : Str} {pos : Pos} (hN : X.N[i]? = some x := by rfl) (hv : Vis X.env.scope x := by first | exact Or.inl rfl | exact Or.inr (Or.inl rfl) | exact Or.inr (Or.inr rfl)) (hd : (x == ("__debug__" : Str)) = false := by decide)
    (hcd : (x == ("__classdict__" : Str)) = false := by decide) : PE X (.Name x pos) (tV i) :=
  ⟨fun pins s σ H Q I h => (pe_var hN hv hd hcd).run pins s σ H Q I (tV_of h)⟩
end

/-! ### operators on values, that compute -/
def zI (g : Int → Int → V) : R2 := fun x y H Q => match x, y with
  | .int i, .int j => Q (g i j) H
  | _, _ => False
def zIC (C : Int → Int → Prop) (g : Int → Int → V) : R2 := fun x y H Q => match x, y with
  | .int i, .int j => C i j ∧ Q (g i j) H
  | _, _ => False
theorem opr_w {X : Cx} {f : Value → Value → Sem Value} {r r' : R2} (h : OpR X f r') (i : ∀ x y H Q, r x y H Q → r' x y H Q) : OpR X f r :=
  fun pins s σ H x y v u Q I rx ry q => h pins s σ H x y v u Q I rx ry (i x y H Q q)
theorem zI_of {g : Int → Int → V} (x y : V) (H : Hp) (Q : VK) (h : zI g x y H Q) : rI0 g x y H Q := by
  unfold zI at h
  split at h
  · exact ⟨_, _, rfl, rfl, h⟩
  · exact h.elim
theorem zIC_of {C : Int → Int → Prop} {g : Int → Int → V} (x y : V) (H : Hp) (Q : VK) (h : zIC C g x y H Q) : rI C g x y H Q := by
  unfold zIC at h
  split at h
  · exact ⟨_, _, rfl, rfl, h.1, h.2⟩
  · exact h.elim
section
variable {X : Cx}
theorem o_sub : OpR X (binaryOp .Sub) (zI fun i j => .int (i - j)) := opr_w op_sub fun x y H Q h => zI_of x y H Q h
theorem o_mod : OpR X (binaryOp .Mod) (zIC (fun _ j => 0 < j) fun i j => .int (i % j)) := opr_w op_mod fun x y H Q h => zIC_of x y H Q h
theorem o_fdiv : OpR X (binaryOp .FloorDiv) (zIC CDiv fun i j => .int (i / j)) := opr_w op_fdiv fun x y H Q h => zIC_of x y H Q h
theorem o_pow : OpR X (binaryOp .Pow) (zIC CPow fun i j => .int (i ^ j.toNat)) := opr_w op_pow fun x y H Q h => zIC_of x y H Q h
/-- + : ints, texts, lists, tuples -/
def zAdd (K : PySem.W.Frag) : R2 := fun x y H Q => match x, y with
  | .int i, .int j => Q (.int (i + j)) H
  | .str a, .str b => a.length + b.length ≤ sizeLine ∧ Q (.str (a ++ b)) H
  | .ref l, .ref b =>
      (∃ xs zs, H l = some (.lst xs) ∧ H b = some (.lst zs) ∧ xs.length + zs.length ≤ sizeLine ∧ ∀ p H2, Nw H p (.lst (xs ++ zs)) H2 → Q (.ref p) H2) ∨
      (∃ xs zs, SqT K H l xs ∧ SqT K H b zs ∧ xs.length + zs.length ≤ sizeLine ∧ (xs = [] → Q (.ref b) H) ∧ (xs ≠ [] → zs = [] → Q (.ref l) H) ∧
        (xs ≠ [] → zs ≠ [] → ∀ p H2, Nw H p (.tup (xs ++ zs)) H2 → Q (.ref p) H2))
  | _, _ => False
theorem o_add : OpR X (binaryOp .Add) (zAdd X.K) := by
  intro pins s σ H x y v u Q I rx ry h
  unfold zAdd at h
  split at h
  · exact op_add pins s σ H _ _ v u Q I rx ry ⟨_, _, rfl, rfl, h⟩
  · exact op_add_str pins s σ H _ _ v u Q I rx ry ⟨_, _, rfl, rfl, h.1, h.2⟩
  · rcases h with ⟨xs, zs, h1, h2, h3, q⟩ | ⟨xs, zs, h1, h2, h3, q1, q2, q3⟩
    · exact op_cat pins s σ H _ _ v u Q I rx ry ⟨_, _, xs, zs, rfl, rfl, h1, h2, h3, fun p hp => q p _ (nw hp)⟩
    · exact op_catA pins s σ H _ _ v u Q I rx ry ⟨_, _, xs, zs, rfl, rfl, h1, h2, h3, q1, q2, fun a b p hp => q3 a b p _ (nw hp)⟩
  · exact h.elim
/-- a text so many times -/
def rep (x : Str) (n : Int) : Str := ⟨(List.replicate n.toNat x.cps.toList).flatten.toArray⟩
theorem rep_fold (l : List Nat) : ∀ (n : Nat) (acc : Array Nat), (List.replicate n l.toArray).foldl (· ++ ·) acc = acc ++ (List.replicate n l).flatten.toArray
  | 0, acc => by simp
  | n + 1, acc => by
    rw [List.replicate_succ, List.foldl_cons, rep_fold l n, List.replicate_succ, List.flatten_cons]
    simp [Array.append_assoc]
/-- * : ints, a text, a list -/
def zMul : R2 := fun x y H Q => match x, y with
  | .int i, .int j => CMul i j ∧ Q (.int (i * j)) H
  | .str a, .int n => -(2 ^ 62) ≤ n ∧ n < 2 ^ 62 ∧ a.length * n.toNat ≤ 1000000 ∧ Q (.str (rep a n)) H
  | .ref l, .int k => ∃ xs, H l = some (.lst xs) ∧ -(2 ^ 63) ≤ k ∧ k < 2 ^ 63 ∧ xs.length * k.toNat ≤ sizeLine ∧ ∀ p H2, Nw H p (.lst (List.replicate k.toNat xs).flatten) H2 → Q (.ref p) H2
  | _, _ => False
theorem str_size0 {a : Str} (h : a.length = 0) : a = Str.empty := by
  obtain ⟨c⟩ := a
  have h : c.size = 0 := h
  have : c = #[] := Array.eq_empty_of_size_eq_zero h
  rw [this]
  rfl
theorem o_mul : OpR X (binaryOp .Mult) zMul := by
  intro pins s σ H x y v u Q I rx ry h
  unfold zMul at h
  split at h
  · exact op_mul pins s σ H _ _ v u Q I rx ry ⟨_, _, rfl, rfl, h.1, h.2⟩
  · rename_i a n
    obtain ⟨h1, h2, h3, q⟩ := h
    obtain ⟨t, rfl⟩ := rx
    obtain ⟨t', rfl⟩ := ry
    have two : (2 : Int) ^ 62 = 4611686018427387904 := by decide
    have two3 : (2 : Int) ^ 63 = 9223372036854775808 := by decide
    refine PySem.P.mul_str ?_ (fun hn hz => ?_) (fun hn hz => ?_) ?_
    · rw [decide_eq_false (by omega), decide_eq_false (by omega)]
      rfl
    · intro hc
      have hn1 : 1 ≤ n := by omega
      have hd : ((2 : Int) ^ 63 - 1) / n * n ≤ 2 ^ 63 - 1 := Int.ediv_mul_le _ (by omega)
      have hlt : ((2 : Int) ^ 63 - 1) < (((2 : Int) ^ 63 - 1) / n + 1) * n := Int.lt_ediv_add_one_mul_self _ (by omega)
      have hle : (((2 : Int) ^ 63 - 1) / n + 1) * n ≤ (a.length : Int) * n := Int.mul_le_mul_of_nonneg_right (by omega) (by omega)
      have hcast : ((a.length * n.toNat : Nat) : Int) = (a.length : Int) * n := by
        rw [Int.natCast_mul, Int.toNat_of_nonneg (by omega)]
      omega
    · show decide (a.length * n.toNat > sizeLine) = false
      have hs : 1000000 ≤ sizeLine := by decide
      exact decide_eq_false (by omega)
    · have fit : (rep a n).length ≤ sizeLine := by
        have e : (rep a n).length = a.length * n.toNat := by
          show ((List.replicate n.toNat a.cps.toList).flatten.toArray).size = a.length * n.toNat
          rw [List.size_toArray, List.length_flatten, List.map_replicate, List.sum_replicate_nat, Array.length_toList, Nat.mul_comm]
          rfl
        have hs : 1000000 ≤ sizeLine := by decide
        omega
      have fin : ∀ (tk : Nat) (t' : Tok), EP X pins σ Q (.str (rep a n) t') { s with toks := tk } := fun tk t' => ⟨.str (rep a n), H, I.tok tk, ⟨t', rfl⟩, q⟩
      by_cases hn : n < 1
      · have e : rep a n = Str.empty := by
          have : n.toNat = 0 := by omega
          unfold rep
          rw [this]
          rfl
        rw [if_pos hn]
        rw [e] at fin
        exact ⟨by decide, fin _ _⟩
      · rw [if_neg hn]
        by_cases hz : (n == 1 || a.length == 0) = true
        · rw [if_pos hz]
          have e : rep a n = a := by
            rw [Bool.or_eq_true] at hz
            rcases hz with hz | hz
            · have : n = 1 := by simpa using hz
              subst this
              obtain ⟨c⟩ := a
              show (⟨(List.replicate (1 : Int).toNat c.toList).flatten.toArray⟩ : Str) = ⟨c⟩
              simp
            · have e0 := str_size0 (a := a) (by simpa using hz)
              subst e0
              unfold rep
              show (⟨(List.replicate n.toNat ([] : List Nat)).flatten.toArray⟩ : Str) = Str.empty
              rw [List.flatten_replicate_nil]
              rfl
          rw [e] at fin
          exact fin s.toks t
        · rw [if_neg hz]
          have e : (⟨(List.replicate n.toNat a.cps).foldl (· ++ ·) #[]⟩ : Str) = rep a n := by
            obtain ⟨c⟩ := a
            unfold rep
            have q := rep_fold c.toList n.toNat #[]
            simp only [Array.toArray_toList] at q
            rw [q]
            simp
          rw [e]
          exact ⟨fit, fin _ _⟩
  · obtain ⟨xs, h1, h2, h3, h4, q⟩ := h
    exact op_rep pins s σ H _ _ v u Q I rx ry ⟨_, _, xs, rfl, rfl, h1, h2, h3, h4, fun p hp => q p _ (nw hp)⟩
  · exact h.elim
end

/-! ### any rule, its end carried -/
def mon (t : TE) : TE := fun σ H Q => ∃ Q0 : VK, t σ H Q0 ∧ ∀ x H1, Q0 x H1 → Q x H1
def monA (t : TA) : TA := fun σ H Q => ∃ Q0 : List V → Hp → Prop, t σ H Q0 ∧ ∀ x H1, Q0 x H1 → Q x H1
def monR (r : R2) : R2 := fun x y H Q => ∃ Q0 : VK, r x y H Q0 ∧ ∀ x H1, Q0 x H1 → Q x H1
section
variable {X : Cx} {a b e o : Expr} {es rest : List Expr} {ta tb te to : TE} {t t' : TE} {pos : Pos}
theorem pe_w (h : PE X e t) (i : ∀ σ H Q, t' σ H Q → t σ H Q) : PE X e t' := ⟨fun pins s σ H Q I q => h.run pins s σ H Q I (i σ H Q q)⟩
theorem pt_w {t t' : TT} (h : PT X e t) (i : ∀ σ H Q, t' σ H Q → t σ H Q) : PT X e t' := ⟨fun pins s σ H Q I q => h.run pins s σ H Q I (i σ H Q q)⟩
theorem po_w {e : Option Expr} {t t' : TO} (h : PO X e t) (i : ∀ σ H Q, t' σ H Q → t σ H Q) : PO X e t' := ⟨fun pins s σ H Q I q => h.run pins s σ H Q I (i σ H Q q)⟩
theorem ps_w {st : Stmt} {t t' : TS} (h : PS X st t) (i : ∀ D σ H, t' D σ H → t D σ H) : PS X st t' := ⟨fun pins s σ H D I q => h.run pins s σ H D I (i D σ H q)⟩
theorem pg_w {g : Expr} {t t' : TG} (h : PG X g t) (i : ∀ v σ H Q, t' v σ H Q → t v σ H Q) : PG X g t' := ⟨fun pins s σ H v u Q I r q => h.run pins s σ H v u Q I r (i v σ H Q q)⟩
theorem pi_w {g e : Expr} {t t' : TI} (h : PI X g e t) (i : ∀ σ H R, t' σ H R → t σ H R) : PI X g e t' := ⟨fun pins s σ H R I q => h.run pins s σ H R I (i σ H R q)⟩
theorem callr_w {f : Value} {r r' : List V → Hp → VK → Prop} (h : CallR X f r') (i : ∀ vs H Q, r vs H Q → r' vs H Q) : CallR X f r :=
  fun pins s σ H xs us Q I rs q => h pins s σ H xs us Q I rs (i xs H Q q)
theorem pe_mon (h : PE X e t) : PE X e (mon t) := ⟨fun pins s σ H Q I ⟨Q0, q, i⟩ => thn (h.run pins s σ H Q0 I q) fun u s' ⟨v, H', I', r, z⟩ => ⟨v, H', I', r, i v H' z⟩⟩
theorem pa_mon {t : TA} (h : PA X es t) : PA X es (monA t) := ⟨fun pos pins s σ H Q I ⟨Q0, q, i⟩ => thn (h.run pos pins s σ H Q0 I q) fun u s' ⟨v, H', I', r, z⟩ => ⟨v, H', I', r, i v H' z⟩⟩
theorem opr_mon {f : Value → Value → Sem Value} {r : R2} (h : OpR X f r) : OpR X f (monR r) := fun pins s σ H x y v u Q I rx ry ⟨Q0, q, i⟩ =>
  thn (h pins s σ H x y v u Q0 I rx ry q) fun u s' ⟨v, H', I', r, z⟩ => ⟨v, H', I', r, i v H' z⟩

/-! ### tests and bools -/
/-- what follows of a bool -/
def zB (x : V) (H : Hp) (Q : Bool → Hp → Prop) : Prop := match x with
  | .bl k => Q k H
  | _ => False
theorem zB_of {x : V} {H : Hp} {Q : Bool → Hp → Prop} (h : zB x H Q) : ∃ k, x = .bl k ∧ Q k H := by
  unfold zB at h
  split at h
  · exact ⟨_, rfl, h⟩
  · exact h.elim
def tBz (t : TE) : TT := fun σ H Q => t σ H fun x H1 => zB x H1 Q
theorem pt_cmpZ {op : CmpOp} {r : R2} (ho : OpR X (compareOp op) r) (ha : PE X a ta) (hb : PE X b tb) (hm : behindInMarks op b = false) : PT X (.Compare a [op] [b] pos) (tBz (tOp r ta tb)) :=
  pt_w (pt_cmpR (opr_mon ho) (pe_mon ha) (pe_mon hb) hm) fun σ H Q h => ⟨_, h, fun x H1 h1 => ⟨_, h1, fun y H2 h2 => ⟨_, h2, fun z H3 h3 => zB_of h3⟩⟩⟩
theorem pt_chainZ {c : Expr} {tc : TE} {op op' : CmpOp} {r r' : R2} (h : PE X (.Compare a [op, op'] [b, c] pos) t) (he : ∀ whole, isTrue (.Compare a [op, op'] [b, c] pos) X.env whole = (do let v ← whole; standAt (Expr.Compare a [op, op'] [b, c] pos).pos; holding [v] (truthy v)) := by intro _; rfl) :
    PT X (.Compare a [op, op'] [b, c] pos) (tBz t) := pt_w (pt_val (pe_mon h) he) fun σ H Q h => ⟨_, h, fun x H1 h1 => zB_of h1⟩
/-- a < b < c as a value -/
def tChZ (r r' : R2) (ta tb tc : TE) : TE := fun σ H Q => ta σ H fun x H1 => tb σ H1 fun y H2 => r x y H2 fun z H3 => zB z H3 fun k H3 => if k = true then tc σ H3 fun w' H4 => r' y w' H4 Q else Q (.bl false) H3
theorem pe_chZ {c : Expr} {tc : TE} {op op' : CmpOp} {r r' : R2} (h : PE X (.Compare a [op, op'] [b, c] pos) (tChain (monR r) r' (mon ta) (mon tb) tc)) : PE X (.Compare a [op, op'] [b, c] pos) (tChZ r r' ta tb tc) :=
  pe_w h fun σ H Q h => ⟨_, h, fun x H1 h1 => ⟨_, h1, fun y H2 h2 => ⟨_, h2, fun z H3 h3 => zB_of h3⟩⟩⟩
/-- an expression's truth -/
def zTr (K : PySem.W.Frag) (x : V) (H : Hp) (Q : Bool → Hp → Prop) : Prop := match x with
  | .bl k => Q k H
  | .non => Q false H
  | .int i => Q (i != 0) H
  | .str y => y.length ≤ sizeLine ∧ Q ((y.length : Int) != 0) H
  | .ref p => (∃ xs, SqL K H p xs ∧ Q (!xs.isEmpty) H) ∨ (∃ xs, SqT K H p xs ∧ Q (!xs.isEmpty) H) ∨ ∃ kvs, H p = some (.dK kvs) ∧ Q (!kvs.isEmpty) H
  | _ => False
theorem zTr_of {K : PySem.W.Frag} {x : V} {H : Hp} {Q : Bool → Hp → Prop} (h : zTr K x H Q) : ∃ k, TruV K x H k ∧ Q k H := by
  unfold zTr at h
  split at h
  · exact ⟨_, rfl, h⟩
  · exact ⟨_, rfl, h⟩
  · exact ⟨_, rfl, h⟩
  · exact ⟨_, ⟨h.1, rfl⟩, h.2⟩
  · rcases h with ⟨xs, h, q⟩ | ⟨xs, h, q⟩ | ⟨kvs, h, q⟩
    · exact ⟨_, .inl ⟨xs, h, rfl⟩, q⟩
    · exact ⟨_, .inr (.inl ⟨xs, h, rfl⟩), q⟩
    · exact ⟨_, .inr (.inr ⟨kvs, h, rfl⟩), q⟩
  · exact h.elim
def tTr (K : PySem.W.Frag) (t : TE) : TT := fun σ H Q => t σ H fun x H1 => zTr K x H1 Q
theorem pt_tr (h : PE X a ta) (he : ∀ whole, isTrue a X.env whole = (do let v ← whole; standAt a.pos; holding [v] (truthy v)) := by intro _; rfl) : PT X a (tTr X.K ta) :=
  pt_w (pt_truth (pe_mon h) he) fun σ H Q h => ⟨_, h, fun x H1 h1 => zTr_of h1⟩
/-- and, or, not as values of bools -/
def tAndZ (ta tb : TE) : TE := fun σ H Q => ta σ H fun x H1 => zB x H1 fun c H1 => if c = true then tb σ H1 Q else Q (.bl false) H1
def tOrZ (ta tb : TE) : TE := fun σ H Q => ta σ H fun x H1 => zB x H1 fun c H1 => if c = true then Q (.bl true) H1 else tb σ H1 Q
def tNotZ (ta : TE) : TE := fun σ H Q => ta σ H fun x H1 => zB x H1 fun c H1 => Q (.bl (!c)) H1
theorem pe_andZ (ha : PE X a ta) (hb : PE X (.BoolOp .And (b :: rest) pos) tb) : PE X (.BoolOp .And (a :: b :: rest) pos) (tAndZ ta tb) :=
  pe_w (pe_and (pe_mon ha) hb) fun σ H Q h => ⟨_, h, fun x H1 h1 => zB_of h1⟩
theorem pe_orZ (ha : PE X a ta) (hb : PE X (.BoolOp .Or (b :: rest) pos) tb) : PE X (.BoolOp .Or (a :: b :: rest) pos) (tOrZ ta tb) :=
  pe_w (pe_or (pe_mon ha) hb) fun σ H Q h => ⟨_, h, fun x H1 h1 => zB_of h1⟩
theorem pe_notZ (ha : PE X a ta) : PE X (.UnaryOp .Not a pos) (tNotZ ta) := pe_w (pe_not (pe_mon ha)) fun σ H Q h => ⟨_, h, fun x H1 h1 => zB_of h1⟩

/-! ### comparisons -/
theorem o_lt : OpR X (compareOp .Lt) (zI fun i j => .bl (decide (i < j))) := opr_w op_lt fun x y H Q h => zI_of x y H Q h
theorem o_le : OpR X (compareOp .LtE) (zI fun i j => .bl (decide (i ≤ j))) := opr_w op_le fun x y H Q h => zI_of x y H Q h
theorem o_gt : OpR X (compareOp .Gt) (zI fun i j => .bl (decide (j < i))) := opr_w op_gt fun x y H Q h => zI_of x y H Q h
theorem o_ge : OpR X (compareOp .GtE) (zI fun i j => .bl (decide (j ≤ i))) := opr_w op_ge fun x y H Q h => zI_of x y H Q h
/-- < of two signs or ints -/
def zLt : R2 := fun x y H Q => match x, y with
  | .int i, .int j => Q (.bl (decide (i < j))) H
  | .str a, .str b => Q (.bl (decide (a.cps.toList < b.cps.toList))) H
  | _, _ => False
def zGt : R2 := fun x y H Q => match x, y with
  | .int i, .int j => Q (.bl (decide (j < i))) H
  | .str a, .str b => Q (.bl (decide (b.cps.toList < a.cps.toList))) H
  | _, _ => False
theorem o_ltS : OpR X (compareOp .Lt) zLt := by
  intro pins s σ H x y v u Q I rx ry h
  unfold zLt at h
  split at h
  · exact op_lt pins s σ H _ _ v u Q I rx ry ⟨_, _, rfl, rfl, h⟩
  · exact op_lt_str pins s σ H _ _ v u Q I rx ry ⟨_, _, rfl, rfl, h⟩
  · exact h.elim
theorem o_gtS : OpR X (compareOp .Gt) zGt := by
  intro pins s σ H x y v u Q I rx ry h
  unfold zGt at h
  split at h
  · exact op_gt pins s σ H _ _ v u Q I rx ry ⟨_, _, rfl, rfl, h⟩
  · exact op_gt_str pins s σ H _ _ v u Q I rx ry ⟨_, _, rfl, rfl, h⟩
  · exact h.elim
/-- == of plain things, of data -/
def zEq (K : PySem.W.Frag) (neg : Bool) : R2 := fun x y H Q => match scal x y with
  | true => Q (.bl (neg ^^ decide (x = y))) H
  | false => ∃ d e, Dp K H x d ∧ Dp K H y e ∧ SeqAt.shaped d = true ∧ SeqAt.shaped e = true ∧ Q (.bl (neg ^^ PyData.eqv d e)) H
theorem o_eq (hu : X.A.units + 64 < cLine) : OpR X (compareOp .Eq) (zEq X.K false) := by
  intro pins s σ H x y v u Q I rx ry h
  unfold zEq at h
  split at h
  · rename_i e
    exact op_eq pins s σ H x y v u Q I rx ry ⟨e, by simpa using h⟩
  · exact op_eqD hu pins s σ H x y v u Q I rx ry (by simpa [rEqD] using h)
theorem o_ne (hu : X.A.units + 64 < cLine) : OpR X (compareOp .NotEq) (zEq X.K true) := by
  intro pins s σ H x y v u Q I rx ry h
  unfold zEq at h
  split at h
  · rename_i e
    exact op_ne pins s σ H x y v u Q I rx ry ⟨e, by simpa using h⟩
  · exact op_neD hu pins s σ H x y v u Q I rx ry (by simpa [rNeD] using h)
/-- is None, is True, is False -/
def zIs (neg : Bool) : R2 := fun x y H Q => match y, x with
  | .non, x => Q (.bl (neg ^^ decide (x = .non))) H
  | .bl b, .bl a => Q (.bl (neg ^^ decide (a = b))) H
  | _, _ => False
theorem o_is : OpR X (compareOp .Is) (zIs false) := by
  intro pins s σ H x y v u Q I rx ry h
  unfold zIs at h
  split at h
  · exact op_isN pins s σ H _ _ v u Q I rx ry ⟨rfl, by simpa using h⟩
  · exact op_is_bl pins s σ H _ _ v u Q I rx ry ⟨_, _, rfl, rfl, by simpa using h⟩
  · exact h.elim
theorem o_isn : OpR X (compareOp .IsNot) (zIs true) := by
  intro pins s σ H x y v u Q I rx ry h
  unfold zIs at h
  split at h
  · exact op_notN pins s σ H _ _ v u Q I rx ry ⟨rfl, by simpa using h⟩
  · exact op_isnot_bl pins s σ H _ _ v u Q I rx ry ⟨_, _, rfl, rfl, by simpa using h⟩
  · exact h.elim
/-- in, not in: a sign in a text, a flat thing in a list or tuple -/
def zIn (K : PySem.W.Frag) (neg : Bool) : R2 := fun x y H Q => match y with
  | .str z => ∃ c : Nat, x = .str ⟨#[c]⟩ ∧ Q (.bl (neg ^^ decide (c ∈ z.cps.toList))) H
  | .ref p => ∃ xs, (SqL K H p xs ∨ SqT K H p xs) ∧ flatV x = true ∧ xs.all flatV = true ∧ Q (.bl (neg ^^ inV x xs)) H
  | _ => False
theorem o_in : OpR X (compareOp .In) (zIn X.K false) := by
  intro pins s σ H x y v u Q I rx ry h
  unfold zIn at h
  split at h
  · obtain ⟨c, rfl, q⟩ := h
    exact op_in_sign pins s σ H _ _ v u Q I rx ry ⟨c, _, rfl, rfl, by simpa using q⟩
  · obtain ⟨xs, h1, h2, h3, q⟩ := h
    exact op_in_seq pins s σ H _ _ v u Q I rx ry ⟨_, xs, rfl, h1, h2, h3, by simpa using q⟩
  · exact h.elim
theorem o_nin : OpR X (compareOp .NotIn) (zIn X.K true) := by
  intro pins s σ H x y v u Q I rx ry h
  unfold zIn at h
  split at h
  · obtain ⟨c, rfl, q⟩ := h
    exact op_notIn_sign pins s σ H _ _ v u Q I rx ry ⟨c, _, rfl, rfl, by simpa using q⟩
  · obtain ⟨xs, h1, h2, h3, q⟩ := h
    exact op_notIn_seq pins s σ H _ _ v u Q I rx ry ⟨_, xs, rfl, h1, h2, h3, by simpa using q⟩
  · exact h.elim

/-! ### items and slices -/
def zIx (K : PySem.W.Frag) : R2 := fun x y H Q => match x, y with
  | .str z, .int i => ∃ c, z.length ≤ sizeLine ∧ atI z.cps.toList i = some c ∧ Q (.str ⟨#[c]⟩) H
  | .ref p, .int i => ∃ xs v, (SqL K H p xs ∨ SqT K H p xs) ∧ atI xs i = some v ∧ Q v H
  | _, _ => False
theorem o_ix : IxR X (zIx X.K) := by
  intro value slice pins s σ H x y v u Q I rx ry h hs
  unfold zIx at h
  split at h
  · obtain ⟨c, h1, h2, q⟩ := h
    exact ix_str value slice pins s σ H _ _ v u Q I rx ry ⟨_, _, c, rfl, rfl, h1, h2, q⟩ hs
  · obtain ⟨xs, z, h1 | h1, h2, q⟩ := h
    · exact ix_list value slice pins s σ H _ _ v u Q I rx ry ⟨_, _, _, z, rfl, rfl, h1, h2, q⟩ hs
    · exact ix_tup value slice pins s σ H _ _ v u Q I rx ry ⟨_, _, _, z, rfl, rfl, h1, h2, q⟩ hs
  · exact h.elim
def zSl (K : PySem.W.Frag) : V → Option Int → Option Int → Hp → VK → Prop := fun x lo hi H Q => match x with
  | .str z => z.length ≤ sizeLine ∧ Q (.str (cutS z lo hi)) H
  | .ref a => (∃ xs, SqL K H a xs ∧ ∀ p H2, Nw H p (.lst (cutV xs lo hi)) H2 → Q (.ref p) H2) ∨
      (∃ xs, SqT K H a xs ∧ (HT.sIx xs.length 0 lo = 0 ∧ HT.sIx xs.length xs.length hi = xs.length → Q (.ref a) H) ∧
        (¬ (HT.sIx xs.length 0 lo = 0 ∧ HT.sIx xs.length xs.length hi = xs.length) → ∀ p H2, Nw H p (.tup (cutV xs lo hi)) H2 → Q (.ref p) H2))
  | _ => False
theorem o_sl : SlR X (zSl X.K) := by
  intro pins s σ H x v vl vu lo hi sl Q I rx hs pl pu h
  unfold zSl at h
  split at h
  · exact sl_str pins s σ H _ v vl vu lo hi sl Q I rx hs pl pu ⟨_, rfl, h.1, h.2⟩
  · rcases h with ⟨xs, h1, q⟩ | ⟨xs, h1, q1, q2⟩
    · exact sl_list pins s σ H _ v vl vu lo hi sl Q I rx hs pl pu ⟨_, xs, rfl, h1, fun p hp => q p _ (nw hp)⟩
    · exact sl_tupA pins s σ H _ v vl vu lo hi sl Q I rx hs pl pu ⟨_, xs, rfl, h1, q1, fun z p hp => q2 z p _ (nw hp)⟩
  · exact h.elim
def tPz (t : TE) : TO := fun σ H Q => t σ H fun x H1 => match x with
  | .int i => Q (some i) H1
  | _ => False
theorem po_z (h : PE X e te) : PO X (some e) (tPz te) := po_w (po_some (pe_mon h)) fun σ H Q h => ⟨_, h, fun x H1 h1 => by
  split at h1
  · exact ⟨_, rfl, h1⟩
  · exact h1.elim⟩

/-! ### displays -/
def tLz (t : TA) : TE := fun σ H Q => t σ H fun xs H1 => xs.length ≤ sizeLine ∧ ∀ p H2, Nw H1 p (.lst xs) H2 → Q (.ref p) H2
def tTz (t : TA) : TE := fun σ H Q => t σ H fun xs H1 => xs.length ≤ sizeLine ∧ ∀ p H2, Nw H1 p (.tup xs) H2 → Q (.ref p) H2
theorem pe_lz {t : TA} (h : PA X es t) : PE X (.List es pos) (tLz t) := pe_w (pe_lst (pa_mon h)) fun σ H Q h => ⟨_, h, fun xs H1 h1 => ⟨h1.1, fun p hp => h1.2 p _ (nw hp)⟩⟩
theorem pe_tz {t : TA} {x1} (h : PA X es t) : PE X (.Tuple es x1 pos) (tTz t) := pe_w (pe_tup (pa_mon h)) fun σ H Q h => ⟨_, h, fun xs H1 h1 => ⟨h1.1, fun p hp => h1.2 p _ (nw hp)⟩⟩

/-! ### calls of built-ins -/
def zLen (K : PySem.W.Frag) : List V → Hp → VK → Prop := fun vs H Q => match vs with
  | [.str z] => z.length ≤ sizeLine ∧ Q (.int z.length) H
  | [.ref p] => (∃ xs, (SqL K H p xs ∨ SqT K H p xs) ∧ Q (.int xs.length) H) ∨ ∃ kvs, H p = some (.dK kvs) ∧ Q (.int kvs.length) H
  | _ => False
theorem c_len : CallR X (.builtin "len") (zLen X.K) := by
  intro pins s σ H xs us Q I r h
  unfold zLen at h
  split at h
  · exact call_len_str pins s σ H _ us Q I r ⟨_, rfl, h.1, h.2⟩
  · rcases h with ⟨xs, h, q⟩ | ⟨kvs, h, q⟩
    · exact call_len_seq pins s σ H _ us Q I r ⟨_, xs, rfl, h, q⟩
    · exact call_lenD pins s σ H _ us Q I r ⟨_, kvs, rfl, h, q⟩
  · exact h.elim
def zInt : List V → Hp → VK → Prop := fun vs H Q => match vs with
  | [.int i] => Q (.int i) H
  | [.bl k] => Q (.int (if k then 1 else 0)) H
  | [.str a] => ∃ n, PySem.intText? a = some n ∧ a.length ≤ 640 ∧ Q (.int n) H
  | _ => False
theorem c_int : CallR X (.type "int") zInt := by
  intro pins s σ H xs us Q I r h
  unfold zInt at h
  split at h
  · exact call_int1 pins s σ H _ us Q I r (.inl ⟨_, rfl, h⟩)
  · exact call_int1 pins s σ H _ us Q I r (.inr ⟨_, rfl, h⟩)
  · obtain ⟨n, h1, h2, q⟩ := h
    exact call_int_str pins s σ H _ us Q I r ⟨_, n, rfl, h1, h2, q⟩
  · exact h.elim
def zStr : List V → Hp → VK → Prop := fun vs H Q => match vs with
  | [.int i] => i.natAbs.log2 < 1920 ∧ Q (.str (toString i)) H
  | _ => False
theorem c_str : CallR X (.type "str") zStr := callr_w call_str_int fun vs H Q h => by
  unfold zStr at h
  split at h
  · exact ⟨_, rfl, h.1, h.2⟩
  · exact h.elim
def zAbs : List V → Hp → VK → Prop := fun vs H Q => match vs with
  | [.int i] => Q (.int (if i < 0 then -i else i)) H
  | _ => False
theorem c_abs : CallR X (.builtin "abs") zAbs := callr_w call_abs fun vs H Q h => by
  unfold zAbs at h
  split at h
  · exact ⟨_, rfl, h⟩
  · exact h.elim
def zMax : List V → Hp → VK → Prop := fun vs H Q => match vs with
  | [.int i, .int j] => Q (.int (if j > i then j else i)) H
  | _ => False
theorem c_max (hc : X.calm = true) : CallR X (.builtin "max") zMax := callr_w (call_max2 hc) fun vs H Q h => by
  unfold zMax at h
  split at h
  · exact ⟨_, _, rfl, h⟩
  · exact h.elim
def zMin : List V → Hp → VK → Prop := fun vs H Q => match vs with
  | [.int i, .int j] => Q (.int (if j < i then j else i)) H
  | _ => False
theorem c_min (hc : X.calm = true) : CallR X (.builtin "min") zMin := callr_w (call_min2 hc) fun vs H Q h => by
  unfold zMin at h
  split at h
  · exact ⟨_, _, rfl, h⟩
  · exact h.elim
def zSum (K : PySem.W.Frag) : List V → Hp → VK → Prop := fun vs H Q => match vs with
  | [.ref p] => ∃ ns : List Int, SqL K H p (ns.map V.int) ∧ Q (.int ns.sum) H
  | _ => False
theorem c_sum (hc : X.calm = true) : CallR X (.builtin "sum") (zSum X.K) := callr_w (cr_sum hc) fun vs H Q h => by
  unfold zSum at h
  split at h
  · obtain ⟨ns, h, q⟩ := h
    exact ⟨_, ns, rfl, h, q⟩
  · exact h.elim
def zAll (K : PySem.W.Frag) : List V → Hp → VK → Prop := fun vs H Q => match vs with
  | [.ref p] => ∃ bs : List Bool, SqL K H p (bs.map V.bl) ∧ Q (.bl (bs.all id)) H
  | _ => False
theorem c_all (hc : X.calm = true) : CallR X (.builtin "all") (zAll X.K) := callr_w (cr_all hc) fun vs H Q h => by
  unfold zAll at h
  split at h
  · obtain ⟨ns, h, q⟩ := h
    exact ⟨_, ns, rfl, h, q⟩
  · exact h.elim
def zList (K : PySem.W.Frag) : List V → Hp → VK → Prop := fun vs H Q => match vs with
  | [.ref p] => ∃ ys, (SqL K H p ys ∨ SqT K H p ys) ∧ ∀ l H2, Nw H l (.lst ys) H2 → Q (.ref l) H2
  | _ => False
theorem c_list : CallR X (.type "list") (zList X.K) := callr_w call_list_of fun vs H Q h => by
  unfold zList at h
  split at h
  · obtain ⟨ys, h, q⟩ := h
    exact ⟨_, ys, rfl, h, fun l hl => q l _ (nw hl)⟩
  · exact h.elim
def zTuple (K : PySem.W.Frag) : List V → Hp → VK → Prop := fun vs H Q => match vs with
  | [.ref p] => ∃ ys, (SqL K H p ys ∧ ∀ l H2, Nw H l (.tup ys) H2 → Q (.ref l) H2) ∨ (SqT K H p ys ∧ Q (.ref p) H)
  | _ => False
theorem c_tuple : CallR X (.type "tuple") (zTuple X.K) := callr_w call_tuple_of fun vs H Q h => by
  unfold zTuple at h
  split at h
  · obtain ⟨ys, ⟨h, q⟩ | ⟨h, q⟩⟩ := h
    · exact ⟨_, ys, rfl, .inl ⟨h, fun l hl => q l _ (nw hl)⟩⟩
    · exact ⟨_, ys, rfl, .inr ⟨h, q⟩⟩
  · exact h.elim

/-! ### isinstance -/
def isK (k T : String) : Bool := k == T || (k == "bool" && T == "int")
/-- a value's kind -/
def KindV (K : PySem.W.Frag) (H : Hp) (x : V) (k : String) : Prop := match x with
  | .non => k = "NoneType"
  | .bl _ => k = "bool"
  | .int _ => k = "int"
  | .str _ => k = "str"
  | .ref p => (k = "list" ∧ ∃ xs, SqL K H p xs) ∨ (k = "tuple" ∧ ∃ xs, SqT K H p xs) ∨ (k = "dict" ∧ ((∃ kvs, H p = some (.dK kvs)) ∨ ∃ kvs, H p = some (.dT kvs)))
  | _ => False
theorem KindV.tyx {K : PySem.W.Frag} {H : Hp} {x : V} {k : String} (h : KindV K H x k) : TyX K H x (.type k) ∧ k ∈ ["NoneType", "bool", "int", "str", "list", "tuple", "dict"] := by
  unfold KindV at h
  split at h
  · subst h; exact ⟨.base .non, by simp⟩
  · subst h; exact ⟨.base (.bl _), by simp⟩
  · subst h; exact ⟨.base (.int _), by simp⟩
  · subst h; exact ⟨.base (.str _), by simp⟩
  · rcases h with ⟨rfl, xs, (h | ⟨o, h⟩) | ⟨o, its, n, h1, h2, _⟩⟩ | ⟨rfl, xs, (h | ⟨o, h⟩) | ⟨o, its, n, h1, h2, _⟩⟩ | ⟨rfl, ⟨kvs, h⟩ | ⟨kvs, h⟩⟩
    · exact ⟨.base (.lst h), by simp⟩
    · exact ⟨.base (.frz h), by simp⟩
    · exact ⟨.kList h1 h2, by simp⟩
    · exact ⟨.base (.tup h), by simp⟩
    · exact ⟨.fTuple h, by simp⟩
    · exact ⟨.kTuple h1 h2, by simp⟩
    · exact ⟨.base (.dK h), by simp⟩
    · exact ⟨.base (.dT h), by simp⟩
  · exact h.elim
theorem kit_isK {K : PySem.W.Frag} {k T : String} (hk : k ∈ ["NoneType", "bool", "int", "str", "list", "tuple", "dict"]) (hT : T ∈ ["bool", "int", "str", "list", "tuple", "dict"]) : PySem.W.kitOne K (.type k) (.type T) = some (isK k T) := by
  refine kit_ty ?_
  have all : (["NoneType", "bool", "int", "str", "list", "tuple", "dict"].all fun k => ["bool", "int", "str", "list", "tuple", "dict"].all fun T => kitB k T == some (isK k T)) = true := by decide +kernel
  have h1 := (List.all_eq_true.mp all) k hk
  have h2 := (List.all_eq_true.mp h1) T hT
  exact eq_of_beq h2
def zIsi (K : PySem.W.Frag) : List V → Hp → VK → Prop := fun vs H Q => match vs with
  | [x, .ty T] => T ∈ ["bool", "int", "str", "list", "tuple", "dict"] ∧ ∃ k, KindV K H x k ∧ Q (.bl (isK k T)) H
  | [x, .ref tp] => ∃ T U k, H tp = some (.tup [.ty T, .ty U]) ∧ T ∈ ["bool", "int", "str", "list", "tuple", "dict"] ∧ U ∈ ["bool", "int", "str", "list", "tuple", "dict"] ∧ KindV K H x k ∧ Q (.bl (isK k T || isK k U)) H
  | _ => False
theorem c_isi : CallR X (.builtin "isinstance") (zIsi X.K) := by
  intro pins s σ H xs us Q I r h
  unfold zIsi at h
  split at h
  · obtain ⟨hT, k, hk, q⟩ := h
    obtain ⟨h1, h2⟩ := hk.tyx
    exact call_isi pins s σ H _ us Q I r ⟨_, _, _, _, _, rfl, .ty _, h1, kit_isK h2 hT, q⟩
  · obtain ⟨T, U, k, hp, hT, hU, hk, q⟩ := h
    obtain ⟨h1, h2⟩ := hk.tyx
    refine call_isiT pins s σ H _ us Q I r ⟨_, _, _, _, _, _, rfl, hp, .cons (.ty T) (.cons (.ty U) .nil), h1, kitAny_cons (b := isK k T) (kit_isK h2 hT) (fun e => ?_) (fun e => ?_), q⟩
    · rw [e, Bool.false_or]
      refine kitAny_cons (kit_isK h2 hU) (fun e2 => ?_) (fun e2 => e2)
      rw [e2]
      rfl
    · rw [e]
      rfl
  · exact h.elim
end

/-! ### methods of built-in types -/
section
variable {X : Cx} {a b e o : Expr} {es : List Expr} {te to : TE} {t : TA} {name : Str} {apos cpos : Pos} {T id : String}
/-- a text's method -/
def tMs (r : Str → List V → Hp → VK → Prop) (to : TE) (t : TA) : TE := fun σ H Q => to σ H fun x H1 => match x with
  | .str a => t σ H1 fun xs H2 => r a xs H2 Q
  | _ => False
def tMs0 (r : Str → Hp → VK → Prop) (to : TE) : TE := fun σ H Q => to σ H fun x H1 => match x with
  | .str a => r a H1 Q
  | _ => False
def ofS (r : Str → List V → Hp → VK → Prop) : V → List V → Hp → VK → Prop := fun x xs H Q => ∃ a, x = .str a ∧ r a xs H Q
theorem pe_ms {r : Str → List V → Hp → VK → Prop} (slot : Slot "str" name id) (hty : typeOf (.builtin id) = pure (.type "method_descriptor")) (hm : MtR X id (ofS r)) (ho : PE X o to) (ha : PA X (e :: es) t)
    (hbase : attributeBase o name X.env (eval o X.env) = eval o X.env := by rfl)
    (hfew : ((backTo cpos (starEach (e :: es) X.env)).all (fun x => !x.1) && (backToKw cpos (keywordEach [] X.env)).all (fun x => x.1.isSome)
      && decide ((e :: es).length + ([] : List Keyword).length + (if ([] : List Keyword).isEmpty then 0 else 1) < 30)) = true := by rfl)
    (hline : (apos.endLine == cpos.line) = true := by rfl) (hs : starEach (e :: es) X.env = (false, eval e X.env) :: starEach es X.env := by rfl) (hplain : (backTo cpos (starEach es X.env)).any (·.1) = false := by rfl) :
    PE X (.Call (.Attribute o name apos) (e :: es) [] cpos) (tMs r to t) :=
  pe_w (pe_bm PySem.F.plainAttrs_str slot hty hm (pe_mon ho) (pa_mon ha) hbase hfew hline hs hplain) fun σ H Q h => ⟨_, h, fun x H1 h1 => by
    split at h1
    · exact ⟨rfl, _, h1, fun xs H2 h2 => ⟨_, rfl, h2⟩⟩
    · exact h1.elim⟩
theorem pe_ms0 {r : Str → Hp → VK → Prop} (slot : Slot "str" name id) (hty : typeOf (.builtin id) = pure (.type "method_descriptor")) (hm : MtR X id (ofS fun a xs H Q => xs = [] ∧ r a H Q)) (ho : PE X o to)
    (hbase : attributeBase o name X.env (eval o X.env) = eval o X.env := by rfl) (hline : (apos.endLine == cpos.line) = true := by rfl) :
    PE X (.Call (.Attribute o name apos) [] [] cpos) (tMs0 r to) :=
  pe_w (pe_bm0 PySem.F.plainAttrs_str slot hty hm (pe_mon ho) hbase hline) fun σ H Q h => ⟨_, h, fun x H1 h1 => by
    split at h1
    · exact ⟨rfl, _, rfl, rfl, h1⟩
    · exact h1.elim⟩
theorem mt_w {id : String} {r r' : V → List V → Hp → VK → Prop} (h : MtR X id r') (i : ∀ x vs H Q, r x vs H Q → r' x vs H Q) : MtR X id r :=
  fun pins s σ H x xs v us Q I rx rs q => h pins s σ H x xs v us Q I rx rs (i x xs H Q q)
def zJoin (K : PySem.W.Frag) : Str → List V → Hp → VK → Prop := fun a xs H Q => match xs with
  | [.ref p] => ∃ ys : List Str, (SqL K H p (ys.map V.str) ∨ SqT K H p (ys.map V.str)) ∧ (ys.map (·.length)).sum + ys.length * a.length ≤ 16777216 ∧ Q (.str (Txt.join a ys)) H
  | _ => False
theorem m_join : MtR X "str.join" (ofS (zJoin X.K)) := mt_w mt_join fun x vs H Q ⟨a, e, h⟩ => by
  unfold zJoin at h
  split at h
  · obtain ⟨ys, h1, h2, q⟩ := h
    exact ⟨a, _, ys, e, rfl, h1, h2, q⟩
  · exact h.elim
def zZfill : Str → List V → Hp → VK → Prop := fun a xs H Q => match xs with
  | [.int i] => PadOk i = true ∧ Q (.str (Txt.zfill a i)) H
  | _ => False
theorem m_zfill : MtR X "str.zfill" (ofS zZfill) := mt_w mt_zfill fun x vs H Q ⟨a, e, h⟩ => by
  unfold zZfill at h
  split at h
  · exact ⟨a, _, e, rfl, h.1, h.2⟩
  · exact h.elim
def zPure (g : Str → V) : Str → Hp → VK → Prop := fun a H Q => Q (g a) H
theorem m0_of {id : String} {g : Str → V} (h : MtR X id (fun x xs H Q => ∃ a, x = .str a ∧ xs = [] ∧ True ∧ Q (g a) H)) : MtR X id (ofS fun a xs H Q => xs = [] ∧ zPure g a H Q) :=
  mt_w h fun x vs H Q ⟨a, e, h1, h2⟩ => ⟨a, e, h1, trivial, h2⟩
theorem m_isascii : MtR X "str.isascii" (ofS fun a xs H Q => xs = [] ∧ zPure (fun a => .bl (Txt.isascii a)) a H Q) := m0_of mt_isascii
theorem m_isprintable : MtR X "str.isprintable" (ofS fun a xs H Q => xs = [] ∧ zPure (fun a => .bl (Txt.isprintable a)) a H Q) := m0_of mt_isprintable
theorem m_islower : MtR X "str.islower" (ofS fun a xs H Q => xs = [] ∧ zPure (fun a => .bl (Txt.islower a)) a H Q) := m0_of mt_islower
theorem m_isalpha : MtR X "str.isalpha" (ofS fun a xs H Q => xs = [] ∧ zPure (fun a => .bl (Txt.isalpha a)) a H Q) := m0_of mt_isalpha
theorem m_isdigit : MtR X "str.isdigit" (ofS fun a xs H Q => xs = [] ∧ zPure (fun a => .bl (Txt.isdigit a)) a H Q) := m0_of mt_isdigit
/-- a list's method -/
def tMl (K : PySem.W.Frag) (r : Addr → List V → Hp → VK → Prop) (to : TE) (t : TA) : TE := fun σ H Q => to σ H fun x H1 => match x with
  | .ref l => (∃ xs, SqL K H1 l xs) ∧ t σ H1 fun xs H2 => r l xs H2 Q
  | _ => False
def ofL (r : Addr → List V → Hp → VK → Prop) : V → List V → Hp → VK → Prop := fun x xs H Q => ∃ a, x = .ref a ∧ r a xs H Q
theorem pe_ml {r : Addr → List V → Hp → VK → Prop} (slot : Slot "list" name id) (hty : typeOf (.builtin id) = pure (.type "method_descriptor")) (hm : MtR X id (ofL r)) (ho : PE X o to) (ha : PA X (e :: es) t)
    (hbase : attributeBase o name X.env (eval o X.env) = eval o X.env := by rfl)
    (hfew : ((backTo cpos (starEach (e :: es) X.env)).all (fun x => !x.1) && (backToKw cpos (keywordEach [] X.env)).all (fun x => x.1.isSome)
      && decide ((e :: es).length + ([] : List Keyword).length + (if ([] : List Keyword).isEmpty then 0 else 1) < 30)) = true := by rfl)
    (hline : (apos.endLine == cpos.line) = true := by rfl) (hs : starEach (e :: es) X.env = (false, eval e X.env) :: starEach es X.env := by rfl) (hplain : (backTo cpos (starEach es X.env)).any (·.1) = false := by rfl) :
    PE X (.Call (.Attribute o name apos) (e :: es) [] cpos) (tMl X.K r to t) :=
  pe_w (pe_bm PySem.F.plainAttrs_list slot hty hm (pe_mon ho) (pa_mon ha) hbase hfew hline hs hplain) fun σ H Q h => ⟨_, h, fun x H1 h1 => by
    split at h1
    · exact ⟨.inl ⟨rfl, h1.1⟩, _, h1.2, fun xs H2 h2 => ⟨_, rfl, h2⟩⟩
    · exact h1.elim⟩
def zApp : Addr → List V → Hp → VK → Prop := fun l ys H Q => match ys with
  | [y] => ∃ xs, H l = some (.lst xs) ∧ xs.length < sizeLine ∧ ∀ H2, Wr H l (.lst (xs ++ [y])) H2 → Q .non H2
  | _ => False
theorem m_append : MtR X "list.append" (ofL zApp) := mt_w mt_append fun x vs H Q ⟨a, e, h⟩ => by
  unfold zApp at h
  split at h
  · obtain ⟨xs, h1, h2, q⟩ := h
    exact ⟨a, xs, _, e, rfl, h1, h2, q _ wr⟩
  · exact h.elim
end

/-! ### targets and statements -/
section
variable {X : Cx} {a b e o i : Expr} {es : List Expr} {te to ti : TE} {pos : Pos}
def zSetL : V → V → V → Hp → (Hp → Prop) → Prop := fun o i v H Q => match o, i with
  | .ref p, .int k => ∃ xs j, H p = some (.lst xs) ∧ ixN xs.length k = some j ∧ ∀ H2, Wr H p (.lst (xs.set j v)) H2 → Q H2
  | _, _ => False
theorem s_list : PSet X zSetL := by
  intro pins s σ H o i v ov iv u Q I ro ri rv h
  unfold zSetL at h
  split at h
  · obtain ⟨xs, j, h1, h2, q⟩ := h
    exact set_list pins s σ H _ _ v ov iv u Q I ro ri rv ⟨_, xs, _, j, rfl, rfl, h1, h2, q _ wr⟩
  · exact h.elim
def gCz (t : TG) (u : TGs) : TGs := fun vs σ H Q => match vs with
  | v :: r => t v σ H fun σ' H' => u r σ' H' Q
  | [] => False
def gNz : TGs := fun vs σ H Q => match vs with
  | [] => Q σ H
  | _ => False
theorem pgs_w {g : List Expr} {t t' : TGs} (h : PGs X g t) (i : ∀ v σ H Q, t' v σ H Q → t v σ H Q) : PGs X g t' := ⟨fun pins s σ H v u Q I r q => h.run pins s σ H v u Q I r (i v σ H Q q)⟩
theorem pgs_nz : PGs X [] gNz := pgs_w pgs_nil fun v σ H Q h => by
  unfold gNz at h
  split at h
  · exact ⟨rfl, h⟩
  · exact h.elim
theorem pgs_cz {t : TG} {u : TGs} (ht : PG X e t) (hu : PGs X es u) (hs : (assignEach (e :: es) X.env).map (·.2) = assign e X.env :: (assignEach es X.env).map (·.2) := by rfl) : PGs X (e :: es) (gCz t u) :=
  pgs_w (pgs_cons ht hu hs) fun v σ H Q h => by
    unfold gCz at h
    split at h
    · exact ⟨_, _, rfl, h⟩
    · exact h.elim
def gTz (K : PySem.W.Frag) (n : Nat) (t : TGs) : TG := fun v σ H Q => match v with
  | .ref a => ∃ xs, SqT K H a xs ∧ xs.length = n ∧ t xs σ H Q
  | _ => False
theorem pg_tz {k : Nat} {t : TGs} {n : Nat} (hc : X.calm = true) (h : PGs X es t) (hn : (assignEach es X.env).length = n := by rfl) (hst : (assignEach es X.env).findIdx? (·.1) = none := by rfl) : PG X (.Tuple es k pos) (gTz X.K n t) :=
  pg_w (pg_tup hc h hn hst) fun v σ H Q h => by
    unfold gTz at h
    split at h
    · obtain ⟨xs, h1, h2, q⟩ := h
      exact ⟨_, xs, rfl, h1, h2, q⟩
    · exact h.elim
def tPrz (i j : Nat) (ta : TA) : TS := fun D σ H => ta σ H fun vs H1 => match vs with
  | [v, w] => D.nx ((σ.set i (some v)).set j (some w)) H1
  | _ => False
theorem ps_parZ {i j : Nat} {x y : Str} {ta : TA} {px py pt : Pos} {kt k2 pt2} (hc : X.calm = true) (hN : X.N.Nodup) (hi : X.N[i]? = some x) (hj : X.N[j]? = some y) (hij : i ≠ j)
    (hx : X.env.scope.names.lookup x = some .local) (hy : X.env.scope.names.lookup y = some .local) (ha : PA X [a, b] ta)
    (hw : swappedStores [.Tuple [.Name x px, .Name y py] kt pt] (.Tuple [a, b] k2 pt2) X.env = pure (some [x, y]))
    (hs : swapsWithSole [.Tuple [.Name x px, .Name y py] kt pt] (.Tuple [a, b] k2 pt2) pos.line X.env = pure false := by rfl) :
    PS X (.Assign [.Tuple [.Name x px, .Name y py] kt pt] (.Tuple [a, b] k2 pt2) pos) (tPrz i j ta) :=
  ps_w (ps_par hc hN hi hj hij hx hy (pa_mon ha) hw hs) fun D σ H h => ⟨_, h, fun vs H1 h1 => by
    split at h1
    · exact ⟨_, _, rfl, h1⟩
    · exact h1.elim⟩
def tRngZ (ta : TA) : TI := fun σ H R => ta σ H fun vs H1 => match vs with
  | [.int j] => -(2 ^ 62) ≤ j ∧ j < 2 ^ 62 ∧ R (Itr 0 j.toNat) H1
  | _ => False
theorem pi_rngZ {tg : Expr} {p : Pos} {ta : TA} (hg : Gl X "range") (hm : X.mg "range" = none) (ha : PA X [a] ta) (hs : starEach [a] X.env = [(false, eval a X.env)] := by rfl) : PI X tg (.Call (.Name "range" p) [a] [] pos) (tRngZ ta) :=
  pi_w (pi_range1 hg hm (pa_mon ha) hs) fun σ H R h => ⟨_, h, fun vs H1 h1 => by
    split at h1
    · exact ⟨_, rfl, h1⟩
    · exact h1.elim⟩
def tItL (K : PySem.W.Frag) (te : TE) : TI := fun σ H R => te σ H fun x H1 => match x with
  | .ref a => (∃ xs, SqL K H1 a xs) ∧ R (Itl K a) H1
  | _ => False
theorem pi_lz {tg : Expr} (h : PE X e te) : PI X tg e (tItL X.K te) := pi_w (pi_list (pe_mon h)) fun σ H R h => ⟨_, h, fun x H1 h1 => by
  split at h1
  · exact ⟨_, rfl, h1.1, h1.2⟩
  · exact h1.elim⟩
def tItT (K : PySem.W.Frag) (te : TE) : TI := fun σ H R => te σ H fun x H1 => match x with
  | .ref a => (∃ xs, SqT K H1 a xs) ∧ R (Itt K a) H1
  | _ => False
theorem pi_tz {tg : Expr} (h : PE X e te) : PI X tg e (tItT X.K te) := pi_w (pi_tup (pe_mon h)) fun σ H R h => ⟨_, h, fun x H1 h1 => by
  split at h1
  · exact ⟨_, rfl, h1.1, h1.2⟩
  · exact h1.elim⟩
def tItS (te : TE) : TI := fun σ H R => te σ H fun x H1 => match x with
  | .str a => R (Its a) H1
  | _ => False
theorem pi_sz {tg : Expr} (h : PE X e te) : PI X tg e (tItS te) := pi_w (pi_str (pe_mon h)) fun σ H R h => ⟨_, h, fun x H1 h1 => by
  split at h1
  · exact ⟨_, rfl, h1⟩
  · exact h1.elim⟩
end

/-! ### defs -/
/-- a def that stands under its name: its contract -/
structure Ct (P : Program) (w : World) (K : PySem.W.Frag) (mg : Str → Option Value) (base : Heap) (CX : CXT) (k : Nat) (x : Str) (ps : List Str) (sp : Sp) : Prop where
  ex : ∃ f fd, mg x = some (.ref f) ∧ PySem.W.keepIn K (.ref f) = true ∧ Binds K fd ps [] ∧ FnOk P w K mg base CX k f fd ps sp ∧ ∃ oc od osl, K.lookup f = some ⟨oc, od, .func fd, osl⟩
/-- a def of the top as it stands -/
structure Df (K : PySem.W.Frag) (mg : Str → Option Value) (x : Str) (st : Stmt) (ps : List Str) : Prop where
  ex : ∃ f fd, Fun K x x st f fd ∧ mg x = some (.ref f) ∧ Binds K fd ps []
def tCl (sp : Sp) (E : XK) (t : TA) : TE := fun σ H Q => t σ H fun vs H1 => sp vs H1 Q E
section
variable {X : Cx} {CX : CXT} {k : Nat} {x : Str} {ps : List Str} {sp : Sp} {E : XK} {p pos : Pos} {e : Expr} {es : List Expr} {t : TA}
theorem pe_cl (C : Ct X.prog X.w X.K X.mg X.base CX k x ps sp) (hr : Room k X.A) (hx : Passes CX X E) (ha : PA X (e :: es) t) (hg : Gl X x := by rfl)
    (hdb : (x == ("__debug__" : Str)) = false := by decide)
    (he : starEach (e :: es) X.env = (false, eval e X.env) :: starEach es X.env := by rfl) (hpl : (backTo pos (starEach es X.env)).any (·.1) = false := by rfl) : PE X (.Call (.Name x p) (e :: es) [] pos) (tCl sp E t) := by
  obtain ⟨f, fd, hm, hk, hb, F, _⟩ := C.ex
  refine pe_w (pe_call F hr hg hm hk hb .nil hx ha hdb he hpl) fun σ H Q h => ?_
  show t σ H fun vs H1 => sp (vs ++ []) H1 Q E
  have e : (fun (vs : List V) (H1 : Hp) => sp (vs ++ []) H1 Q E) = fun vs H1 => sp vs H1 Q E := by
    funext vs H1
    rw [List.append_nil]
  rw [e]
  exact h
theorem pe_cl0 (C : Ct X.prog X.w X.K X.mg X.base CX k x ps sp) (hr : Room k X.A) (hx : Passes CX X E) (hg : Gl X x := by rfl) (hdb : (x == ("__debug__" : Str)) = false := by decide) : PE X (.Call (.Name x p) [] [] pos) (tCl sp E tNil) := by
  obtain ⟨f, fd, hm, hk, hb, F, _⟩ := C.ex
  exact pe_call0 F hr hg hm hk hb .nil hx hdb
end
/-- promises by the parameters -/
def sp1 (p : V → Hp → VK → XK → Prop) : Sp := fun vs H Q E => match vs with
  | [a] => p a H Q E
  | _ => False
def sp2 (p : V → V → Hp → VK → XK → Prop) : Sp := fun vs H Q E => match vs with
  | [a, b] => p a b H Q E
  | _ => False
def sp3 (p : V → V → V → Hp → VK → XK → Prop) : Sp := fun vs H Q E => match vs with
  | [a, b, c] => p a b c H Q E
  | _ => False
def sp4 (p : V → V → V → V → Hp → VK → XK → Prop) : Sp := fun vs H Q E => match vs with
  | [a, b, c, d] => p a b c d H Q E
  | _ => False
theorem sp1_of {p : V → Hp → VK → XK → Prop} {vs : List V} {H : Hp} {Q : VK} {E : XK} (h : sp1 p vs H Q E) : ∃ a, vs = [a] ∧ p a H Q E := by
  unfold sp1 at h
  split at h
  · exact ⟨_, rfl, h⟩
  · exact h.elim
theorem sp2_of {p : V → V → Hp → VK → XK → Prop} {vs : List V} {H : Hp} {Q : VK} {E : XK} (h : sp2 p vs H Q E) : ∃ a b, vs = [a, b] ∧ p a b H Q E := by
  unfold sp2 at h
  split at h
  · exact ⟨_, _, rfl, h⟩
  · exact h.elim
theorem sp3_of {p : V → V → V → Hp → VK → XK → Prop} {vs : List V} {H : Hp} {Q : VK} {E : XK} (h : sp3 p vs H Q E) : ∃ a b c, vs = [a, b, c] ∧ p a b c H Q E := by
  unfold sp3 at h
  split at h
  · exact ⟨_, _, _, rfl, h⟩
  · exact h.elim
theorem sp4_of {p : V → V → V → V → Hp → VK → XK → Prop} {vs : List V} {H : Hp} {Q : VK} {E : XK} (h : sp4 p vs H Q E) : ∃ a b c d, vs = [a, b, c, d] ∧ p a b c d H Q E := by
  unfold sp4 at h
  split at h
  · exact ⟨_, _, _, _, rfl, h⟩
  · exact h.elim
section
variable {P : Program} {w : World} {K : PySem.W.Frag} {mg : Str → Option Value} {base : Heap}
theorem fun_at {x q : Str} {st : Stmt} {f : Addr} {fd : FuncData} (F : Fun K x q st f fd) : ∃ oc od osl, K.lookup f = some ⟨oc, od, .func fd, osl⟩ := by
  obtain ⟨oc, od, _, _, _, _, _, _, osl, _, h, _⟩ := F.ex
  exact ⟨oc, od, osl, h⟩
/-- the same def called by names alone, the names in the order ks: g puts the values in the parameters' order -/
structure CtK (P : Program) (w : World) (K : PySem.W.Frag) (mg : Str → Option Value) (base : Heap) (CX : CXT) (k : Nat) (x : Str) (ps ks : List Str) (g : {α : Type} → List α → List α) (sp : Sp) : Prop where
  ex : ∃ f fd, mg x = some (.ref f) ∧ PySem.W.keepIn K (.ref f) = true ∧ (∀ (s : Shared) (ws : List Value), (g ws).length = ps.length → BindsTo s fd ⟨[], ks.zip ws⟩ (ps.zip (g ws))) ∧
    (∀ {zs : List V} {ws : List Value}, Vals zs ws → Vals (g zs) (g ws)) ∧ FnOk P w K mg base CX k f fd ps sp
theorem Ct.kw {CX : CXT} {k : Nat} {x : Str} {st : Stmt} {ps ks : List Str} {g : {α : Type} → List α → List α} {sp : Sp} (C : Ct P w K mg base CX k x ps sp) (D : Df K mg x st ps)
    (h : ∀ (kV doc pm : Value) (an : Option Addr) (cdv ct : Value) (ws : List Value), (g ws).length = ps.length → bindArgs (PySem.W.fnOf x x (defArgs st) (defBody st) (defScope st) .none kV doc pm an cdv ct) ⟨[], ks.zip ws⟩ = pure (ps.zip (g ws)))
    (hg : ∀ {zs : List V} {ws : List Value}, Vals zs ws → Vals (g zs) (g ws)) : CtK P w K mg base CX k x ps ks g sp := by
  obtain ⟨f, fd, hm, hk, hb, F, oc, od, osl, hl⟩ := C.ex
  obtain ⟨f', fd', F', hm', _⟩ := D.ex
  have e : f = f' := by
    rw [hm] at hm'
    cases hm'
    rfl
  subst e
  obtain ⟨oc', od', kV, doc, pm, an, cdv, ct, osl', rfl, hl', _⟩ := F'.ex
  have e2 : fd = PySem.W.fnOf x x (defArgs st) (defBody st) (defScope st) .none kV doc pm an cdv ct := by
    rw [hl] at hl'
    cases hl'
    rfl
  subst e2
  exact ⟨f, _, hm, hk, fun s ws hlen => .of_eq (h kV doc pm an cdv ct ws hlen), hg, F⟩
/-- f(k = v, ..) -/
def tClK (g : {α : Type} → List α → List α) (sp : Sp) (E : XK) (t : TA) : TE := fun σ H Q => t σ H fun zs H1 => sp (g zs) H1 Q E
theorem pe_clK {X : Cx} {CX : CXT} {k : Nat} {x : Str} {ps ks : List Str} {g : {α : Type} → List α → List α} {sp : Sp} {E : XK} {p pos : Pos} {kws : List Keyword} {t : TA} (C : CtK X.prog X.w X.K X.mg X.base CX k x ps ks g sp) (hr : Room k X.A) (hx : Passes CX X E)
    (hkw : PK X kws t) (hg : Gl X x := by rfl) (hall : (backToKw pos (keywordEach kws X.env)).all (·.1.isSome) = true := by rfl) (hks : (backToKw pos (keywordEach kws X.env)).filterMap (·.1) = ks := by rfl)
    (hdb : (x == ("__debug__" : Str)) = false := by decide)
    (hpl : ((backTo pos (starEach [] X.env)).any (·.1) || (backToKw pos (keywordEach kws X.env)).any (·.1.isNone)) = false := by rfl) :
    PE X (.Call (.Name x p) [] kws pos) (tClK g sp E t) := by
  obtain ⟨f, fd, hm, hk, hb, hrel, F⟩ := C.ex
  refine ⟨fun pins s σ H Q I h => wpAny_Call_Name_kw (ld_glob I hg hm ?_ hdb)⟩
  refine PySem.W.callWith_KW0 (h₀ := X.base) I.ok.mod.kin hk hall (thn (hkw.run pos pins s σ H _ I h) fun ws s1 ⟨zs, H1, I1, rz, q⟩ => ⟨I1.kIn, ?_⟩) hpl
  rw [hks]
  have r2 := hrel rz
  have hl : (g ws).length = ps.length := by
    rw [← r2.length]
    exact F.len _ _ _ _ q
  refine wpAny_call (codeAny_mono (F.run X.A X.stack s1 H1 ⟨[], ks.zip ws⟩ (g ws) (g zs) Q E hr I1.env0 (hb s1 ws hl) r2 q) fun r s' hq => ?_)
  match r, hq with
  | .error e, hq => exact hx pins σ H1 s1 e s' I1 hq
  | .ok (.ret u), hq => exact I1.after hq
  | .ok .next, hq => exact False.elim hq
  | .ok .brk, hq => exact False.elim hq
  | .ok .cont, hq => exact False.elim hq
/-- a def that raises nothing, one parameter -/
theorem ct1 {x : Str} {st : Stmt} {a : Str} {N : List Str} {k : Nat} {p : V → Hp → VK → XK → Prop} (D : Df K mg x st [a]) (S : FnScope N [a] (defScope st))
    (body : ∀ (f : Addr) (cdv : Value) (A : Around) (outer : List Env) (s : Shared) (H : Hp) (u : V) (Q : VK) (E : XK), Room k (A.deeper (envOfC x (defScope st) s.heap.objs.size f cdv)) → p u H Q E →
      ∃ t, PSs (cxOf CX0 P w K mg base N x (defScope st) f cdv A outer s H E).nox (defBody st) t ∧ t { nx := fun _ H' => Q .non H', rt := Q } (start N [u]) H) : Ct P w K mg base CX0 (k + 1) x [a] (sp1 p) := by
  obtain ⟨f, fd, F, hm, hb⟩ := D.ex
  refine ⟨f, fd, hm, F.kp, hb, F.ok S (fun vs H Q E h => ?_) (fun cdv A outer s H vs Q E hr h => ?_), fun_at F⟩
  · obtain ⟨u, rfl, _⟩ := sp1_of h
    rfl
  · obtain ⟨u, rfl, h⟩ := sp1_of h
    exact body f cdv A outer s H u Q E hr h
theorem ct2 {x : Str} {st : Stmt} {a b : Str} {N : List Str} {k : Nat} {p : V → V → Hp → VK → XK → Prop} (D : Df K mg x st [a, b]) (S : FnScope N [a, b] (defScope st))
    (body : ∀ (f : Addr) (cdv : Value) (A : Around) (outer : List Env) (s : Shared) (H : Hp) (u v : V) (Q : VK) (E : XK), Room k (A.deeper (envOfC x (defScope st) s.heap.objs.size f cdv)) → p u v H Q E →
      ∃ t, PSs (cxOf CX0 P w K mg base N x (defScope st) f cdv A outer s H E).nox (defBody st) t ∧ t { nx := fun _ H' => Q .non H', rt := Q } (start N [u, v]) H) : Ct P w K mg base CX0 (k + 1) x [a, b] (sp2 p) := by
  obtain ⟨f, fd, F, hm, hb⟩ := D.ex
  refine ⟨f, fd, hm, F.kp, hb, F.ok S (fun vs H Q E h => ?_) (fun cdv A outer s H vs Q E hr h => ?_), fun_at F⟩
  · obtain ⟨u, v, rfl, _⟩ := sp2_of h
    rfl
  · obtain ⟨u, v, rfl, h⟩ := sp2_of h
    exact body f cdv A outer s H u v Q E hr h
theorem ct3 {x : Str} {st : Stmt} {a b c : Str} {N : List Str} {k : Nat} {p : V → V → V → Hp → VK → XK → Prop} (D : Df K mg x st [a, b, c]) (S : FnScope N [a, b, c] (defScope st))
    (body : ∀ (f : Addr) (cdv : Value) (A : Around) (outer : List Env) (s : Shared) (H : Hp) (u v y : V) (Q : VK) (E : XK), Room k (A.deeper (envOfC x (defScope st) s.heap.objs.size f cdv)) → p u v y H Q E →
      ∃ t, PSs (cxOf CX0 P w K mg base N x (defScope st) f cdv A outer s H E).nox (defBody st) t ∧ t { nx := fun _ H' => Q .non H', rt := Q } (start N [u, v, y]) H) : Ct P w K mg base CX0 (k + 1) x [a, b, c] (sp3 p) := by
  obtain ⟨f, fd, F, hm, hb⟩ := D.ex
  refine ⟨f, fd, hm, F.kp, hb, F.ok S (fun vs H Q E h => ?_) (fun cdv A outer s H vs Q E hr h => ?_), fun_at F⟩
  · obtain ⟨u, v, y, rfl, _⟩ := sp3_of h
    rfl
  · obtain ⟨u, v, y, rfl, h⟩ := sp3_of h
    exact body f cdv A outer s H u v y Q E hr h
theorem ct4 {x : Str} {st : Stmt} {a b c d : Str} {N : List Str} {k : Nat} {p : V → V → V → V → Hp → VK → XK → Prop} (D : Df K mg x st [a, b, c, d]) (S : FnScope N [a, b, c, d] (defScope st))
    (body : ∀ (f : Addr) (cdv : Value) (A : Around) (outer : List Env) (s : Shared) (H : Hp) (u v y z : V) (Q : VK) (E : XK), Room k (A.deeper (envOfC x (defScope st) s.heap.objs.size f cdv)) → p u v y z H Q E →
      ∃ t, PSs (cxOf CX0 P w K mg base N x (defScope st) f cdv A outer s H E).nox (defBody st) t ∧ t { nx := fun _ H' => Q .non H', rt := Q } (start N [u, v, y, z]) H) : Ct P w K mg base CX0 (k + 1) x [a, b, c, d] (sp4 p) := by
  obtain ⟨f, fd, F, hm, hb⟩ := D.ex
  refine ⟨f, fd, hm, F.kp, hb, F.ok S (fun vs H Q E h => ?_) (fun cdv A outer s H vs Q E hr h => ?_), fun_at F⟩
  · obtain ⟨u, v, y, z, rfl, _⟩ := sp4_of h
    rfl
  · obtain ⟨u, v, y, z, rfl, h⟩ := sp4_of h
    exact body f cdv A outer s H u v y z Q E hr h
end

/-! ### loops over known items -/
/-- the iterator J gives these items while S stands -/
structure Wk (J : It) (items : List V) (S : Hp → Prop) : Prop where
  go : ∀ i H, S H → i < items.length → J.go i H
  stop : ∀ H, S H → J.stop items.length H
  yld : ∀ i H x H', S H → i < items.length → J.yld i H x H' → H' = H ∧ items[i]? = some x
theorem wk_list {K : PySem.W.Frag} {a : Addr} (xs : List V) : Wk (Itl K a) xs (fun H => SqL K H a xs) where
  go i H s h := ⟨xs, xs[i], s, by simp [h]⟩
  stop H s := ⟨xs, s, Nat.le_refl _⟩
  yld i H x H' s _ y := ⟨y.1, y.2 xs s⟩
theorem wk_tup {K : PySem.W.Frag} {a : Addr} (xs : List V) : Wk (Itt K a) xs (fun H => SqT K H a xs) where
  go i H s h := ⟨xs, xs[i], s, by simp [h]⟩
  stop H s := ⟨xs, s, Nat.le_refl _⟩
  yld i H x H' s _ y := ⟨y.1, y.2 xs s⟩
def rngV (lo : Int) (n : Nat) : List V := (List.range n).map fun (i : Nat) => V.int (lo + i)
theorem rngV_len (lo : Int) (n : Nat) : (rngV lo n).length = n := by simp [rngV]
theorem rngV_get {lo : Int} {n i : Nat} (h : i < n) : (rngV lo n)[i]? = some (.int (lo + i)) := by
  rw [rngV, List.getElem?_map, List.getElem?_range h]
  rfl
theorem rngV_at {lo : Int} {n i : Nat} {x : V} (h : (rngV lo n)[i]? = some x) : i < n ∧ x = .int (lo + i) := by
  have hi : i < n := by
    have q := (List.getElem?_eq_some_iff.mp h).1
    rw [rngV_len] at q
    exact q
  rw [rngV_get hi] at h
  exact ⟨hi, (Option.some.inj h).symm⟩
theorem wk_rng (lo : Int) (n : Nat) : Wk (Itr lo n) (rngV lo n) (fun _ => True) where
  go i H _ h := by
    rw [rngV_len] at h
    exact h
  stop H _ := by
    show n ≤ (rngV lo n).length
    rw [rngV_len]
    exact Nat.le_refl n
  yld i H x H' s h y := by
    rw [rngV_len] at h
    obtain ⟨y1, y2⟩ := y
    exact ⟨y1, by rw [y2, rngV_get h]⟩
def signV (c : Nat) : V := V.str ⟨#[c]⟩
def signsV (x : Str) : List V := x.cps.toList.map signV
theorem wk_str (x : Str) : Wk (Its x) (signsV x) (fun _ => True) where
  go i H _ h := by
    rw [signsV, List.length_map, Array.length_toList] at h
    exact h
  stop H _ := by
    show x.cps.size ≤ (signsV x).length
    rw [signsV, List.length_map, Array.length_toList]
    exact Nat.le_refl _
  yld i H v H' s h y := by
    obtain ⟨y1, c, y2, y3⟩ := y
    refine ⟨y1, ?_⟩
    rw [signsV, List.getElem?_map, Array.getElem?_toList, y2, y3]
    rfl
/-- for: the invariant by the turn -/
theorem for_w {J : It} {items : List V} {S : Hp → Prop} (wk : Wk J items S) {g : TG} {tb : TS} {D : Ends} {σ : L2.St} {H : Hp} (Pv : Nat → L2.St → Hp → Prop) (h0 : Pv 0 σ H) (hS : ∀ i σ H, Pv i σ H → S H)
    (hs : ∀ i x σ H, items[i]? = some x → Pv i σ H → g x σ H fun σ2 H2 => tb { D with nx := Pv (i + 1), ct := Pv (i + 1), bk := D.nx } σ2 H2) (hd : ∀ σ H, Pv items.length σ H → D.nx σ H) :
    ∃ W : Nat → Nat → L2.St → Hp → Prop, (∃ m, W 0 m σ H) ∧ ∀ i m σ H, W i m σ H →
      (J.stop i H ∧ D.nx σ H) ∨ (J.go i H ∧ ∃ N : L2.St → Hp → Prop, (∀ σ' H', N σ' H' → ∃ m', m' < m ∧ W (i + 1) m' σ' H') ∧ ∀ x H', J.yld i H x H' → g x σ H' fun σ2 H2 => tb { D with nx := N, ct := N, bk := D.nx } σ2 H2) := by
  refine ⟨fun i m σ H => m = items.length - i ∧ i ≤ items.length ∧ Pv i σ H, ⟨_, rfl, Nat.zero_le _, h0⟩, ?_⟩
  rintro i m σ H ⟨rfl, hi, p⟩
  have s := hS i σ H p
  rcases Nat.lt_or_ge i items.length with hlt | hge
  · refine .inr ⟨wk.go i H s hlt, Pv (i + 1), fun σ' H' p' => ⟨items.length - (i + 1), by omega, rfl, hlt, p'⟩, fun x H' y => ?_⟩
    obtain ⟨rfl, hx⟩ := wk.yld i H x H' s hlt y
    exact hs i x σ _ hx p
  · have e : i = items.length := Nat.le_antisymm hi hge
    subst e
    exact .inl ⟨wk.stop H s, hd σ H p⟩

/-! ### comprehensions -/
def monI (t : TI) : TI := fun σ H R => ∃ R0 : It → Hp → Prop, t σ H R0 ∧ ∀ J H1, R0 J H1 → R J H1
def monG (t : TG) : TG := fun v σ H Q => ∃ Q0 : L2.St → Hp → Prop, t v σ H Q0 ∧ ∀ σ1 H1, Q0 σ1 H1 → Q σ1 H1
def monT (t : TT) : TT := fun σ H Q => ∃ Q0 : Bool → Hp → Prop, t σ H Q0 ∧ ∀ b H1, Q0 b H1 → Q b H1
theorem pi_mon {X : Cx} {g e : Expr} {t : TI} (h : PI X g e t) : PI X g e (monI t) := ⟨fun pins s σ H R I ⟨R0, q, i⟩ =>
  thn (h.run pins s σ H R0 I q) fun v s1 h1 => thn h1 fun u s2 ⟨it, fp, tn, J, H', a1, a2, a3, a4, a5, a6⟩ => ⟨it, fp, tn, J, H', a1, a2, a3, a4, a5, i _ _ a6⟩⟩
theorem pg_mon {X : Cx} {g : Expr} {t : TG} (h : PG X g t) : PG X g (monG t) := ⟨fun pins s σ H v u Q I r ⟨Q0, q, i⟩ =>
  thn (h.run pins s σ H v u Q0 I r q) fun _ s1 ⟨σ', H', a, b⟩ => ⟨σ', H', a, i _ _ b⟩⟩
theorem pts_mon {X : Cx} {es : List Expr} {t : TT} (h : PTs X es t) : PTs X es (monT t) := ⟨fun pins s σ H Q I ⟨Q0, q, i⟩ =>
  thn (h.run pins s σ H Q0 I q) fun b s1 ⟨H', a, c⟩ => ⟨H', a, i _ _ c⟩⟩
/-- [te for g in wi if tt]: W by the turn, a measure, the list so far -/
def tLcz (wi : TI) (g : TG) (tt : TT) (te : TE) (vs : List Nat) : TE := fun σ H Q => wi σ H fun J H1 => ∀ D, H1 D = none → ∃ W : Nat → Nat → List V → Hp → Prop, (∃ m, ∀ H2, Nw H1 D (.lst []) H2 → W 0 m [] H2) ∧
  ∀ i m acc H, H D = some (.lst acc) → W i m acc H → (J.stop i H ∧ Q (.ref D) H) ∨
    (acc.length < sizeLine ∧ J.go i H ∧ ∃ Nx : List V → Hp → Prop, (∀ a' H', Nx a' H' → ∃ m', m' < m ∧ W (i + 1) m' a' H') ∧ ∀ x H', J.yld i H x H' → g x (wipe σ vs) H' fun σ2 H2 => wipe σ2 vs = wipe σ vs ∧ tt σ2 H2 fun b H3 =>
      if b = true then te σ2 H3 fun y H4 => H4 D = some (.lst acc) ∧ ∀ H5, Wr H4 D (.lst (acc ++ [y])) H5 → Nx (acc ++ [y]) H5 else H3 D = some (.lst acc) ∧ Nx acc H3)
theorem tLcz_of {wi : TI} {g : TG} {tt : TT} {te : TE} {vs : List Nat} {σ : L2.St} {H : Hp} {Q : VK} (h : tLcz wi g tt te vs σ H Q) : tLc (monI wi) (monG g) (monT tt) (mon te) vs σ H Q := by
  refine ⟨_, h, fun J H1 h1 D hD => ?_⟩
  obtain ⟨W, ⟨m, w0⟩, step⟩ := h1 D hD
  refine ⟨fun i m H => ∃ acc, H D = some (.lst acc) ∧ W i m acc H, ⟨m, [], upd_same, w0 _ (nw hD)⟩, ?_⟩
  rintro i m H ⟨acc, hacc, w⟩
  rcases step i m acc H hacc w with q | ⟨hz, go, Nx, hN, body⟩
  · exact .inl q
  · refine .inr ⟨go, fun H' => ∃ acc, H' D = some (.lst acc) ∧ Nx acc H', fun H' ⟨a', e, n⟩ => ?_, fun x H' y => ?_⟩
    · obtain ⟨m', l, w'⟩ := hN a' H' n
      exact ⟨m', l, a', e, w'⟩
    · refine ⟨_, body x H' y, fun σ2 H2 ⟨e, h2⟩ => ⟨e, _, h2, fun b H3 h3 => ?_⟩⟩
      cases b with
      | true =>
        rw [if_pos rfl] at h3 ⊢
        exact ⟨_, h3, fun z H4 h4 => ⟨acc, h4.1, hz, _, upd_same, h4.2 _ wr⟩⟩
      | false =>
        rw [if_neg Bool.false_ne_true] at h3 ⊢
        exact ⟨acc, h3.1, h3.2⟩
theorem pe_lcz {X : Cx} {elt tg iter : Expr} {ifs : List Expr} {scope : Scope} {own : List (Str × Nat)} {pos : Pos} {wi : TI} {g : TG} {tt : TT} {te : TE} (hc : X.calm = true) (hN : X.N.Nodup) (hi : PI X tg iter wi) (ok : BlkOk X.N X.env.scope scope own)
    (hg : ∀ (s : Shared) (H : Hp) (C : Addr) (cl : List (Str × Addr)) (fp : List Addr), PG (X.blk s H scope (compEnvC scope cl C X.env) fp) tg g) (ht : ∀ (s : Shared) (H : Hp) (C : Addr) (cl : List (Str × Addr)) (fp : List Addr), PTs (X.blk s H scope (compEnvC scope cl C X.env) fp) ifs tt)
    (he : ∀ (s : Shared) (H : Hp) (C : Addr) (cl : List (Str × Addr)) (fp : List Addr), PE (X.blk s H scope (compEnvC scope cl C X.env) fp) elt te) (hs : ∀ x, foldedSetIterable iter X.env x = pure x := by intro _; rfl) :
    PE X (.ListComp elt [⟨tg, iter, ifs, 0⟩] scope pos) (tLcz wi g tt te (own.map (·.2))) :=
  pe_w (pe_lc hc hN (pi_mon hi) ok (fun s H C cl fp => pg_mon (hg s H C cl fp)) (fun s H C cl fp => pts_mon (ht s H C cl fp)) (fun s H C cl fp => pe_mon (he s H C cl fp)) hs) fun σ H Q h => tLcz_of h
theorem ps_setLcz {X : Cx} {i : Nat} {y : Str} {py : Pos} {elt tg iter : Expr} {ifs : List Expr} {scope : Scope} {own : List (Str × Nat)} {pos spos : Pos} {wi : TI} {g : TG} {tt : TT} {te : TE} (hc : X.calm = true) (hN : X.N.Nodup) (hy : X.N[i]? = some y) (hyl : X.env.scope.names.lookup y = some .local)
    (hsw : swapsWith (.ListComp elt [⟨tg, iter, ifs, 0⟩] scope pos) (some (.Name y py)) spos.line X.env = pure true) (hi : PI X tg iter wi) (ok : BlkOk X.N X.env.scope scope own)
    (hg : ∀ (s : Shared) (H : Hp) (C : Addr) (cl : List (Str × Addr)) (fp : List Addr), PG (X.blk s H scope (compEnvC scope cl C X.env) fp) tg g) (ht : ∀ (s : Shared) (H : Hp) (C : Addr) (cl : List (Str × Addr)) (fp : List Addr), PTs (X.blk s H scope (compEnvC scope cl C X.env) fp) ifs tt)
    (he : ∀ (s : Shared) (H : Hp) (C : Addr) (cl : List (Str × Addr)) (fp : List Addr), PE (X.blk s H scope (compEnvC scope cl C X.env) fp) elt te) (hs : ∀ x, foldedSetIterable iter X.env x = pure x := by intro _; rfl) :
    PS X (.Assign [.Name y py] (.ListComp elt [⟨tg, iter, ifs, 0⟩] scope pos) spos) (tAsg (tLcz wi g tt te (own.map (·.2))) (gName i)) :=
  ps_w (ps_setLc hc hN hy hyl hsw (pi_mon hi) ok (fun s H C cl fp => pg_mon (hg s H C cl fp)) (fun s H C cl fp => pts_mon (ht s H C cl fp)) (fun s H C cl fp => pe_mon (he s H C cl fp)) hs) fun D σ H h => tLcz_of h
/-- a comprehension over known items: the invariant by the turn and the list so far -/
theorem lc_w {J : It} {items : List V} {S : Hp → Prop} (wk : Wk J items S) (hz : items.length ≤ 1000000) {g : TG} {tt : TT} {te : TE} {vs : List Nat} {σ : L2.St} {H1 : Hp} {D : Addr} {Qd : Hp → Prop} (Pv : Nat → List V → Hp → Prop) (h0 : ∀ H2, Nw H1 D (.lst []) H2 → Pv 0 [] H2)
    (hS : ∀ i acc H, Pv i acc H → S H) (hL : ∀ i acc H, Pv i acc H → acc.length ≤ i)
    (hs : ∀ i x acc H, items[i]? = some x → H D = some (.lst acc) → Pv i acc H → g x (wipe σ vs) H fun σ2 H2 => wipe σ2 vs = wipe σ vs ∧ tt σ2 H2 fun b H3 =>
      if b = true then te σ2 H3 fun y H4 => H4 D = some (.lst acc) ∧ ∀ H5, Wr H4 D (.lst (acc ++ [y])) H5 → Pv (i + 1) (acc ++ [y]) H5 else H3 D = some (.lst acc) ∧ Pv (i + 1) acc H3)
    (hd : ∀ acc H, acc.length ≤ items.length → H D = some (.lst acc) → Pv items.length acc H → Qd H) :
    ∃ W : Nat → Nat → List V → Hp → Prop, (∃ m, ∀ H2, Nw H1 D (.lst []) H2 → W 0 m [] H2) ∧
  ∀ i m acc H, H D = some (.lst acc) → W i m acc H → (J.stop i H ∧ Qd H) ∨
    (acc.length < sizeLine ∧ J.go i H ∧ ∃ Nx : List V → Hp → Prop, (∀ a' H', Nx a' H' → ∃ m', m' < m ∧ W (i + 1) m' a' H') ∧ ∀ x H', J.yld i H x H' → g x (wipe σ vs) H' fun σ2 H2 => wipe σ2 vs = wipe σ vs ∧ tt σ2 H2 fun b H3 =>
      if b = true then te σ2 H3 fun y H4 => H4 D = some (.lst acc) ∧ ∀ H5, Wr H4 D (.lst (acc ++ [y])) H5 → Nx (acc ++ [y]) H5 else H3 D = some (.lst acc) ∧ Nx acc H3) := by
  have hs1 : 1000000 < sizeLine := by decide
  -- the list is never longer than the turns done
  refine ⟨fun i m acc H => m = items.length - i ∧ i ≤ items.length ∧ Pv i acc H, ⟨items.length, fun H2 n => ⟨by omega, Nat.zero_le _, h0 H2 n⟩⟩, ?_⟩
  rintro i m acc H hacc ⟨rfl, hi, p⟩
  have hl := hL i acc H p
  have s := hS i acc H p
  rcases Nat.lt_or_ge i items.length with hlt | hge
  · refine .inr ⟨by omega, wk.go i H s hlt, Pv (i + 1), fun a' H' p' => ⟨items.length - (i + 1), by omega, rfl, hlt, p'⟩, fun x H' y => ?_⟩
    obtain ⟨rfl, hx⟩ := wk.yld i H x H' s hlt y
    exact hs i x acc _ hx hacc p
  · have e : i = items.length := Nat.le_antisymm hi hge
    subst e
    exact .inl ⟨wk.stop H s, hd acc H hl hacc p⟩

/-! ### constants of the module, permutations -/
theorem pe_gk {X : Cx} {x : Str} {v : V} {pos : Pos} (h : ∃ u, X.mg x = some u ∧ RelV v u) (hg : Gl X x := by rfl) (hd : (x == ("__debug__" : Str)) = false := by decide) : PE X (.Name x pos) (tC v) := by
  obtain ⟨u, hm, r⟩ := h
  exact pe_glob hg hm r hd
def zNeg : V → Hp → VK → Prop := fun x H Q => match x with
  | .int i => Q (.int (-i)) H
  | _ => False
theorem un_negZ {X : Cx} : UnR X (unaryOp .USub) zNeg :=
  fun pins s σ H x v Q I r h => by
    unfold zNeg at h
    split at h
    · exact un_neg pins s σ H _ v Q I r ⟨_, rfl, h⟩
    · exact h.elim
def perm_0 {α : Type} (l : List α) : List α := l
theorem perm_0_ok {zs : List V} {ws : List Value} (r : Vals zs ws) : Vals (perm_0 zs) (perm_0 ws) := r
def perm_1_0 {α : Type} : List α → List α
  | [a, b] => [b, a]
  | _ => []
theorem perm_1_0_ok {zs : List V} {ws : List Value} (r : Vals zs ws) : Vals (perm_1_0 zs) (perm_1_0 ws) := by
  match zs, ws, r with
  | [], [], _ => exact .nil
  | [_], [_], _ => exact .nil
  | [_, _], [_, _], .cons a (.cons b .nil) => exact .cons b (.cons a .nil)
  | _ :: _ :: _ :: _, _ :: _ :: _ :: _, _ => exact .nil

/-! ### the same rules over the written part by its own name (a block's rules must not speak of the block) -/
section
variable {X : Cx} (K : PySem.W.Frag)
theorem k_add (hK : X.K = K := by rfl) : OpR X (binaryOp .Add) (zAdd K) := hK ▸ o_add
theorem k_eq (hu : X.A.units + 64 < cLine) (hK : X.K = K := by rfl) : OpR X (compareOp .Eq) (zEq K false) := hK ▸ o_eq hu
theorem k_ne (hu : X.A.units + 64 < cLine) (hK : X.K = K := by rfl) : OpR X (compareOp .NotEq) (zEq K true) := hK ▸ o_ne hu
theorem k_in (hK : X.K = K := by rfl) : OpR X (compareOp .In) (zIn K false) := hK ▸ o_in
theorem k_nin (hK : X.K = K := by rfl) : OpR X (compareOp .NotIn) (zIn K true) := hK ▸ o_nin
theorem k_ix (hK : X.K = K := by rfl) : IxR X (zIx K) := hK ▸ o_ix
theorem k_sl (hK : X.K = K := by rfl) : SlR X (zSl K) := hK ▸ o_sl
theorem k_len (hK : X.K = K := by rfl) : CallR X (.builtin "len") (zLen K) := hK ▸ c_len
theorem k_sum (hc : X.calm = true) (hK : X.K = K := by rfl) : CallR X (.builtin "sum") (zSum K) := hK ▸ c_sum hc
theorem k_all (hc : X.calm = true) (hK : X.K = K := by rfl) : CallR X (.builtin "all") (zAll K) := hK ▸ c_all hc
theorem k_list (hK : X.K = K := by rfl) : CallR X (.type "list") (zList K) := hK ▸ c_list
theorem k_tuple (hK : X.K = K := by rfl) : CallR X (.type "tuple") (zTuple K) := hK ▸ c_tuple
theorem k_isi (hK : X.K = K := by rfl) : CallR X (.builtin "isinstance") (zIsi K) := hK ▸ c_isi
theorem mk_join (hK : X.K = K := by rfl) : MtR X "str.join" (ofS (zJoin K)) := hK ▸ m_join
theorem pt_trK {a : Expr} {ta : TE} (h : PE X a ta) (hK : X.K = K := by rfl) (he : ∀ whole, isTrue a X.env whole = (do let v ← whole; standAt a.pos; holding [v] (truthy v)) := by intro _; rfl) : PT X a (tTr K ta) := hK ▸ pt_tr h he
theorem pi_lzK {tg e : Expr} {te : TE} (h : PE X e te) (hK : X.K = K := by rfl) : PI X tg e (tItL K te) := hK ▸ pi_lz h
theorem pi_tzK {tg e : Expr} {te : TE} (h : PE X e te) (hK : X.K = K := by rfl) : PI X tg e (tItT K te) := hK ▸ pi_tz h
theorem pg_tzK {es : List Expr} {k : Nat} {pos : Pos} {t : TGs} {n : Nat} (hc : X.calm = true) (h : PGs X es t) (hK : X.K = K := by rfl) (hn : (assignEach es X.env).length = n := by rfl) (hst : (assignEach es X.env).findIdx? (·.1) = none := by rfl) : PG X (.Tuple es k pos) (gTz K n t) :=
  hK ▸ pg_tz hc h hn hst
theorem pe_mlK {e o : Expr} {es : List Expr} {to : TE} {t : TA} {name : Str} {apos cpos : Pos} {id : String} {r : Addr → List V → Hp → VK → Prop} (slot : Slot "list" name id) (hty : typeOf (.builtin id) = pure (.type "method_descriptor")) (hm : MtR X id (ofL r)) (ho : PE X o to) (ha : PA X (e :: es) t)
    (hK : X.K = K := by rfl) (hbase : attributeBase o name X.env (eval o X.env) = eval o X.env := by rfl)
    (hfew : ((backTo cpos (starEach (e :: es) X.env)).all (fun x => !x.1) && (backToKw cpos (keywordEach [] X.env)).all (fun x => x.1.isSome)
      && decide ((e :: es).length + ([] : List Keyword).length + (if ([] : List Keyword).isEmpty then 0 else 1) < 30)) = true := by rfl)
    (hline : (apos.endLine == cpos.line) = true := by rfl) (hs : starEach (e :: es) X.env = (false, eval e X.env) :: starEach es X.env := by rfl) (hplain : (backTo cpos (starEach es X.env)).any (·.1) = false := by rfl) :
    PE X (.Call (.Attribute o name apos) (e :: es) [] cpos) (tMl K r to t) := hK ▸ pe_ml slot hty hm ho ha hbase hfew hline hs hplain
end

/-! ### items at a place -/
theorem atI_some {α : Type} {xs : List α} {r : Int} (h0 : 0 ≤ r) (h : r < (xs.length : Int)) : ∃ v, atI xs r = some v ∧ v ∈ xs ∧ xs[r.toNat]? = some v := by
  have hl : r.toNat < xs.length := by omega
  have q := atI_nat (List.getElem?_eq_getElem hl)
  rw [Int.toNat_of_nonneg h0] at q
  exact ⟨xs[r.toNat], q, List.getElem_mem hl, List.getElem?_eq_getElem hl⟩
/-- an int of a written list -/
theorem menuI (ms : List Int) {r : Int} (h0 : 0 ≤ r) (h : r < (ms.length : Int)) : ∃ v, atI (ms.map V.int) r = some (.int v) ∧ v ∈ ms := by
  obtain ⟨v, h1, h2, _⟩ := atI_some (xs := ms.map V.int) h0 (by rw [List.length_map]; exact h)
  obtain ⟨i, hi, rfl⟩ := List.mem_map.mp h2
  exact ⟨i, h1, hi⟩
theorem iteY {c : Bool} {A B : Prop} (h : c = true) (a : A) : if c = true then A else B := by
  rw [if_pos h]
  exact a
theorem iteN {c : Bool} {A B : Prop} (h : c = false) (b : B) : if c = true then A else B := by
  rw [if_neg (by rw [h]; exact Bool.false_ne_true)]
  exact b
/-- one of two walks -/
def tIor (a b : TI) : TI := fun σ H R => a σ H R ∨ b σ H R
theorem pi_or {X : Cx} {tg e : Expr} {a b : TI} (ha : PI X tg e a) (hb : PI X tg e b) : PI X tg e (tIor a b) := ⟨fun pins s σ H R I h => by
  rcases h with h | h
  · exact ha.run pins s σ H R I h
  · exact hb.run pins s σ H R I h⟩
theorem dT {p : Prop} [Decidable p] (h : decide p = true) : p := of_decide_eq_true h
theorem dF {p : Prop} [Decidable p] (h : ¬ decide p = true) : ¬ p := fun q => h (decide_eq_true q)
theorem signsV_len (x : Str) : (signsV x).length = x.length := by
  rw [signsV, List.length_map, Array.length_toList]
  rfl
theorem signsV_at {x : Str} {i : Nat} {v : V} (h : (signsV x)[i]? = some v) : ∃ c, x.cps.toList[i]? = some c ∧ v = signV c := by
  rw [signsV, List.getElem?_map] at h
  cases e : x.cps.toList[i]? with
  | none => rw [e] at h; cases h
  | some c =>
    rw [e] at h
    exact ⟨c, rfl, (Option.some.inj h).symm⟩

/-! ### the end -/
section
variable {P : Program} {w : World} {K : PySem.W.Frag} {mg : Str → Option Value} {base : Heap}
theorem df_mk {h : Heap} (X : K.In h) (G : h.Ns mainGlobals mg) {x : Str} {st : Stmt} {ps : List Str} {f : Addr} {oc : Value} {od an : Option Addr} {osl : Array (Option Value)} {kV doc pm cdv ct : Value} (a : PySem.W.nsIn K mainGlobals x = some (some (.ref f)))
    (l : K.lookup f = some ⟨oc, od, .func (PySem.W.fnOf x x (defArgs st) (defBody st) (defScope st) .none kV doc pm an cdv ct), osl⟩) (c : PySem.W.codeIn K cdv x = true) (k : PySem.W.keepIn K (.ref f) = true)
    (b : ∀ (kV doc pm : Value) (an : Option Addr) (cdv ct : Value) (us : List Value), us.length = ps.length → bindArgs (PySem.W.fnOf x x (defArgs st) (defBody st) (defScope st) .none kV doc pm an cdv ct) ⟨us, []⟩ = pure (ps.zip us)) : Df K mg x st ps :=
  ⟨f, _, fun_mk l c k, PySem.W.mg_of X G a, (fun_mk l c k).binds b⟩
theorem law_fn {CX : CXT} {k : Nat} {x : Str} {ps : List Str} {sp : Sp} {fa : Addr} {fd : FuncData} {oc : Value} {od : Option Addr} {osl : Array (Option Value)} (C : Ct P w K mg base CX k x ps sp) (hfa : mg x = some (.ref fa))
    (l : K.lookup fa = some ⟨oc, od, .func fd, osl⟩) : FnOk P w K mg base CX k fa fd ps sp := by
  obtain ⟨f, fd', hm, _, _, F, oc', od', osl', hl⟩ := C.ex
  have e : f = fa := by
    rw [hm] at hfa
    cases hfa
    rfl
  subst e
  have e2 : fd' = fd := by
    rw [hl] at l
    cases l
    rfl
  subst e2
  exact F
end
end Z

/-! G: defs that call repr: what the room says of the guards is known. -/
namespace Z
open PySem PySem.Spec PyProof.Rows L2

/-- room, and nothing is being shown -/
structure RoomG (k : Nat) (A : Around) : Prop where
  room : Room k A
  free : A.guards = some []
theorem RoomG.mono {j k : Nat} {A : Around} (r : RoomG k A) (h : j ≤ k) : RoomG j A := ⟨r.room.mono h, r.free⟩
theorem RoomG.down {k : Nat} {A : Around} (r : RoomG (k + 1) A) (env : Env) : RoomG k (A.deeper env) := ⟨r.room.deeper env, r.free⟩
/-- one call of a def, at one place -/
theorem one_call {CX : CXT} {P : Program} {w : World} {K : PySem.W.Frag} {mg : Str → Option Value} {base : Heap} {k : Nat} {x qual : Str} {st : Stmt} {f : Addr} {fd : FuncData} {N ps : List Str} (F : Fun K x qual st f fd) (S : FnScope N ps (defScope st))
    {A : Around} {outer : List Env} {s : Shared} {H : Hp} {args : Args} {us : List Value} {vs : List V} {Q : VK} {E : XK} (hr : Room (k + 1) A) (e0 : Env0 P w K mg base A outer s H) (hb : BindsTo s fd args (ps.zip us)) (r : Vals vs us) (hl : vs.length = ps.length)
    (body : ∀ cdv : Value, ∃ t, PSs (cxOf CX P w K mg base N qual (defScope st) f cdv A outer s H E) (defBody st) t ∧ t { nx := fun _ H' => Q .non H', rt := Q } (start N vs) H) :
    codeAny (model P w) A (.call (.ref f) args) (CR CX outer P w H s Q E) s := by
  obtain ⟨oc, od, kV, doc, pm, an, cdv, ct, osl, e, lk, hcd⟩ := F.ex
  subst e
  obtain ⟨t, ht, hq⟩ := body cdv
  have grow : ∀ b o, base.get? b = some o → s.heap.get? b = some o := fun b o q => (e0.bs b o q).1
  have inK := e0.mod.kin.keeps grow
  have seen : ∀ y ∈ ps.zip us, (defScope st).names.lookup y.1 = some .local ∨ ((defScope st).names.lookup y.1 = some .cell ∧ ((cellsFrom (s.heap.objs.size + 1) (defScope st).names []).lookup y.1).isSome = true) := by
    intro y hy
    exact (S.par y.1 (List.of_mem_zip (a := y.1) (b := y.2) hy).1).imp_right fun q => ⟨q, PySem.W.cellsFrom_some _ _ _ (.inl q)⟩
  apply codeAny_call_function hr.depth (inK _ _ lk) rfl S.co S.gen rfl (PySem.W.codeRec_of inK hcd)
  apply hb
  apply wpAny_newFunctionEnv_cells S.kind seen
  rintro env rfl s1 x1
  refine And.intro ((e0.mod.nolimit.keeps grow).keeps x1.toInCall.keep) (codeAny_func ?_)
  have I := inv_start (CX := CX) (E := E) S hr.hd e0 hl r x1
  refine wpAny_mono (ht.run [] s1 (start N vs) H _ I hq) ?_ (fun _ _ z => z)
  have out : ∀ (s' : Shared) (σ' : L2.St) (H' : Hp) (v : V) (u : Value), Inv (cxOf CX P w K mg base N qual (defScope st) f cdv A outer s H E) [] σ' H' s' → RelV v u → Q v H' → CE outer P w H s Q u s' :=
    fun s' σ' H' v u J rv z => ⟨v, H', J.os, J.bare, J.base, J.hok, rv, z⟩
  intro fl s' hs
  match fl, hs with
  | .ret u, ⟨v, σ', H', J, rv, z⟩ => exact out s' σ' H' v u J rv z
  | .next, ⟨σ', H', J, z⟩ => exact out s' σ' H' .non .none J rfl z
  | .brk, ⟨_, _, _, z⟩ => exact z.elim
  | .cont, ⟨_, _, _, z⟩ => exact z.elim
/-- a def's promise where nothing is being shown -/
structure FnG (P : Program) (w : World) (K : PySem.W.Frag) (mg : Str → Option Value) (base : Heap) (CX : CXT) (k : Nat) (f : Addr) (fd : FuncData) (ps : List Str) (sp : Sp) : Prop where
  many : ∀ vs H Q E, sp vs H Q E → vs.length = ps.length
  call : ∀ (A : Around) (outer : List Env) (s : Shared) (H : Hp) (args : Args) (us : List Value) (vs : List V) (Q : VK) (E : XK), RoomG k A → Env0 P w K mg base A outer s H → BindsTo s fd args (ps.zip us) → Vals vs us → sp vs H Q E →
    codeAny (model P w) A (.call (.ref f) args) (CR CX outer P w H s Q E) s
structure Cg (P : Program) (w : World) (K : PySem.W.Frag) (mg : Str → Option Value) (base : Heap) (CX : CXT) (k : Nat) (x : Str) (ps : List Str) (sp : Sp) : Prop where
  ex : ∃ f fd, mg x = some (.ref f) ∧ PySem.W.keepIn K (.ref f) = true ∧ Binds K fd ps [] ∧ FnG P w K mg base CX k f fd ps sp ∧ ∃ oc od osl, K.lookup f = some ⟨oc, od, .func fd, osl⟩
theorem Ct.g {P : Program} {w : World} {K : PySem.W.Frag} {mg : Str → Option Value} {base : Heap} {CX : CXT} {k : Nat} {x : Str} {ps : List Str} {sp : Sp} (C : Ct P w K mg base CX k x ps sp) : Cg P w K mg base CX k x ps sp := by
  obtain ⟨f, fd, a, b, c, F, d⟩ := C.ex
  exact ⟨f, fd, a, b, c, ⟨F.len, fun A outer s H args us vs Q E r => F.run A outer s H args us vs Q E r.room⟩, d⟩
section
variable {X : Cx} {CX : CXT} {k : Nat} {x : Str} {ps : List Str} {sp : Sp} {E : XK} {p pos : Pos} {e : Expr} {es : List Expr} {t : TA}
/-- the callee runs -/
theorem fng_at {f : Addr} {fd : FuncData} {pins : List (Addr × Obj)} {σ : L2.St} {H : Hp} {s : Shared} {Q : VK} {us : List Value} {vs : List V} (F : FnG X.prog X.w X.K X.mg X.base CX k f fd ps sp) (hr : RoomG k X.A) (hb : Binds X.K fd ps []) (hx : Passes CX X E)
    (I : Inv X pins σ H s) (r : Vals vs us) (h : sp vs H Q E) : wpAny (model X.prog X.w) X.A (call (.ref f) us) (EP X pins σ Q) X.xe s := by
  have hl : us.length = ps.length := r.length.symm.trans (F.many _ _ _ _ h)
  have b := hb s us I.kIn (by simpa using hl)
  rw [List.append_nil] at b
  refine wpAny_call (codeAny_mono (F.call X.A X.stack s H ⟨us, []⟩ us vs Q E hr I.env0 b r h) ?_)
  intro r s' hq
  match r, hq with
  | .error e, hq => exact hx pins σ H s e s' I hq
  | .ok (.ret u), hq => exact I.after hq
  | .ok .next, hq => exact False.elim hq
  | .ok .brk, hq => exact False.elim hq
  | .ok .cont, hq => exact False.elim hq
theorem pe_cg (C : Cg X.prog X.w X.K X.mg X.base CX k x ps sp) (hr : RoomG k X.A) (hx : Passes CX X E) (ha : PA X (e :: es) t) (hg : Gl X x := by rfl)
    (hdb : (x == ("__debug__" : Str)) = false := by decide)
    (he : starEach (e :: es) X.env = (false, eval e X.env) :: starEach es X.env := by rfl) (hpl : (backTo pos (starEach es X.env)).any (·.1) = false := by rfl) : PE X (.Call (.Name x p) (e :: es) [] pos) (tCl sp E t) := by
  obtain ⟨f, fd, hm, hk, hb, F, _⟩ := C.ex
  exact ⟨fun pins s σ H Q I h => wpAny_Call_Name_kw (ld_glob I hg hm (PySem.W.callWith_K (h₀ := X.base) I.ok.mod.kin hk (thn (ha.run pos pins s σ H _ I h) fun us s1 ⟨vs, H1, I1, r, q⟩ => ⟨I1.kIn, fng_at F hr hb hx I1 r q⟩) he hpl) hdb)⟩
end
section
variable {P : Program} {w : World} {K : PySem.W.Frag} {mg : Str → Option Value} {base : Heap}
theorem fng {x : Str} {st : Stmt} {f : Addr} {fd : FuncData} {N ps : List Str} {k : Nat} {sp : Sp} (F : Fun K x x st f fd) (S : FnScope N ps (defScope st)) (len : ∀ vs H Q E, sp vs H Q E → vs.length = ps.length)
    (body : ∀ (cdv : Value) (A : Around) (outer : List Env) (s : Shared) (H : Hp) (vs : List V) (Q : VK) (E : XK), RoomG k (A.deeper (envOfC x (defScope st) s.heap.objs.size f cdv)) → sp vs H Q E →
      ∃ t, PSs (cxOf CX0 P w K mg base N x (defScope st) f cdv A outer s H E).nox (defBody st) t ∧ t { nx := fun _ H' => Q .non H', rt := Q } (start N vs) H) : FnG P w K mg base CX0 (k + 1) f fd ps sp :=
  ⟨len, fun A outer s H args us vs Q E hr e0 hb r h => one_call F S hr.room e0 hb r (len _ _ _ _ h) fun cdv => by
    obtain ⟨t, a, b⟩ := body cdv A outer s H vs Q E (hr.down _) h
    exact ⟨t, a.nox, b⟩⟩
theorem cg0 {x : Str} {st : Stmt} {N : List Str} {k : Nat} {p : Hp → VK → XK → Prop} (D : Df K mg x st []) (S : FnScope N [] (defScope st))
    (body : ∀ (f : Addr) (cdv : Value) (A : Around) (outer : List Env) (s : Shared) (H : Hp) (Q : VK) (E : XK), RoomG k (A.deeper (envOfC x (defScope st) s.heap.objs.size f cdv)) → p H Q E →
      ∃ t, PSs (cxOf CX0 P w K mg base N x (defScope st) f cdv A outer s H E).nox (defBody st) t ∧ t { nx := fun _ H' => Q .non H', rt := Q } (start N []) H) : Cg P w K mg base CX0 (k + 1) x [] (fun vs H Q E => vs = [] ∧ p H Q E) := by
  obtain ⟨f, fd, F, hm, hb⟩ := D.ex
  refine ⟨f, fd, hm, F.kp, hb, fng F S (fun vs H Q E h => by rw [h.1]; rfl) (fun cdv A outer s H vs Q E hr h => ?_), fun_at F⟩
  obtain ⟨rfl, h⟩ := h
  exact body f cdv A outer s H Q E hr h
theorem cg1 {x : Str} {st : Stmt} {a : Str} {N : List Str} {k : Nat} {p : V → Hp → VK → XK → Prop} (D : Df K mg x st [a]) (S : FnScope N [a] (defScope st))
    (body : ∀ (f : Addr) (cdv : Value) (A : Around) (outer : List Env) (s : Shared) (H : Hp) (u : V) (Q : VK) (E : XK), RoomG k (A.deeper (envOfC x (defScope st) s.heap.objs.size f cdv)) → p u H Q E →
      ∃ t, PSs (cxOf CX0 P w K mg base N x (defScope st) f cdv A outer s H E).nox (defBody st) t ∧ t { nx := fun _ H' => Q .non H', rt := Q } (start N [u]) H) : Cg P w K mg base CX0 (k + 1) x [a] (sp1 p) := by
  obtain ⟨f, fd, F, hm, hb⟩ := D.ex
  refine ⟨f, fd, hm, F.kp, hb, fng F S (fun vs H Q E h => ?_) (fun cdv A outer s H vs Q E hr h => ?_), fun_at F⟩
  · obtain ⟨u, rfl, _⟩ := sp1_of h
    rfl
  · obtain ⟨u, rfl, h⟩ := sp1_of h
    exact body f cdv A outer s H u Q E hr h
theorem cg2 {x : Str} {st : Stmt} {a b : Str} {N : List Str} {k : Nat} {p : V → V → Hp → VK → XK → Prop} (D : Df K mg x st [a, b]) (S : FnScope N [a, b] (defScope st))
    (body : ∀ (f : Addr) (cdv : Value) (A : Around) (outer : List Env) (s : Shared) (H : Hp) (u v : V) (Q : VK) (E : XK), RoomG k (A.deeper (envOfC x (defScope st) s.heap.objs.size f cdv)) → p u v H Q E →
      ∃ t, PSs (cxOf CX0 P w K mg base N x (defScope st) f cdv A outer s H E).nox (defBody st) t ∧ t { nx := fun _ H' => Q .non H', rt := Q } (start N [u, v]) H) : Cg P w K mg base CX0 (k + 1) x [a, b] (sp2 p) := by
  obtain ⟨f, fd, F, hm, hb⟩ := D.ex
  refine ⟨f, fd, hm, F.kp, hb, fng F S (fun vs H Q E h => ?_) (fun cdv A outer s H vs Q E hr h => ?_), fun_at F⟩
  · obtain ⟨u, v, rfl, _⟩ := sp2_of h
    rfl
  · obtain ⟨u, v, rfl, h⟩ := sp2_of h
    exact body f cdv A outer s H u v Q E hr h
theorem cg3 {x : Str} {st : Stmt} {a b c : Str} {N : List Str} {k : Nat} {p : V → V → V → Hp → VK → XK → Prop} (D : Df K mg x st [a, b, c]) (S : FnScope N [a, b, c] (defScope st))
    (body : ∀ (f : Addr) (cdv : Value) (A : Around) (outer : List Env) (s : Shared) (H : Hp) (u v v3 : V) (Q : VK) (E : XK), RoomG k (A.deeper (envOfC x (defScope st) s.heap.objs.size f cdv)) → p u v v3 H Q E →
      ∃ t, PSs (cxOf CX0 P w K mg base N x (defScope st) f cdv A outer s H E).nox (defBody st) t ∧ t { nx := fun _ H' => Q .non H', rt := Q } (start N [u, v, v3]) H) : Cg P w K mg base CX0 (k + 1) x [a, b, c] (sp3 p) := by
  obtain ⟨f, fd, F, hm, hb⟩ := D.ex
  refine ⟨f, fd, hm, F.kp, hb, fng F S (fun vs H Q E h => ?_) (fun cdv A outer s H vs Q E hr h => ?_), fun_at F⟩
  · obtain ⟨u, v, v3, rfl, _⟩ := sp3_of h
    rfl
  · obtain ⟨u, v, v3, rfl, h⟩ := sp3_of h
    exact body f cdv A outer s H u v v3 Q E hr h
end
end Z

/-! D: data with dicts, as it stands in the abstract heap; repr. -/
namespace Z
open PySem PySem.Spec PyProof.V PyProof.Rows L2

def keyD : Key → PyData
  | .inl i => .int i
  | .inr x => .str x
mutual
/-- a value as data; g: the lists do not lie where the modules do (what is asked where a dict is shown, too) -/
inductive Dz (g : Bool) (H : Hp) : V → PyData → Prop
  | non : Dz g H .non .none
  | bl (b : Bool) : Dz g H (.bl b) (.bool b)
  | int (i : Int) : Dz g H (.int i) (.int i)
  | str (x : Str) : Dz g H (.str x) (.str x)
  | lst {a : Addr} {xs : List V} {ds : List PyData} : H a = some (.lst xs) → (g = true → a ≠ sysModules) → DzAll g H xs ds → Dz g H (.ref a) (.list ds)
  | tup {a : Addr} {xs : List V} {ds : List PyData} : H a = some (.tup xs) → DzAll g H xs ds → Dz g H (.ref a) (.tuple ds)
  | dic {a : Addr} {kvs : List (Key × V)} {D : List (PyData × PyData)} : H a = some (.dK kvs) → DzKv g H kvs D → Dz g H (.ref a) (.dict D)
inductive DzAll (g : Bool) (H : Hp) : List V → List PyData → Prop
  | nil : DzAll g H [] []
  | cons {v : V} {vs : List V} {d : PyData} {ds : List PyData} : Dz g H v d → DzAll g H vs ds → DzAll g H (v :: vs) (d :: ds)
inductive DzKv (g : Bool) (H : Hp) : List (Key × V) → List (PyData × PyData) → Prop
  | nil : DzKv g H [] []
  | cons {k : Key} {v : V} {kvs : List (Key × V)} {d : PyData} {D : List (PyData × PyData)} : Dz g H v d → DzKv g H kvs D → DzKv g H ((k, v) :: kvs) ((keyD k, d) :: D)
end
mutual
theorem Dz.same {g : Bool} {H H2 : Hp} (s : Same H H2) : ∀ {v : V} {d : PyData}, Dz g H v d → Dz g H2 v d
  | _, _, .non => .non
  | _, _, .bl b => .bl b
  | _, _, .int i => .int i
  | _, _, .str x => .str x
  | _, _, .lst h n a => .lst (s _ _ h) n (DzAll.same s a)
  | _, _, .tup h a => .tup (s _ _ h) (DzAll.same s a)
  | _, _, .dic h a => .dic (s _ _ h) (DzKv.same s a)
theorem DzAll.same {g : Bool} {H H2 : Hp} (s : Same H H2) : ∀ {vs : List V} {ds : List PyData}, DzAll g H vs ds → DzAll g H2 vs ds
  | _, _, .nil => .nil
  | _, _, .cons h t => .cons (Dz.same s h) (DzAll.same s t)
theorem DzKv.same {g : Bool} {H H2 : Hp} (s : Same H H2) : ∀ {kvs : List (Key × V)} {D : List (PyData × PyData)}, DzKv g H kvs D → DzKv g H2 kvs D
  | _, _, .nil => .nil
  | _, _, .cons h t => .cons (Dz.same s h) (DzKv.same s t)
end
theorem key_reads {h : Heap} : ∀ (k : Key) (key : Value), keyIs k key = true → Reads h key (keyD k) [] := fun k key e => by
  rcases keyIs_shape e with ⟨i, t, rfl, rfl⟩ | ⟨x, t, rfl, rfl⟩
  · exact .int i t
  · exact .str x t
section
variable {g : Bool} {X : Cx} {pins : List (Addr × Obj)} {σ : L2.St} {H : Hp} {s : Shared}
mutual
theorem Dz.reads (I : Inv X pins σ H s) : ∀ {v : V} {d : PyData} (u : Value), Dz g H v d → RelV v u → ∃ as, Reads s.heap u d as ∧ (g = true → sysModules ∉ as)
  | _, _, u, .non, r => by
    cases r
    exact ⟨_, .none, fun _ => by simp⟩
  | _, _, u, .bl b, r => by
    cases r
    exact ⟨_, .bool b, fun _ => by simp⟩
  | _, _, u, .int i, r => by
    obtain ⟨t, rfl⟩ := r
    exact ⟨_, .int i t, fun _ => by simp⟩
  | _, _, u, .str x, r => by
    obtain ⟨t, rfl⟩ := r
    exact ⟨_, .str x t, fun _ => by simp⟩
  | _, _, u, .lst h n a, r => by
    cases r
    obtain ⟨_, its, m, rv, e⟩ := I.hok _ _ h
    obtain ⟨as, q, w⟩ := DzAll.reads I its a rv
    exact ⟨_, .list e rfl rfl (by simpa using q), fun e => by simp only [List.mem_cons, not_or]; exact ⟨fun z => n e z.symm, w e⟩⟩
  | _, _, u, .tup h a, r => by
    cases r
    obtain ⟨_, its, rv, o, ho, hc, m, hd⟩ := I.hok _ _ h
    obtain ⟨as, q, w⟩ := DzAll.reads I its a rv
    exact ⟨_, .tuple ho hc hd (by simpa using q), w⟩
  | _, _, u, .dic h a, r => by
    cases r
    obtain ⟨_, n, vs, rv, e⟩ := I.hok _ _ h
    obtain ⟨bs, q, w⟩ := DzKv.reads I vs a rv
    exact ⟨_, reads_dictOf key_reads e q, fun e => by simp only [List.mem_cons, not_or]; exact ⟨fun z => by rw [← z] at n; exact absurd n (by decide), w e⟩⟩
theorem DzAll.reads (I : Inv X pins σ H s) : ∀ {vs : List V} {ds : List PyData} (us : List Value), DzAll g H vs ds → Vals vs us → ∃ as, ReadsAll s.heap us ds as ∧ (g = true → sysModules ∉ as)
  | _, _, us, .nil, r => by
    cases r
    exact ⟨_, .nil, fun _ => by simp⟩
  | _, _, us, .cons h t, r => by
    cases r with
    | cons r1 r2 =>
      obtain ⟨as, q1, w1⟩ := Dz.reads I _ h r1
      obtain ⟨bs, q2, w2⟩ := DzAll.reads I _ t r2
      exact ⟨_, .cons q1 q2, fun e z => (List.mem_append.mp z).elim (w1 e) (w2 e)⟩
theorem DzKv.reads (I : Inv X pins σ H s) : ∀ {kvs : List (Key × V)} {D : List (PyData × PyData)} (vs : List (Key × Value)), DzKv g H kvs D → KV kvs vs → ∃ as, PairsRead s.heap keyD vs D as ∧ (g = true → sysModules ∉ as)
  | _, _, vs, .nil, r => by
    cases r
    exact ⟨_, .nil, fun _ => by simp⟩
  | _, _, vs, .cons h t, r => by
    cases r with
    | @cons _ b _ _ r1 r2 =>
      obtain ⟨k, u⟩ := b
      obtain ⟨rfl, r1⟩ := r1
      obtain ⟨as, q1, w1⟩ := Dz.reads I _ h r1
      obtain ⟨bs, q2, w2⟩ := DzKv.reads I _ t r2
      exact ⟨_, .cons q1 q2, fun e z => (List.mem_append.mp z).elim (w1 e) (w2 e)⟩
end
end
/-- repr(x) of data -/
def zRepr : List V → Hp → VK → Prop := fun vs H Q => match vs with
  | [v] => ∃ g d, Dz g H v d ∧ (d.hasDict = true → g = true) ∧ d.showable = true ∧ d.depth ≤ 60 ∧ d.shown.length ≤ sizeLine ∧ Q (.str d.shown) H
  | _ => False
theorem c_repr {X : Cx} {k : Nat} (hr : RoomG k X.A) : CallR X (.builtin "repr") zRepr := by
  intro pins s σ H xs us Q I r h
  unfold zRepr at h
  split at h
  · obtain ⟨g, d, hd, hg, hs, hp, hz, q⟩ := h
    obtain ⟨u, rfl, ru⟩ := vals1 r
    have un := hr.room.un
    obtain ⟨as, rd, w⟩ := Dz.reads I u hd ru
    have keep : ∀ {t : Nat} {h' : Heap}, (∀ b o, s.heap.get? b = some o → h'.get? b = some o) → ∀ t', EP X pins σ Q (.str d.shown t') { s with heap := h', toks := t } := fun hk t' => ⟨.str d.shown, H, I.kept hk, ⟨_, rfl⟩, q⟩
    cases rd with
    | none => exact PySem.P.repr_of_none ⟨.str _, H, I.tok _, ⟨_, rfl⟩, q⟩
    | bool b => exact PySem.P.repr_of_bool ⟨.str _, H, I.tok _, ⟨_, rfl⟩, by cases b <;> exact q⟩
    | int i t => exact PySem.P.repr_of_int (by simpa [PyData.showable] using hs) ⟨.str _, H, I.tok _, ⟨_, rfl⟩, q⟩
    | str x t => exact PySem.P.repr_of_str ⟨.str _, H, I.tok _, ⟨_, rfl⟩, q⟩ hz
    | list a b c e => exact repr_of_reads' (Reads.list a b c e) hs (fun z => w (hg z)) hr.free (by omega) (fun _ _ z => z) (fun h' u tk hk => keep hk _) hz
    | tuple a b c e => exact repr_of_reads' (Reads.tuple a b c e) hs (fun z => w (hg z)) hr.free (by omega) (fun _ _ z => z) (fun h' u tk hk => keep hk _) hz
    | dict a b c e f => exact repr_of_reads' (Reads.dict a b c e f) hs (fun z => w (hg z)) hr.free (by omega) (fun _ _ z => z) (fun h' u tk hk => keep hk _) hz
  · exact h.elim
/-- a list display, not where the modules are -/
def tLzS (t : TA) : TE := fun σ H Q => t σ H fun xs H1 => xs.length ≤ sizeLine ∧ ∀ p H2, Nw H1 p (.lst xs) H2 → p ≠ sysModules → Q (.ref p) H2
theorem pe_lzS {X : Cx} {es : List Expr} {t : TA} {pos : Pos} (h : PA X es t) : PE X (.List es pos) (tLzS t) := by
  constructor
  intro pins s σ H Q I hq
  refine wpAny_List_spliced (thn (h.run pos pins s σ H _ I hq) ?_)
  rintro us s1 ⟨xs, H1, I1, r, z, q⟩
  have free : H1 s1.heap.objs.size = none := I1.hok.fresh (Nat.le_refl _)
  have far : s1.heap.objs.size ≠ sysModules := Nat.ne_of_gt I1.big
  refine ⟨by rw [← r.length]; exact z, .ref _, _, I1.laid (t' := s1.toks) (o := .lst xs) (fun b u e => Heap.get?_push_of_some _ e) (Nat.le_refl _) ⟨z, us, 0, r, Heap.get?_push_size _ rfl⟩, rfl, q _ _ (nw free) far⟩
end Z

/-! E: the end of a law whose def calls repr. -/
namespace Z
open PySem PySem.Spec PyProof.Rows L2

/-- the script alone is tracked, if the object does not know it -/
def scriptH (K : PySem.W.Frag) (a : Addr) (o : Obj) (ns : List Int) : Hp := fun b => if b = a ∧ (K.lookup a).isNone = true then some (.frz o (.lst (ns.map V.int))) else none
theorem scriptH_at {K : PySem.W.Frag} {a b : Addr} {o : Obj} {ns : List Int} {u : HO} (h : scriptH K a o ns b = some u) : b = a ∧ K.lookup a = none ∧ u = .frz o (.lst (ns.map V.int)) := by
  unfold scriptH at h
  split at h
  · rename_i c
    exact ⟨c.1, Option.isNone_iff_eq_none.mp c.2, (Option.some.inj h).symm⟩
  · cases h
theorem walk_g {l : PySem.W.OpenLaw} {n k : Nat} {q : Program} {loose : List Str} {XP : (Str → Option Value) → Heap → Prop} {YP : World → Heap → Prop} {d : DefRec} {K : Params → PySem.W.Frag} {CX : CXT} {sp : World → Sp} {x : Str}
    (hn : l.most = some n) (hn2 : n ≤ sizeLine) (hdf : d.params.defaults = []) (hr : RoomG k callerA) (hY : ∀ (w : World) (h : Heap), YP w h → (K w.params).In h)
    (F : ∀ (w : World) (mg : Str → Option Value) (fa : Addr) (h : Heap), (K w.params).In h → h.Ns mainGlobals mg → mg d.name = some (.ref fa) →
      ∃ fd : FuncData, (∀ (s : Shared) (u : Value), BindsTo s fd ⟨[u], []⟩ [(x, u)]) ∧ ∀ base : Heap, (K w.params).In base → base.Ns mainGlobals mg → FnG l.prog w (K w.params) mg base CX k fa fd [x] (sp w))
    (hsp : ∀ (w : World) (H : Hp) (a : Addr) (ns : List Int), ns.length ≤ n → SqL (K w.params) H a (ns.map V.int) → sp w [.ref a] H (fun v _ => v = .bl true) fun _ _ _ => False)
    (hCX : ∀ (H : Hp) (s : Shared) (e : Value) (s' : Shared), CX [] H s (fun _ _ _ => False) e s' → False) :
    PySem.W.WalkO q loose XP YP l.row.toRowW d [] (fun f vs => PySem.call f vs) := by
  refine Att.attach_call hn hdf ?_
  intro w s₀ s₁ mg mb fa o pm cd doc a vs ns G Y _ _ _ hmg ha hints hlen hg
  have KX := hY w _ Y
  obtain ⟨fd, hbind, hF⟩ := F w mg fa _ KX G.T.g hmg
  have hspw := hsp w
  generalize K w.params = K at *
  generalize eo : ({ cls := .type "list", data := .seq vs.toArray } : Obj) = obj at ha
  have rv := vals_ints hints
  have lenV := hints.length
  have hS : SqL K (scriptH K a obj ns) a (ns.map V.int) := by
    cases hk : K.lookup a with
    | none => exact .inl (.inr ⟨obj, if_pos ⟨rfl, by rw [hk]; rfl⟩⟩)
    | some o2 =>
      have e2 := KX a o2 hk
      rw [ha] at e2
      cases e2
      subst eo
      exact .inr ⟨_, vs.toArray, _, hk, rfl, rfl, rfl, by rw [List.size_toArray, lenV]; exact Nat.le_trans hlen hn2, by simpa using rv⟩
  have seen : ∀ {b : Addr} {u : Obj}, s₁.heap.get? b = some u → (b = a → K.lookup a = some u ∨ False) → (hidT s₁.heap (scriptH K a obj ns)).get? b = some u := fun {b u} e c => hidT_get e (by
    cases z : scriptH K a obj ns b with
    | none => rfl
    | some v =>
      obtain ⟨e1, e2, _⟩ := scriptH_at z
      rcases c e1 with c | c
      · rw [e2] at c; cases c
      · exact c.elim)
  have inK : K.In (hidT s₁.heap (scriptH K a obj ns)) := fun b u e => seen (KX b u e) fun z => .inl (by rw [← z]; exact e)
  have names : ∀ {b : Addr} {m : Str → Option Value}, s₁.heap.Ns b m → (hidT s₁.heap (scriptH K a obj ns)).Ns b m := fun {b m} ⟨u, es, ep, e, dd, rest⟩ => ⟨u, es, ep, seen e (fun z => by
    subst z
    rw [ha] at e
    cases e
    subst eo
    exact nomatch dd), dd, rest⟩
  obtain ⟨mc, lim1, lim2⟩ := G.T.nolimit
  have world : Env0 l.prog w K mg (hidT s₁.heap (scriptH K a obj ns)) callerA [] s₁ (scriptH K a obj ns) := by
    constructor
    · rfl
    · exact ⟨inK, names G.T.g, ⟨mb, names G.T.b, G.T.builtins⟩, ⟨mc, names lim1, lim2⟩⟩
    · exact fun b u e => of_hidT e
    · exact Nat.le_of_eq (hidT_size _ _)
    · trivial
    · exact fun b z => absurd (show b ∈ ([] : List Addr) from z) List.not_mem_nil
    · intro b u e
      obtain ⟨rfl, _, rfl⟩ := scriptH_at e
      exact ⟨ha, by rw [List.length_map]; exact Nat.le_trans hlen hn2, vs, 0, rv, by rw [ha, ← eo]⟩
    · exact .of_eq hg
  have run := (hF _ inK (names G.T.g)).call callerA [] s₁ (scriptH K a obj ns) ⟨[.ref a], []⟩ [.ref a] [.ref a] (fun v _ => v = .bl true) (fun _ _ _ => False) hr world (hbind s₁ (.ref a)) (.cons rfl .nil) (hspw _ a ns hlen hS)
  refine codeAny_mono run ?_
  intro r s' h
  match r, h with
  | .error e, h => exact (hCX _ _ e s' h).elim
  | .ok .next, h => exact False.elim h
  | .ok .brk, h => exact False.elim h
  | .ok .cont, h => exact False.elim h
  | .ok (.ret u), ⟨v, H', os, bare, un, hok', r', hv⟩ =>
    have hv : v = .bl true := hv
    subst hv
    have r' : u = Value.bool true := r'
    subst r'
    refine ⟨rfl, OldK.of_keep ?_, os, bare⟩
    intro b u e
    cases z : scriptH K a obj ns b with
    | none => exact un.keep b u e z (fun c => absurd (show b ∈ ([] : List Addr) from c) List.not_mem_nil) List.not_mem_nil
    | some v =>
      obtain ⟨rfl, _, rfl⟩ := scriptH_at z
      have e2 := (hok' _ _ (un.frzs _ _ _ z)).1
      rw [ha] at e
      cases e
      exact e2
/-- dict(..) of a list of pairs, of a dict -/
def zDict (K : PySem.W.Frag) : List V → Hp → VK → Prop := fun vs H Q => match vs with
  | [.ref a] => (∃ (ps : List Addr) (kvs : List (Key × V)), SqL K H a (ps.map V.ref) ∧ Paired (fun p kv => SqT K H p [kV kv.1, kv.2]) ps kvs ∧ ∀ p H2, Nw H p (.dK (mergeK [] kvs)) H2 → Q (.ref p) H2) ∨
    ∃ kvs, H a = some (.dK kvs) ∧ ∀ p H2, Nw H p (.dK kvs) H2 → Q (.ref p) H2
  | _ => False
theorem c_dict {X : Cx} (hc : X.calm = true) : CallR X (.type "dict") (zDict X.K) := by
  intro pins s σ H xs us Q I r h
  unfold zDict at h
  split at h
  · rename_i a
    rcases h with ⟨ps, kvs, h1, h2, q⟩ | ⟨kvs, h1, q⟩
    · exact call_dictP hc pins s σ H _ us Q I r ⟨a, ps, kvs, rfl, h1, h2, fun p hp => q p _ (nw hp)⟩
    · obtain ⟨u, rfl, ru⟩ := vals1 r
      cases ru
      exact d_copyOf I (.inl h1) fun p s' hp J => ⟨.ref p, _, J, rfl, q p _ (nw hp)⟩
  · exact h.elim
theorem k_dict {X : Cx} (K : PySem.W.Frag) (hc : X.calm = true) (hK : X.K = K := by rfl) : CallR X (.type "dict") (zDict K) := hK ▸ c_dict hc
theorem law_gn {P : Program} {w : World} {K : PySem.W.Frag} {mg : Str → Option Value} {base : Heap} {CX : CXT} {k : Nat} {x : Str} {ps : List Str} {sp : Sp} {fa : Addr} {fd : FuncData} {oc : Value} {od : Option Addr} {osl : Array (Option Value)} (C : Cg P w K mg base CX k x ps sp) (hfa : mg x = some (.ref fa))
    (l : K.lookup fa = some ⟨oc, od, .func fd, osl⟩) : FnG P w K mg base CX k fa fd ps sp := by
  obtain ⟨f, fd', hm, _, _, F, oc', od', osl', hl⟩ := C.ex
  obtain rfl : f = fa := by
    rw [hm] at hfa
    cases hfa
    rfl
  obtain rfl : fd' = fd := by
    rw [hl] at l
    cases l
    rfl
  exact F
end Z

/-! X: own errors over an own class over Exception. -/
namespace Z
open PySem PySem.Spec PyProof.Rows L2

abbrev tailE : List Value := [.type "Exception", .type "BaseException", .type "object"]
/-- the classes of an error: its own, the package's, Exception's -/
def mroE (C B : Addr) : List Value := .ref C :: .ref B :: tailE
theorem mroE_has (C B : Addr) (Y : String) : (mroE C B).contains (.type Y) = tailE.contains (.type Y) := by
  unfold mroE
  rw [List.contains_cons, List.contains_cons]
  rfl
theorem mroE_pass (C B : Addr) (self : Value) : refuseLoop self "__setattr__" (mroE C B) = pure () := by
  unfold mroE
  rw [refuseLoop_ref, refuseLoop_ref]
  exact PySem.F.store_Exception.passes self
/-- what the written part says of an error's class -/
structure ErrC (K : PySem.W.Frag) (C B : Addr) : Prop where
  cls : ∃ nm q N bs sn sub ab col dd k0 k1 k2 k3 k5, K.lookup C = some (excClassObj nm q C N bs (.ref B :: tailE) true sn sub ab col dd k0 k1 k2 k3 k5 "Exception.__new__")
  sa : PySem.W.findIn K (.ref C) "__setattr__" = some (some (.builtin "object.__setattr__"))
  exC : PySem.W.subIn K (.ref C) (.type "BaseException") = some true
  tyC : PySem.W.typeIn K (.ref C) = some (.type "type")
  kC : PySem.W.keepIn K (.ref C) = true
section
open PySem.W PySem.Calls PySem.HandSPX Builtin Builtin.ObjectAttr
variable {prog : Program} {w : World} {A : Around} {R : Result → Shared → Prop} {hp : Heap} {g : Array GenState} {d : Drawn} {t : Nat} {os : OsState}
/-- the first field of an error -/
theorem first_field {K : PySem.W.Frag} {nm : Str} {tk : Tok} {v : Value} {x C B : Addr} {fv : Array Value} {cd : ClassData} (inK : K.In hp) (here : hp.get? x = some { cls := .ref C, data := .fields fv }) (kd : PySem.W.clsIn K C = some cd) (mro : cd.mro = mroE C B) (has : cd.hasDict = true)
    (own : PySem.W.findIn K (.ref C) nm = some none)
    (done : ∀ h' tk' dx, (∀ b o, b ≠ x → hp.get? b = some o → h'.get? b = some o) → hp.objs.size ≤ dx → dx ≠ x → h'.get? x = some { cls := .ref C, dict := some dx, data := .fields fv } → h'.Ns1 dx (fun y => if y = nm then some v else none) →
      R (.ok (.ret .none)) ⟨h', g, d, tk', os⟩) : codeAny (model prog w) A (.call (.builtin "object.__setattr__") ⟨[.ref x, .str nm tk, v], []⟩) R ⟨hp, g, d, t, os⟩ := by
  have at0 : PySem.W.InstAt hp x { cls := .ref C, data := .fields fv } C none := ⟨here, rfl, rfl, trivial⟩
  have far : x ≠ hp.objs.size := Nat.ne_of_lt (Heap.lt_size here)
  have obj : cd.mro.contains (.type "object") = true := by rw [mro, mroE_has]; decide +kernel
  have isObj : PySem.W.Looks (model prog w) hp (isInstance (.ref x) (.type "object")) true :=
    at0.type.andThen (PySem.W.looks_mroIn inK (by unfold PySem.W.mroIn; rw [kd, Option.bind_some, if_neg (by rw [mro]; exact Bool.false_ne_true), obj]))
  have St := PySem.F.store_object
  apply codeAny_call_builtin St.slot.plain St.entry
  apply @PySem.W.check_slot (model prog w) _ _ ⟨hp, g, d, t, os⟩ "object.__setattr__" "object" "__setattr__" (.ref x) [.str nm tk, v] [] _ St.kind St.split isObj (St.args (.ref x) (.str nm tk) v)
  have theMro : PySem.W.Looks (model prog w) hp (mroOf (.ref C)) cd.mro := PySem.W.Looks.andThen (PySem.W.looks_clsIn inK kd) .now
  have noTaker : PySem.W.Looks (model prog w) hp (storeTaker? none) none := .now
  have theCls : PySem.W.Looks (model prog w) hp (classData C) cd := PySem.W.looks_clsIn inK kd
  rw [PySem.W.osa_eq, refuse_eq]
  apply wpAny_bind
  apply wpAny_bind
  apply at0.type.at
  apply wpAny_bind
  apply theMro.at
  rw [mro, mroE_pass]
  apply wpAny_pure
  apply wpAny_bind
  apply at0.type.at
  apply wpAny_bind
  apply PySem.W.Looks.at (PySem.W.looks_findIn inK own)
  apply wpAny_bind
  apply noTaker.at
  show wpAny _ _ (storeInOwnDict (.ref x) (.ref C) (.str nm tk) nm v false) _ _ _
  cases cd with
  | mk n1 n2 n3 n4 n5 n6 n7 n8 n9 n10 n11 =>
    have n6t : n6 = true := has
    subst n6t
    unfold storeInOwnDict ownDictForStores
    repeat (first | with_reducible refine store_in_new ?_ ?_ | with_reducible refine wpAny_loadPart_at here ?_ | with_reducible refine theCls.at ?_ | wp_step)
    · exact ⟨_, #[], _, (Heap.get?_update_ne _ _ _ _ far.symm).trans (Heap.get?_push_at rfl rfl), rfl, fun e z => absurd z (by simp), fun _ => rfl⟩
    · intro h' tk' names but
      have there := Heap.get?_push_of_some { cls := .type "dict", data := .dict #[] } here
      refine done h' tk' hp.objs.size ?_ (Nat.le_refl _) far.symm ((but.2 x far).trans (Heap.get?_update_self _ there rfl)) names
      intro b o nb ob
      exact ((but.2 b (Nat.ne_of_lt (Heap.lt_size ob))).trans (Heap.get?_update_ne _ _ _ _ nb)).trans (Heap.get?_push_of_some _ ob)
end
section
variable {X : Cx} {pins : List (Addr × Obj)} {σ : L2.St} {H : Hp} {s : Shared} {a C B : Addr} {E : Value → Shared → Prop} {A : Around}
/-- the base's own part of the making: nothing of it is seen -/
theorem base_init {us : List Value} {Q : Value → Shared → Prop} (T : ErrC X.K C B) (I : Inv X pins σ H s) (e : H a = some (exo a C none)) (hl : us.length ≤ sizeLine) (h : ∀ s', Inv X pins σ H s' → Q .none s') :
    wpAny (model X.prog X.w) A (call (.builtin "Exception.__init__") (.ref a :: us)) Q E s := by
  obtain ⟨_, _, _, _, _, _, _, _, _, _, _, _, _, _, cl⟩ := T.cls
  obtain ⟨old, here⟩ := exo_at I.hok e
  cases s with
  | mk hp g d t os =>
    apply wpAny_call
    apply PySem.HandSPX.init_base PySem.F.excBase_Exception (fun Y => by rw [List.contains_cons]; rfl) (I.kIn _ _ cl) here hl
    intro h' new keep now
    have same : upd H a (exo a C none) = H := funext fun b => by
      unfold upd
      split
      · rename_i z
        rw [z, e]
      · rfl
    have J := I.write (t' := t) (x := a) (e := a) (o := exo a C none) (by rw [e]; exact True.intro) (Or.inl rfl) keep ⟨_, now⟩ (exo_ok now)
    rw [same] at J
    exact h _ J
/-- what is tracked as another kind stands elsewhere -/
theorem apart {b c : Addr} {o u : HO} (p : H b = some o) (q : H c = some u) (d : o ≠ u) : c ≠ b := fun z => d (by
  rw [z, p] at q
  exact Option.some.inj q)
/-- self.f = y, the first field -/
theorem err_set {f : Str} {y : V} {u : Value} {Q : Unit → Shared → Prop} (T : ErrC X.K C B) (I : Inv X pins σ H s) (e : H a = some (exo a C none)) (own : PySem.W.findIn X.K (.ref C) f = some none) (ry : RelV y u)
    (h : ∀ dx s', H dx = none → dx ≠ a → Inv X pins σ (upd (upd H dx (exd dx [(f, y)])) a (exo a C (some dx))) s' → Q () s') : wpAny (model X.prog X.w) A (setAttr (.ref a) f u) Q E s := by
  obtain ⟨m1, m2, m3, m4, m5, m6, m7, m8, m9, m10, m11, m12, m13, m14, cl⟩ := T.cls
  have kd : PySem.W.clsIn X.K C = some ⟨m1, m4, mroE C B, m3, m2, true, m5, m6, m7, m8, false⟩ := by
    unfold PySem.W.clsIn
    rw [cl]
    rfl
  obtain ⟨old, here⟩ := exo_at I.hok e
  cases s with
  | mk hp g d t os =>
    apply PySem.W.set_plain I.kIn (ox := { cls := .ref C, dict := none, data := .fields #[.ref old, .none, .none, .none, .bool false, .none] }) (od := none) ⟨here, rfl, rfl, trivial⟩ T.sa
    apply first_field I.kIn here kd rfl rfl own
    intro h' tk' dx keep big nd now names
    have none1 : H dx = none := I.hok.fresh big
    have off : ∀ {b : Addr} {o : Obj}, hp.get? b = some o → b ≠ dx := fun q => Nat.ne_of_lt (Nat.lt_of_lt_of_le (Heap.lt_size q) big)
    have offA : ∀ {b : Addr}, H b = none → b ≠ a := fun q z => by rw [z, e] at q; cases q
    have stays : ∀ {b : Addr} {o : HO}, H b = some o → o ≠ exo a C none → (upd (upd H dx (exd dx [(f, y)])) a (exo a C (some dx))) b = some o := fun {b o} q k => by
      rw [upd_ne (apart e q (fun z => k z.symm)), upd_ne (ne_of_none q none1)]
      exact q
    refine h dx _ none1 nd (I.un (t' := tk') ?_ ?_)
    · constructor
      · intro b o q n _ _
        exact keep b o (offA n) q
      · intro b o q n _ _
        exact ⟨o.slots, keep b o (offA n) q⟩
      · intro b o q n _
        rw [upd_ne (offA n), upd_ne (off q)]
        exact n
      · intro b o q _
        rcases Nat.decEq b a with z | z
        · exact ⟨o, keep b o z q⟩
        · exact ⟨_, z ▸ now⟩
      · intro b xs q
        exact stays q (fun z => exo_tup z.symm)
      · intro b o v q
        exact stays q (fun z => exo_frz z.symm)
      · intro b ps q
        exact ⟨#[], by rw [stays q (fun z => exo_tbl z.symm)]; simp⟩
    · intro b o q
      rcases Nat.decEq b a with z | z
      · rw [upd_ne z] at q
        rcases Nat.decEq b dx with zd | zd
        · rw [upd_ne zd] at q
          refine (I.hok b o q).stay ?_ (fun c k => stays k (fun z => exo_own z.symm)) fun c xs k => stays k (fun z => exo_tup z.symm)
          intro c v k p
          refine keep c v ?_ p
          rcases k with k | k
          · rw [k]; exact z
          · exact apart e k exo_own
        · subst zd
          rw [upd_same] at q
          cases q
          exact exd_ok names (relO_put (fs := []) ry fun _ => True.intro)
      · subst z
        rw [upd_same] at q
        cases q
        exact exo_ok now
end
section
variable {X : Cx} {C B : Addr}
/-- C(e, ..) where C's own __init__ keeps sp -/
theorem pmk_err {CX : CXT} {x : Str} {fI : Addr} {k : Nat} {fd : FuncData} {ps : List Str} {sp : Sp} {e : Expr} {es : List Expr} {ta : TA} {p pos : Pos} (T : ErrC X.K C B) (iC : PySem.W.findIn X.K (.ref C) "__init__" = some (some (.ref fI))) (tI : PySem.W.typeIn X.K (.ref fI) = some (.type "function"))
    (F1 : FnOk X.prog X.w X.K X.mg X.base CX k fI fd ps sp) (hr : Room (k + 1) X.A) (hb : Binds X.K fd ps []) (hx : Passes CX X (fun _ _ _ => False)) (hm : X.mg x = some (.ref C)) (ha : PA X (e :: es) ta) (hg : Gl X x := by rfl) (hdb : (x == ("__debug__" : Str)) = false := by decide)
    (he : starEach (e :: es) X.env = (false, eval e X.env) :: starEach es X.env := by rfl) (hpl : (backTo pos (starEach es X.env)).any (·.1) = false := by rfl) : PMk X (.Call (.Name x p) (e :: es) [] pos) (tMkO C sp [] ta) := by
  intro pins s σ H Q I h
  obtain ⟨_, _, _, _, _, _, _, _, _, _, _, _, _, _, cl⟩ := T.cls
  apply wpAny_Call_Name_kw
  refine ld_glob I hg hm (PySem.W.callWith_K (h₀ := X.base) I.ok.mod.kin T.kC ?_ he hpl) hdb
  · apply thn (ha.run pos pins s σ H _ I h)
    rintro us ⟨hp, g, dr, tk, os⟩ ⟨vs, H1, I1, r1, few, q1⟩
    refine ⟨I1.kIn, ?_⟩
    have later : hp.objs.size ≤ hp.objs.size + 1 := Nat.le_succ _
    have q2 := q1 _ (I1.hok.fresh later)
    rw [List.append_nil] at q2
    have more : ∀ b o, hp.get? b = some o → ((hp.push (PySem.W.kdv_tup us)).push (PySem.HandSPX.excO C hp.objs.size)).get? b = some o := fun _ _ z => Heap.get?_push_of_some _ (Heap.get?_push_of_some _ z)
    have new : ((hp.push (PySem.W.kdv_tup us)).push (PySem.HandSPX.excO C hp.objs.size)).get? (hp.objs.size + 1) = some (PySem.HandSPX.excO C hp.objs.size) := by heap_get
    have I2 := I1.laid (t' := tk) (o := exo (hp.objs.size + 1) C none) more later (exo_ok new)
    have r2 : Vals (V.ref (hp.objs.size + 1) :: vs) (Value.ref (hp.objs.size + 1) :: us) := .cons rfl r1
    have len : (Value.ref (hp.objs.size + 1) :: us).length = ps.length := r2.length.symm.trans (F1.len _ _ _ _ q2)
    have bind := hb _ (Value.ref (hp.objs.size + 1) :: us) I2.kIn (by simpa using len)
    rw [List.append_nil] at bind
    have fit : us.length ≤ sizeLine := by
      rw [← Paired.length r1, sizeLine_eq]
      omega
    apply wpAny_call
    apply PySem.HandSPX.call_own PySem.F.excBase_Exception (fun Y => by rw [List.contains_cons]; rfl) (I1.kIn _ _ cl) (PySem.W.looks_findIn I1.kIn iC) (fun self => PySem.W.bind_fn I1.kIn self tI) fit
    refine codeAny_mono (F1.run _ X.stack _ _ ⟨Value.ref (hp.objs.size + 1) :: us, []⟩ _ _ _ (fun _ _ _ => False) (hr.make C us []) (I2.env0.make C us []) bind r2 q2) ?_
    intro r s' z
    match r, s', z with
    | .error er, s', z => exact hx pins σ _ _ er s' I2 z
    | .ok (.ret u), ⟨h2, g2, d2, t2, os'⟩, ⟨v, H2, sos, sbare, sun, sok, rv, ev, d, fs, ea, ed, hd1, q3⟩ =>
      subst ev
      exact ⟨rv, mk_end (raises_own T.exC T.tyC) I1 later more sun sok sos sbare ea ed hd1 q3⟩
    | .ok .next, _, z => exact False.elim z
    | .ok .brk, _, z => exact False.elim z
    | .ok .cont, _, z => exact False.elim z
/-- self.f = e, the first field of an error -/
def tErr (K : PySem.W.Frag) (f : Str) (to te : TE) : TS := fun D σ H => te σ H fun y H1 => to σ H1 fun x H2 => ∃ a C B : Addr, x = .ref a ∧ ErrC K C B ∧ PySem.W.findIn K (.ref C) f = some none ∧ H2 a = some (exo a C none) ∧
  ∀ dx, H2 dx = none → dx ≠ a → D.nx σ (upd (upd H2 dx (exd dx [(f, y)])) a (exo a C (some dx)))
theorem ps_err {o e : Expr} {to te : TE} {f : Str} {p' pos : Pos} (ho : PE X o to) (he : PE X e te) (hs : swapsWith e (some (.Attribute o f p')) pos.line X.env = pure false := by rfl) : PS X (.Assign [.Attribute o f p'] e pos) (tErr X.K f to te) := by
  constructor
  intro pins s σ H D I h
  apply plainObj_wpAny_Assign_Attribute _ hs
  apply thn (he.run pins s σ H _ I h)
  rintro v s1 ⟨y, H1, I1, r1, q1⟩
  apply thn (ho.run pins s1 σ H1 _ I1 q1)
  rintro u s2 ⟨x, H2, I2, r2, a, C, B, rfl, T, own, ea, q⟩
  obtain rfl : u = Value.ref a := r2
  exact err_set T I2 ea own r1 fun dx s' n ne J => ⟨σ, _, J, q dx n ne⟩
/-- Base.__init__(self, ..) by the class's name -/
def tBI (K : PySem.W.Frag) (ta : TA) : TE := fun σ H Q => ta σ H fun vs H1 => ∃ (a C B : Addr) (ws : List V), vs = .ref a :: ws ∧ ws.length ≤ 1000 ∧ ErrC K C B ∧ H1 a = some (exo a C none) ∧ Q .non H1
theorem pe_binit {x : Str} {D : Addr} {mc : Value} {e : Expr} {es : List Expr} {ta : TA} {p1 p2 pos : Pos} {pl : Sem Bool} (hm : X.mg x = some (.ref D)) (sg : PySem.W.specialIn X.K (.ref D) "__getattribute__" = some (some (.builtin "type.__getattribute__"))) (rd : PySem.W.readsIn X.K D mc = true)
    (fv : PySem.W.findCls X.K (.ref D) mc "__init__" = some (.val (.builtin "Exception.__init__"))) (ha : PA X (e :: es) ta) (hg : Gl X x := by rfl) (hdb : (x == ("__debug__" : Str)) = false := by decide)
    (hc : eval (.Call (.Attribute (.Name x p1) "__init__" p2) (e :: es) [] pos) X.env = (do
      let ov ← eval (.Name x p1) X.env
      standAt p2.atName
      let (f, first) ← holding [ov] (getMethod ov "__init__" pl)
      callWith pos f first (backTo pos (starEach (e :: es) X.env)) (backToKw pos (keywordEach [] X.env))) := by rfl)
    (he : starEach (e :: es) X.env = (false, eval e X.env) :: starEach es X.env := by rfl) (hpl : (backTo pos (starEach es X.env)).any (·.1) = false := by rfl) : PE X (.Call (.Attribute (.Name x p1) "__init__" p2) (e :: es) [] pos) (tBI X.K ta) := by
  constructor
  intro pins s σ H Q I h
  refine PySem.W.methodCall_KW (ld_glob I hg hm ?_ hdb) hc
  refine PySem.W.method_cls I.kIn sg (PySem.W.cls_value I.kIn rd fv (by decide +kernel) ?_)
  refine callWith_method1 (thn (ha.run pos pins _ σ H _ (I.tok _) h) ?_) he hpl
  rintro us s1 ⟨vs, H1, I1, r1, a, C, B, ws, rfl, few, T, ea, q⟩
  cases r1 with
  | @cons _ u0 _ ur ra rest =>
    obtain rfl : u0 = Value.ref a := ra
    exact base_init T I1 ea (by rw [← Paired.length rest, sizeLine_eq]; omega) fun s' J => ⟨.non, H1, J, rfl, q⟩
end
end Z

/-! Y: defs that raise own errors, and try around them. -/
namespace Z
open PySem PySem.Spec PyProof.Rows L2

/-! ### defs that may raise -/
section
variable {P : Program} {w : World} {K : PySem.W.Frag} {mg : Str → Option Value} {base : Heap}
theorem cx1 {x : Str} {st : Stmt} {a : Str} {N : List Str} {k : Nat} {p : V → Hp → VK → XK → Prop} (D : Df K mg x st [a]) (S : FnScope N [a] (defScope st))
    (body : ∀ (f : Addr) (cdv : Value) (A : Around) (outer : List Env) (s : Shared) (H : Hp) (u : V) (Q : VK) (E : XK), Room k (A.deeper (envOfC x (defScope st) s.heap.objs.size f cdv)) → p u H Q E →
      ∃ t, PSs (cxOf (L2.CX P w) P w K mg base N x (defScope st) f cdv A outer s H E) (defBody st) t ∧ t { nx := fun _ H' => Q .non H', rt := Q } (start N [u]) H) : Ct P w K mg base (L2.CX P w) (k + 1) x [a] (sp1 p) := by
  obtain ⟨f, fd, F, hm, hb⟩ := D.ex
  refine ⟨f, fd, hm, F.kp, hb, F.okX S ?_ ?_, fun_at F⟩
  · intro vs H Q E h
    obtain ⟨u, rfl, _⟩ := sp1_of h
    rfl
  · intro cdv A outer s H vs Q E hr h
    obtain ⟨u, rfl, h⟩ := sp1_of h
    exact body f cdv A outer s H u Q E hr h
theorem cx2 {x : Str} {st : Stmt} {a b : Str} {N : List Str} {k : Nat} {p : V → V → Hp → VK → XK → Prop} (D : Df K mg x st [a, b]) (S : FnScope N [a, b] (defScope st))
    (body : ∀ (f : Addr) (cdv : Value) (A : Around) (outer : List Env) (s : Shared) (H : Hp) (u v : V) (Q : VK) (E : XK), Room k (A.deeper (envOfC x (defScope st) s.heap.objs.size f cdv)) → p u v H Q E →
      ∃ t, PSs (cxOf (L2.CX P w) P w K mg base N x (defScope st) f cdv A outer s H E) (defBody st) t ∧ t { nx := fun _ H' => Q .non H', rt := Q } (start N [u, v]) H) : Ct P w K mg base (L2.CX P w) (k + 1) x [a, b] (sp2 p) := by
  obtain ⟨f, fd, F, hm, hb⟩ := D.ex
  refine ⟨f, fd, hm, F.kp, hb, F.okX S ?_ ?_, fun_at F⟩
  · intro vs H Q E h
    obtain ⟨u, v, rfl, _⟩ := sp2_of h
    rfl
  · intro cdv A outer s H vs Q E hr h
    obtain ⟨u, v, rfl, h⟩ := sp2_of h
    exact body f cdv A outer s H u v Q E hr h
/-- an __init__ of two parameters -/
theorem ini2 {q : Str} {st : Stmt} {f : Addr} {fd : FuncData} {a b : Str} {N : List Str} {k : Nat} {p : V → V → Hp → VK → XK → Prop} (F : Fun K "__init__" q st f fd) (S : FnScope N [a, b] (defScope st))
    (body : ∀ (cdv : Value) (A : Around) (outer : List Env) (s : Shared) (H : Hp) (u v : V) (Q : VK) (E : XK), Room k (A.deeper (envOfC q (defScope st) s.heap.objs.size f cdv)) → p u v H Q E →
      ∃ t, PSs (cxOf CX0 P w K mg base N q (defScope st) f cdv A outer s H E).nox (defBody st) t ∧ t { nx := fun _ H' => Q .non H', rt := Q } (start N [u, v]) H) : FnOk P w K mg base CX0 (k + 1) f fd [a, b] (sp2 p) := by
  refine F.ok S ?_ ?_
  · intro vs H Q E h
    obtain ⟨u, v, rfl, _⟩ := sp2_of h
    rfl
  · intro cdv A outer s H vs Q E hr h
    obtain ⟨u, v, rfl, h⟩ := sp2_of h
    exact body cdv A outer s H u v Q E hr h
end
/-- what an error's own __init__ leaves: its one field -/
def spIni (C : Addr) (f : Str) : Sp := sp2 fun u v H Q _ => ∃ a, u = .ref a ∧ H a = some (exo a C none) ∧ ∀ dx, H dx = none → dx ≠ a → Q .non (upd (upd H dx (exd dx [(f, v)])) a (exo a C (some dx)))
/-- an error's class, under its name -/
structure Er (P : Program) (w : World) (K : PySem.W.Frag) (mg : Str → Option Value) (base : Heap) (k : Nat) (x f : Str) (C : Addr) : Prop where
  name : mg x = some (.ref C)
  ex : ∃ (B fI : Addr) (fd : FuncData) (ps : List Str), ErrC K C B ∧ PySem.W.findIn K (.ref C) "__init__" = some (some (.ref fI)) ∧ PySem.W.typeIn K (.ref fI) = some (.type "function") ∧ FnOk P w K mg base CX0 k fI fd ps (spIni C f) ∧ Binds K fd ps []
/-- what is asked of a caught error -/
structure Es (K : PySem.W.Frag) (C : Addr) : Prop where
  xf : XfC K C
  ty : PySem.W.typeIn K (.ref C) = some (.type "type")
  ha : PySem.W.findIn K (.ref C) "__class__" = some (some (.builtin "object.__class__"))
  hn : PySem.W.specialIn K (.builtin "object.__class__") "__get__" = some (some (.builtin "getset_descriptor.__get__"))
  ht : PySem.W.takesIn K (.builtin "object.__class__") = some true
  hm : PySem.W.mroIn K C (.type "object") = some true
theorem Es.exm {K : PySem.W.Frag} {C : Addr} {c : Value} {b : Bool} (S : Es K C) (h : PySem.W.subIn K c (.ref C) = some b) : PySem.W.exmOne K c (.ref C) = some b := PySem.W.exm_ref S.xf.exC S.xf.hdC S.ty h
section
variable {X : Cx}
/-- raise C(e) -/
def tRz (C : Addr) (f : Str) (t : TA) (W : WX) : TS := fun _ σ H => t σ H fun vs H1 => match vs with
  | [v] => ∀ d H2, Nw H1 d (.xd [(f, v)]) H2 → W (.ref C) (some d) σ H2
  | _ => False
theorem ps_rz {W : WX} {k : Nat} {x f : Str} {C : Addr} {e : Expr} {t : TA} {p p2 pos : Pos} (hc : X.calm = true) (tk : Takes X W) (R : Er X.prog X.w X.K X.mg X.base k x f C) (hr : Room (k + 1) X.A) (ha : PA X [e] t) (hg : Gl X x := by rfl) (hdb : (x == ("__debug__" : Str)) = false := by decide)
    (he : starEach [e] X.env = (false, eval e X.env) :: starEach [] X.env := by rfl) (hpl : (backTo p2 (starEach [] X.env)).any (·.1) = false := by rfl) : PS X (.Raise (some (.Call (.Name x p) [e] [] p2)) none pos) (tRz C f t W) := by
  obtain ⟨B, fI, fd, ps, T, iC, tI, F, hb⟩ := R.ex
  refine ps_w (ps_raise hc tk (pmk_err T iC tI F hr hb pass0 R.name (pa_mon ha) hg hdb he hpl)) ?_
  intro D σ H h
  refine ⟨_, h, ?_⟩
  intro vs H1 h1
  split at h1
  · rename_i v
    refine ⟨by show 1 ≤ 1000; decide, fun a na => ?_⟩
    refine ⟨a, rfl, upd_same, fun dx nd ne => ⟨rfl, dx, [(f, v)], upd_same, ?_, ?_, ?_⟩⟩
    · rw [upd_ne ne, upd_same]
    · rw [upd_ne ne] at nd
      exact nd
    · rw [upd_ne ne] at nd
      have e : upd (del (upd (upd (upd H1 a (exo a C none)) dx (exd dx [(f, v)])) a (exo a C (some dx))) a) dx (.xd [(f, v)]) = upd H1 dx (.xd [(f, v)]) := by
        funext b
        by_cases z : b = dx
        · rw [z, upd_same, upd_same]
        · rw [upd_ne z, upd_ne z]
          by_cases y : b = a
          · rw [y, del_same, na]
          · rw [del_ne y, upd_ne y, upd_ne z, upd_ne y]
      rw [e]
      exact h1 dx _ (nw nd)
  · exact h1.elim
/-- a call that may let an error out -/
theorem pe_clS {W : WX} {k : Nat} {x : Str} {ps : List Str} {sp : Sp} {p pos : Pos} {e : Expr} {es : List Expr} {t : TA} (C : Ct X.prog X.w X.K X.mg X.base (L2.CX X.prog X.w) k x ps sp) (hr : Room k X.A) (tk : Takes X W) (ha : PA X (e :: es) t) (hg : Gl X x := by rfl)
    (hdb : (x == ("__debug__" : Str)) = false := by decide) (he : starEach (e :: es) X.env = (false, eval e X.env) :: starEach es X.env := by rfl) (hpl : (backTo pos (starEach es X.env)).any (·.1) = false := by rfl) : PE X (.Call (.Name x p) (e :: es) [] pos) (tCallS sp (WE W) t) := by
  obtain ⟨f, fd, hm, hk, hb, F, _⟩ := C.ex
  exact pe_callS F hr hg hm hk hb (passAt tk) ha hdb he hpl
def tClKS (g : {α : Type} → List α → List α) (sp : Sp) (E : L2.St → XK) (t : TA) : TE := fun σ H Q => t σ H fun zs H1 => sp (g zs) H1 Q (E σ)
theorem pe_clKS {W : WX} {k : Nat} {x : Str} {ps ks : List Str} {g : {α : Type} → List α → List α} {sp : Sp} {p pos : Pos} {kws : List Keyword} {t : TA} (C : CtK X.prog X.w X.K X.mg X.base (L2.CX X.prog X.w) k x ps ks g sp) (hr : Room k X.A) (tk : Takes X W)
    (hkw : PK X kws t) (hg : Gl X x := by rfl) (hall : (backToKw pos (keywordEach kws X.env)).all (·.1.isSome) = true := by rfl) (hks : (backToKw pos (keywordEach kws X.env)).filterMap (·.1) = ks := by rfl)
    (hdb : (x == ("__debug__" : Str)) = false := by decide) (hpl : ((backTo pos (starEach [] X.env)).any (·.1) || (backToKw pos (keywordEach kws X.env)).any (·.1.isNone)) = false := by rfl) :
    PE X (.Call (.Name x p) [] kws pos) (tClKS g sp (WE W) t) := by
  obtain ⟨f, fd, hm, hk, hb, hrel, F⟩ := C.ex
  constructor
  intro pins s σ H Q I h
  apply wpAny_Call_Name_kw
  refine ld_glob I hg hm (PySem.W.callWith_KW0 (h₀ := X.base) I.ok.mod.kin hk hall ?_ hpl) hdb
  apply thn (hkw.run pos pins s σ H _ I h)
  rintro ws s1 ⟨zs, H1, I1, rz, q⟩
  refine ⟨I1.kIn, ?_⟩
  rw [hks]
  have r2 := hrel rz
  have hl : (g ws).length = ps.length := r2.length.symm.trans (F.len _ _ _ _ q)
  apply wpAny_call
  refine codeAny_mono (F.run X.A X.stack s1 H1 ⟨[], ks.zip ws⟩ (g ws) (g zs) Q (WE W σ) hr I1.env0 (hb s1 ws hl) r2 q) ?_
  intro r s' z
  match r, z with
  | .error er, z => exact passAt tk σ pins H1 s1 er s' I1 z
  | .ok (.ret u), z => exact I1.after z
  | .ok .next, z => exact False.elim z
  | .ok .brk, z => exact False.elim z
  | .ok .cont, z => exact False.elim z
end

/-! ### try with several clauses, each with a name -/
/-- behind a clause its name is gone -/
def gone (i : Nat) (D : Ends) : Ends := { nx := fun σ' H' => D.nx (σ'.set i none) H', rt := D.rt, bk := fun σ' H' => D.bk (σ'.set i none) H', ct := fun σ' H' => D.ct (σ'.set i none) H' }
/-- what the clauses wish of an error: its class, the place of its name, what is read there -/
def wClauses (K : PySem.W.Frag) (Wout : WX) (D : Ends) : List (Value × Nat × (Addr → Value → Option Addr → TS)) → WX
  | [] => Wout
  | (c, i, ts) :: r => fun cls d σ H => ∃ b, PySem.W.exmOne K cls c = some b ∧ (b = true → ∀ a, H a = none → ts a cls d (gone i D) (σ.set i (some (.ref a))) H) ∧ (b = false → wClauses K Wout D r cls d σ H)
inductive Clauses (X : Cx) : List ExceptHandler → List (Value × Nat × (Addr → Value → Option Addr → TS)) → Prop
  | nil : Clauses X [] []
  | cons {x n : Str} {c : Value} {i : Nat} {ts : Addr → Value → Option Addr → TS} {first : Stmt} {more : List Stmt} {np hp : Pos} {hds : List ExceptHandler} {l : List (Value × Nat × (Addr → Value → Option Addr → TS))} (names : Names X x c) (slot : X.N[i]? = some n) (loc : X.env.kindOf n = some .local)
      (suite : ∀ (a : Addr) (oe : Obj) (cls : Value) (d : Option Addr) (pn : List (Addr × Obj)), Zc cls d oe → (∃ vs, oe.data = .fields vs) → PSs (X.suite a ((a, oe) :: pn)) (first :: more) (ts a cls d)) (rest : Clauses X hds l) :
      Clauses X (.ExceptHandler (some (.Name x np)) (some n) (first :: more) hp :: hds) ((c, i, ts) :: l)
  | bare {x : Str} {c : Value} {i : Nat} {ts : Addr → Value → Option Addr → TS} {first : Stmt} {more : List Stmt} {np hp : Pos} {hds : List ExceptHandler} {l : List (Value × Nat × (Addr → Value → Option Addr → TS))} (names : Names X x c) (far : X.N.length ≤ i)
      (suite : ∀ (a : Addr) (oe : Obj) (cls : Value) (d : Option Addr) (pn : List (Addr × Obj)), Zc cls d oe → (∃ vs, oe.data = .fields vs) → PSs (X.suite a ((a, oe) :: pn)) (first :: more) (ts a cls d)) (rest : Clauses X hds l) :
      Clauses X (.ExceptHandler (some (.Name x np)) none (first :: more) hp :: hds) ((c, i, ts) :: l)
section
variable {X : Cx} {body : List Stmt} {h1 : ExceptHandler} {hds : List ExceptHandler} {l : List (Value × Nat × (Addr → Value → Option Addr → TS))} {pos : Pos} {tb : WX → TS} {Wout : WX}
theorem ps_tryC (hs : X.stack = X.env :: X.outer) (hf : X.env.frame = some X.env.locals) (hN : X.N.Nodup) (tk : Takes X Wout)
    (hb : ∀ (W : WX) (pn : List (Addr × Obj)) (xe : Value → Shared → Prop), Takes (X.tr pn xe) W → PassesOwn (model X.prog X.w) X.A X.env xe → PSs (X.tr pn xe) body (tb W))
    (cl : Clauses X (h1 :: hds) l) : PS X (.Try body (h1 :: hds) [] [] pos) (fun D σ H => tb (wClauses X.K Wout D l) D σ H) := by
  constructor
  intro pins s σ H D I h
  have ok := I.ok
  have frames : X.A.frames = some (X.env :: X.outer) := by
    rw [ok.frames, hs]
  apply wpAny_Try_except
  refine wpAny_mono ((hb (wClauses X.K Wout D l) (X.pn ++ pins) (fun e z1 => wpAny (model X.prog X.w) X.A (noteFrame e X.env) (fun _ z2 => wpAny (model X.prog X.w) X.A (setFlight e none) (fun _ z3 =>
    wpAny (model X.prog X.w) X.A (handleBy e X.env (h1 :: hds)) (SP X pins D) X.xe z3) X.xe z2) X.xe z1) ?_ PassesOwn.looking).run [] s σ H D (I.toTry _) h) ?_ (fun _ _ z => z)
  · rintro u s' ⟨a, G, sI, pins', σ1, Ha, cls, d, rfl, Jt, apart, up, sky, na, os, ag, wish⟩
    have J : Inv X pins σ1 Ha sI := Jt.ofTry ok
    rw [show (X.tr (X.pn ++ pins) _).stack = X.stack from rfl, hs] at sky
    show wpAny (model X.prog X.w) X.A (noteFrame (.ref a) X.env) _ _ _
    apply Sky.land Zc.steady frames hf sky
    intro hp fly upp
    have Jh : Inv X pins σ1 Ha { s' with heap := hp } := J.landed apart fly.1 (up.trans upp) os ag
    obtain ⟨oe, fv, here, hz, hd⟩ := fly.there
    have noFrame : a ∉ frs (X.env :: X.outer) := by
      intro m
      obtain ⟨_, o', e', nf⟩ := fly.2.2.1.mem m
      rw [here] at e'
      cases e'
      exact nf _ hd
    have offL : a ≠ X.env.locals := by
      intro z
      apply noFrame
      apply List.mem_filterMap.mpr
      exact ⟨X.env, List.mem_cons_self, by rw [hf, z]⟩
    have offF : a ∉ X.fs := by
      intro m
      obtain ⟨e, he, q⟩ := List.mem_filterMap.mp m
      exact noFrame (List.mem_filterMap.mpr ⟨e, List.mem_cons_of_mem _ he, q⟩)
    have Js := Jh.suite here hd na offL offF
    have all : ∀ {hds' : List ExceptHandler} {l' : List (Value × Nat × (Addr → Value → Option Addr → TS))}, Clauses X hds' l' → wClauses X.K Wout D l' cls d σ1 Ha → wpAny (model X.prog X.w) X.A (handleBy (.ref a) X.env hds') (SP X pins D) X.xe { s' with heap := hp } := by
      intro hds' l' c
      induction c with
      | nil =>
        intro wish
        apply wpAny_handleBy_nil
        obtain ⟨_, _, _, _, _, T, _, _, there, _, dd, one, _⟩ := id fly
        unfold PySem.passOn
        apply wpAny_bind
        apply wpAny_field there dd one
        rw [if_neg (show ¬ ((Value.ref T == Value.none) = true) by simp)]
        have fin : wpAny (model X.prog X.w) X.A (setFlight (.ref a) X.env.frame) (fun _ z => wpAny (model X.prog X.w) X.A (throw (.ref a) : Sem Flow) (SP X pins D) X.xe z) X.xe { s' with heap := hp } := by
          rw [hf]
          apply HandSPX.setFlight_upZ fly
          intro h4 held upq
          apply wpAny_throw
          apply tk
          exact ⟨a, G, sI, pins, σ1, Ha, cls, d, rfl, J, apart, (up.trans upp).trans upq, .inr (.inr (by rw [hs]; exact held)), na, os, ag, wish⟩
        first
          | exact wpAny_bind (wpAny_pure (wpAny_bind fin))
          | exact wpAny_bind fin
      | @cons x n c i ts first more np hpos hds2 l2 names slot loc suite rest ih =>
        rintro ⟨b, ask, yes, no⟩
        apply wpAny_handleBy_cons _ (by intro q; cases q)
        apply codeAny_handlers_test
        have looks : PySem.W.Looks (model X.prog X.w) hp (typeOf (.ref a)) cls := fun A Q E z k q => wpAny_typeOf_ref (k _ _ here) (by rw [hz.1]; exact q)
        have named : ∀ {Q : Value → Shared → Prop} {E : Value → Shared → Prop}, Q c { s' with heap := hp } → wpAny (model X.prog X.w) (X.A.mark (some (.ref a))) (eval (.Name x np) X.env) Q E { s' with heap := hp } := by
          intro Q E q
          obtain ⟨hg, hdb, hm | ⟨hm, hv, hnn⟩⟩ := names
          · exact ld_glob (X := X.suite a ((a, oe) :: (X.pn ++ pins))) Js hg hm q hdb
          · exact ld_blt (X := X.suite a ((a, oe) :: (X.pn ++ pins))) Js hg hm hv q hnn hdb
        apply named
        apply (PySem.W.exm_one (M := model X.prog X.w) Jh.kIn looks ask).here
        cases b with
        | false => exact ih (no rfl)
        | true =>
          apply codeAny_handlers_suite_as
          apply HandSPX.lands_againZ fly
          intro h4 fly4 up4
          have J4 : Inv X pins σ1 Ha { s' with heap := h4 } := J.landed apart fly4.1 ((up.trans upp).trans up4) os ag
          obtain ⟨oe4, fv4, here4, hz4, hd4⟩ := fly4.there
          have S4 := J4.suite here4 hd4 na offL offF
          refine store_ok (X := X.suite a ((a, oe4) :: (X.pn ++ pins))) (v := .ref a) S4 hN slot (.inl loc) rfl ?_ (.inr loc)
          intro s5 S5
          have fin : ∀ {σ6 : L2.St} {H6 : Hp} {s6 : Shared} {Q : Shared → Prop}, Inv (X.suite a ((a, oe4) :: (X.pn ++ pins))) [] σ6 H6 s6 → (∀ s7, Inv X pins (σ6.set i none) H6 s7 → Q s7) →
              wpAny (model X.prog X.w) X.A (do bindName X.env n .none; unbindBehindTheSuite X.env n hpos) (fun _ s7 => Q s7) X.xe s6 := fun S6 hq => gone_ok (S6.unsuite ok) hN slot loc hq
          refine wpAny_mono ((suite a oe4 cls d (X.pn ++ pins) hz4 ⟨_, hd4⟩).run [] s5 _ Ha _ S5 (yes rfl a na)) ?_ (fun _ _ z => False.elim z)
          intro f s6 out
          cases f with
          | next =>
            obtain ⟨_, _, S6, q⟩ := out
            exact fin S6 fun _ J7 => ⟨_, _, J7, q⟩
          | brk =>
            obtain ⟨_, _, S6, q⟩ := out
            exact fin S6 fun _ J7 => ⟨_, _, J7, q⟩
          | cont =>
            obtain ⟨_, _, S6, q⟩ := out
            exact fin S6 fun _ J7 => ⟨_, _, J7, q⟩
          | ret u =>
            obtain ⟨_, _, _, S6, rv, q⟩ := out
            exact fin S6 fun _ J7 => ⟨_, _, _, J7, rv, q⟩
      | @bare x c i ts first more np hpos hds2 l2 names far suite rest ih =>
        rintro ⟨b, ask, yes, no⟩
        apply wpAny_handleBy_cons _ (by intro q; cases q)
        apply codeAny_handlers_test
        have looks : PySem.W.Looks (model X.prog X.w) hp (typeOf (.ref a)) cls := fun A Q E z k q => wpAny_typeOf_ref (k _ _ here) (by rw [hz.1]; exact q)
        have named : ∀ {Q : Value → Shared → Prop} {E : Value → Shared → Prop}, Q c { s' with heap := hp } → wpAny (model X.prog X.w) (X.A.mark (some (.ref a))) (eval (.Name x np) X.env) Q E { s' with heap := hp } := by
          intro Q E q
          obtain ⟨hg, hdb, hm | ⟨hm, hv, hnn⟩⟩ := names
          · exact ld_glob (X := X.suite a ((a, oe) :: (X.pn ++ pins))) Js hg hm q hdb
          · exact ld_blt (X := X.suite a ((a, oe) :: (X.pn ++ pins))) Js hg hm hv q hnn hdb
        apply named
        apply (PySem.W.exm_one (M := model X.prog X.w) Jh.kIn looks ask).here
        cases b with
        | false => exact ih (no rfl)
        | true =>
          apply codeAny_handlers_suite
          apply HandSPX.lands_againZ fly
          intro h4 fly4 up4
          have J4 : Inv X pins σ1 Ha { s' with heap := h4 } := J.landed apart fly4.1 ((up.trans upp).trans up4) os ag
          obtain ⟨oe4, fv4, here4, hz4, hd4⟩ := fly4.there
          have S4 := J4.suite here4 hd4 na offL offF
          have same : ∀ {σ' : L2.St} {v : Option V}, σ'.length = X.N.length → σ'.set i v = σ' := fun {σ' v} hl => List.set_eq_of_length_le (by rw [hl]; exact far)
          have yes' := yes rfl a na
          rw [same J.len] at yes'
          refine wpAny_mono ((suite a oe4 cls d (X.pn ++ pins) hz4 ⟨_, hd4⟩).run [] _ _ Ha _ S4 yes') ?_ (fun _ _ z => False.elim z)
          intro f s6 out
          cases f with
          | next =>
            obtain ⟨_, _, S6, q⟩ := out
            have q : D.nx _ _ := q
            rw [same S6.len] at q
            exact ⟨_, _, S6.unsuite ok, q⟩
          | brk =>
            obtain ⟨_, _, S6, q⟩ := out
            have q : D.bk _ _ := q
            rw [same S6.len] at q
            exact ⟨_, _, S6.unsuite ok, q⟩
          | cont =>
            obtain ⟨_, _, S6, q⟩ := out
            have q : D.ct _ _ := q
            rw [same S6.len] at q
            exact ⟨_, _, S6.unsuite ok, q⟩
          | ret u =>
            obtain ⟨_, _, _, S6, rv, q⟩ := out
            exact ⟨_, _, _, S6.unsuite ok, rv, q⟩
    exact all cl wish
  · intro f s1 out
    cases f with
    | next =>
      obtain ⟨_, _, Jt, q⟩ := out
      exact wpAny_execs_nil ⟨_, _, Jt.ofTry ok, q⟩
    | brk =>
      obtain ⟨_, _, Jt, q⟩ := out
      exact ⟨_, _, Jt.ofTry ok, q⟩
    | cont =>
      obtain ⟨_, _, Jt, q⟩ := out
      exact ⟨_, _, Jt.ofTry ok, q⟩
    | ret u =>
      obtain ⟨_, _, _, Jt, rv, q⟩ := out
      exact ⟨_, _, _, Jt.ofTry ok, rv, q⟩
end
/-- isinstance(e, c) of the error that a clause holds -/
def rIsC (K : PySem.W.Frag) (cls : Value) (d : Option Addr) (a : Addr) : List V → Hp → VK → Prop := fun xs H Q => match xs with
  | [.ref a', .ref c] => ∃ (C dd : Addr) (fs : List (Str × V)) (b : Bool), a' = a ∧ cls = .ref C ∧ d = some dd ∧ H dd = some (.xd fs) ∧ Es K C ∧ PySem.W.kitOne K (.ref C) (.ref c) = some b ∧ Q (.bl b) H
  | _ => False
theorem c_isC {X : Cx} {a : Addr} {oe : Obj} {cls : Value} {d : Option Addr} {pn : List (Addr × Obj)} (hz : Zc cls d oe) (hf : ∃ vs, oe.data = .fields vs) : CallR (X.suite a ((a, oe) :: pn)) (.builtin "isinstance") (rIsC X.K cls d a) := by
  intro pins s σ H xs us Q I r h
  unfold rIsC at h
  split at h
  · rename_i a' c
    obtain ⟨C, dd, fs, b, rfl, rfl, rfl, hx, S, ask, q⟩ := h
    cases r with
    | cons r1 rr =>
      cases rr with
      | cons r2 rr =>
        cases rr
        cases r1
        cases r2
        obtain ⟨here, _⟩ := I.pin (a', oe) (List.mem_append.mpr (.inl List.mem_cons_self))
        obtain ⟨vs, hd⟩ := hf
        obtain ⟨mA, ns, _⟩ := (show ObjOk X.prog X.w H s.heap dd (.xd fs) from I.hok dd _ hx)
        obtain ⟨od, ho, _⟩ := lookIn_ns ns
        have J : PySem.W.InstAt s.heap a' oe C (some od) := ⟨here, hz.1, by unfold PySem.W.notCls; rw [hd] <;> rfl, by rw [hz.2]; exact ho⟩
        have cl : (PySem.W.clsIn X.K C).isSome = true := by
          obtain ⟨cd, hc, _⟩ := PySem.W.any_some S.xf.hdC
          rw [hc]
          rfl
        exact PySem.W.kia_one (PySem.W.kitx_exc cl S.xf.ga S.xf.gg S.xf.exC S.ha S.hn S.ht S.hm) I.kIn J ask (fun z => nomatch z) fun tk => ⟨.bl b, H, I.tok _, rfl, q⟩
  · exact h.elim
theorem k_isC {X : Cx} (K : PySem.W.Frag) {a : Addr} {oe : Obj} {cls : Value} {d : Option Addr} {pn : List (Addr × Obj)} (hz : Zc cls d oe) (hf : ∃ vs, oe.data = .fields vs) (hK : X.K = K := by rfl) : CallR (X.suite a ((a, oe) :: pn)) (.builtin "isinstance") (rIsC K cls d a) := hK ▸ c_isC hz hf
/-- the class of that name at the top -/
def clsAt (K : PySem.W.Frag) (x : Str) (C : Addr) : Prop := PySem.W.nsIn K mainGlobals x = some (some (.ref C))
theorem clsAt.one {K : PySem.W.Frag} {x : Str} {C D : Addr} (a : clsAt K x C) (b : clsAt K x D) : C = D := by
  unfold clsAt at a b
  rw [a] at b
  cases b
  rfl
/-- what is asked of the base whose __init__ is called by its name -/
structure BaseC (K : PySem.W.Frag) (B : Addr) : Prop where
  ex : ∃ mc, PySem.W.specialIn K (.ref B) "__getattribute__" = some (some (.builtin "type.__getattribute__")) ∧ PySem.W.readsIn K B mc = true ∧ PySem.W.findCls K (.ref B) mc "__init__" = some (.val (.builtin "Exception.__init__"))
/-- an error of the class x with this field leaves -/
def Rz (K : PySem.W.Frag) (x f : Str) (v : V) (H : Hp) (E : XK) : Prop := ∀ C d H2, clsAt K x C → Same H H2 → H2 d = some (.xd [(f, v)]) → E (.ref C) (some d) H2
theorem Rz.go {K : PySem.W.Frag} {x f : Str} {v : V} {H H1 H2 : Hp} {E : XK} {C d : Addr} (h : Rz K x f v H E) (c : clsAt K x C) (s : Same H H1) (n : Nw H1 d (.xd [(f, v)]) H2) : E (.ref C) (some d) H2 := h C d H2 c (s.trans n.same) n.here
/-- a list some times over -/
def zRepL : R2 := fun x y H Q => match x, y with
  | .ref l, .int k => ∃ xs, H l = some (.lst xs) ∧ -(2 ^ 63) ≤ k ∧ k < 2 ^ 63 ∧ xs.length * k.toNat ≤ sizeLine ∧ ∀ p H2, Nw H p (.lst (List.replicate k.toNat xs).flatten) H2 → Q (.ref p) H2
  | _, _ => False
theorem o_repL {X : Cx} : OpR X (binaryOp .Mult) zRepL := by
  intro pins s σ H x y v u Q I rx ry h
  unfold zRepL at h
  split at h
  · obtain ⟨xs, h1, h2, h3, h4, q⟩ := h
    exact op_rep pins s σ H _ _ v u Q I rx ry ⟨_, _, xs, rfl, rfl, h1, h2, h3, h4, fun p hp => q p _ (nw hp)⟩
  · exact h.elim
/-- what stands in a class -/
def clsB : Stmt → List Stmt
  | .ClassDef (body := inside) .. => inside
  | _ => []
theorem ct0 {P : Program} {w : World} {K : PySem.W.Frag} {mg : Str → Option Value} {base : Heap} {x : Str} {st : Stmt} {N : List Str} {k : Nat} {p : Hp → VK → XK → Prop} (D : Df K mg x st []) (S : FnScope N [] (defScope st))
    (body : ∀ (f : Addr) (cdv : Value) (A : Around) (outer : List Env) (s : Shared) (H : Hp) (Q : VK) (E : XK), Room k (A.deeper (envOfC x (defScope st) s.heap.objs.size f cdv)) → p H Q E →
      ∃ t, PSs (cxOf CX0 P w K mg base N x (defScope st) f cdv A outer s H E).nox (defBody st) t ∧ t { nx := fun _ H' => Q .non H', rt := Q } (start N []) H) : Ct P w K mg base CX0 (k + 1) x [] (fun vs H Q E => vs = [] ∧ p H Q E) := by
  obtain ⟨f, fd, F, hm, hb⟩ := D.ex
  refine ⟨f, fd, hm, F.kp, hb, F.ok S ?_ ?_, fun_at F⟩
  · intro vs H Q E h
    rw [h.1]
    rfl
  · intro cdv A outer s H vs Q E hr h
    obtain ⟨rfl, h⟩ := h
    exact body f cdv A outer s H Q E hr h
/-- d[k] = v -/
def zSetD : V → V → V → Hp → (Hp → Prop) → Prop := fun o i v H Q => match o with
  | .ref a => ∃ kvs k, H a = some (.dK kvs) ∧ i = kV k ∧ kvs.length < sizeLine ∧ ∀ H2, Wr H a (.dK (putK kvs k v)) H2 → Q H2
  | _ => False
theorem s_dict {X : Cx} (hu : X.A.units + 1 < cLine) : PSet X zSetD := by
  intro pins s σ H o i v ov iv u Q I ro ri rv h
  unfold zSetD at h
  split at h
  · obtain ⟨kvs, k, ea, rfl, hl, q⟩ := h
    cases ro
    exact d_setItem hu I (DPut.k ea hl) ri rv fun s' J => ⟨_, J, q _ wr⟩
  · exact h.elim
/-- range(a, b) -/
def tRng2 (ta : TA) : TI := fun σ H R => ta σ H fun vs H1 => match vs with
  | [.int i, .int j] => -(2 ^ 62) ≤ i ∧ i < 2 ^ 62 ∧ -(2 ^ 62) ≤ j ∧ j < 2 ^ 62 ∧ R (Itr i (j - i).toNat) H1
  | _ => False
theorem pi_rng2 {X : Cx} {tg a b : Expr} {ta : TA} {p pos : Pos} (hg : Gl X "range") (hm : X.mg "range" = none) (ha : PA X [a, b] ta) (hs : starEach [a, b] X.env = [(false, eval a X.env), (false, eval b X.env)] := by rfl) (hs2 : starEach [b] X.env = [(false, eval b X.env)] := by rfl) :
    PI X tg (.Call (.Name "range" p) [a, b] [] pos) (tRng2 ta) :=
  pi_w (pi_range2 hg hm (pa_mon ha) hs hs2) fun σ H R h => ⟨_, h, fun vs H1 h1 => by
    split at h1
    · obtain ⟨a1, a2, a3, a4, q⟩ := h1
      exact ⟨_, _, rfl, ⟨a1, a2, a3, a4⟩, q⟩
    · exact h1.elim⟩
/-! ### lists that may be shown beside a dict: they do not lie where the modules do -/
def zAddS (K : PySem.W.Frag) : R2 := fun x y H Q => match x, y with
  | .ref l, .ref b => ∃ xs zs, H l = some (.lst xs) ∧ H b = some (.lst zs) ∧ xs.length + zs.length ≤ sizeLine ∧ ∀ p H2, Nw H p (.lst (xs ++ zs)) H2 → p ≠ sysModules → Q (.ref p) H2
  | x, y => zAdd K x y H Q
theorem o_addS {X : Cx} : OpR X (binaryOp .Add) (zAddS X.K) := by
  intro pins s σ H x y v u Q I rx ry h
  unfold zAddS at h
  split at h
  · rename_i l b
    obtain ⟨xs, zs, h1, h2, hz, q⟩ := h
    cases rx
    cases ry
    obtain ⟨z1, its, n, r, hl, e⟩ := I.lstM h1
    obtain ⟨z2, its2, n2, r2, hl2, e2⟩ := I.lstM h2
    refine PySem.P.add_list e e2 ?_ (by rw [List.size_toArray, List.size_toArray]; omega)
    rw [show its.toArray ++ its2.toArray = (its ++ its2).toArray by simp]
    exact ⟨.ref _, _, I.lnew (t' := s.toks) (r.append r2) (by rw [List.length_append]; omega), rfl, q _ _ (nw I.fresh) (Nat.ne_of_gt I.big)⟩
  · exact o_add pins s σ H _ _ v u Q I rx ry h
theorem k_addS {X : Cx} (K : PySem.W.Frag) (hK : X.K = K := by rfl) : OpR X (binaryOp .Add) (zAddS K) := hK ▸ o_addS
def zListS (K : PySem.W.Frag) : List V → Hp → VK → Prop := fun vs H Q => match vs with
  | [.ref p] => ∃ ys, (SqL K H p ys ∨ SqT K H p ys) ∧ ∀ l H2, Nw H l (.lst ys) H2 → l ≠ sysModules → Q (.ref l) H2
  | _ => False
theorem c_listS {X : Cx} : CallR X (.type "list") (zListS X.K) := by
  intro pins s σ H xs us Q I r h
  unfold zListS at h
  split at h
  · rename_i p
    obtain ⟨ys, hq, q⟩ := h
    obtain ⟨u, rfl, ru⟩ := vals1 r
    cases ru
    have put : ∀ (its : List Value), Vals ys its → ys.length ≤ sizeLine → ∀ (h' : Heap) (n : Nat), (∀ b o, s.heap.get? b = some o → h'.get? b = some o) →
        h'.get? s.heap.objs.size = some { cls := .type "list", dict := none, data := .seq its.toArray n, slots := #[] } → EP X pins σ Q (.ref s.heap.objs.size) { s with heap := h' } := by
      intro its rv hz h' n kp e
      exact ⟨.ref _, _, I.laid (t' := s.toks) kp (Nat.le_refl _) (show ObjOk X.prog X.w _ h' _ (.lst ys) from ⟨hz, its, n, rv, e⟩), rfl, q _ _ (nw (I.hok.fresh (Nat.le_refl _))) (Nat.ne_of_gt I.big)⟩
    rcases hq with hq | hq
    · obtain ⟨its, rv, pl, hz⟩ := I.list hq
      have ll := rv.length
      obtain ⟨o, ho, hc, n, hd⟩ := pl.isList
      refine call_list_seq p (.inl rfl) ho hc hd (fun h' n' kp e => put its rv hz h' n' kp e) ?_
      simp only [List.size_toArray] <;> omega
    · obtain ⟨its, rv, ⟨o, ho, hc, n, hd⟩, hz⟩ := I.tuple hq
      have ll := rv.length
      refine call_list_seq p (.inr rfl) ho hc hd (fun h' n' kp e => put its rv hz h' n' kp e) ?_
      simp only [List.size_toArray] <;> omega
  · exact h.elim
theorem k_listS {X : Cx} (K : PySem.W.Frag) (hK : X.K = K := by rfl) : CallR X (.type "list") (zListS K) := hK ▸ c_listS
/-- isinstance of an error, by what the classes say of each other -/
theorem kit_sub {K : PySem.W.Frag} {C D : Addr} {b : Bool} (h : PySem.W.subIn K (.ref C) (.ref D) = some b) (self : PySem.W.subIn K (.ref C) (.ref C) = some true) (hd : PySem.W.hasDictIn K D = true) (ty : PySem.W.typeIn K (.ref D) = some (.type "type")) : PySem.W.kitOne K (.ref C) (.ref D) = some b := by
  unfold PySem.W.kitOne
  split
  · rename_i e
    have e : C = D := Value.ref.inj (eq_of_beq e)
    subst e
    rw [self] at h
    exact h
  · obtain ⟨cd, hc, _⟩ := PySem.W.any_some hd
    have e2 : ((PySem.W.clsIn K D).isSome && PySem.W.typeIn K (.ref D) == some (.type "type")) = true := by rw [hc, ty] <;> rfl
    show (if ((PySem.W.clsIn K D).isSome && PySem.W.typeIn K (.ref D) == some (.type "type")) = true then PySem.W.subIn K (.ref C) (.ref D) else none) = some b
    rw [if_pos e2]
    exact h
end Z

/-! V: own errors as values: made by place and by name, their fields, their classes. -/
namespace PySem
namespace HandSPX
open Builtin Builtin.ObjectAttr
section
variable {M : Model} {prog : Program} {w : World} {A : Around} {E : Value → Shared → Prop} {R : Result → Shared → Prop} {h : Heap} {g : Array GenState} {d : Drawn} {t : Nat} {os : OsState}
variable {nm q : Str} {C N : Addr} {bs bm bmB : List Value} {hdct : Bool} {sn : List Str} {sub : List Value} {ab : Bool} {col : Option Bool} {dd : Option Addr} {k0 k1 k2 k3 k5 : Option Value} {B newId initId : String} {kw : List (Str × Value)}
theorem check_new_kw (F : ExcBaseFacts B newId initId bmB) (hT : ∀ X : String, bm.contains (.type X) = bmB.contains (.type X)) {Q : Unit → Shared → Prop}
    (hC : h.get? C = some (excClassObj nm q C N bs bm hdct sn sub ab col dd k0 k1 k2 k3 k5 newId)) (hq : Q () ⟨h, g, d, t, os⟩) : wpAny M A (checkBuiltinCall newId ⟨[.ref C], kw⟩) Q E ⟨h, g, d, t, os⟩ := by
  have hcont : (Value.ref C :: bm).contains (.type B) = true := by rw [List.contains_cons, hT, F.hasB, Bool.or_true]
  have hstar := F.noStar
  simp only [checkBuiltinCall, F.newKind, F.newSplit, F.newRow]
  repeat (first | refine wpAny_loadPart_at hC ?_ | (refine wpAny_isSubtype_exc hC ?_; rw [hcont]) | refine wpAny_staticBase_exc hC ?_ | refine wpAny_madeBy_exc hC ?_ | simp only [bne_self_eq_false, Bool.false_eq_true, if_false] | wp_step)
  exact hq
theorem new_kw (F : ExcBaseFacts B newId initId bmB) (hT : ∀ X : String, bm.contains (.type X) = bmB.contains (.type X))
    (hC : h.get? C = some (excClassObj nm q C N bs bm hdct sn sub ab col dd k0 k1 k2 k3 k5 newId))
    (hq : R (.ok (.ret (.ref (h.objs.size + 1)))) ⟨(h.push { cls := .type "tuple", data := .seq #[] }).push
      { cls := .ref C, data := .fields #[.ref h.objs.size, .none, .none, .none, .bool false, .none] }, g, d, t, os⟩) :
    codeAny (model prog w) A (.builtin newId ⟨[.ref C], kw⟩) R ⟨h, g, d, t, os⟩ := by
  have hends := F.ends
  have hcB : (Value.ref C :: bm).contains (.type B) = true := by rw [List.contains_cons, hT, F.hasB, Bool.or_true]
  have hcA : (Value.ref C :: bm).contains (.type "AttributeError") = false := by rw [List.contains_cons, hT, F.noAttr]; rfl
  have hcN : (Value.ref C :: bm).contains (.type "NameError") = false := by rw [List.contains_cons, hT, F.noName]; rfl
  refine codeAny_builtinAt F.entry ?_
  unfold Builtin.«BaseException.__new__»
  refine wpAt_bind ?_
  show wpAt _ _ _ (stack >>= _) _ _ _
  refine wpAt_bind (wpAt_stack fun p below => wpAt_of_wpAny ?_)
  wp_walk
  refine wpAt_of_wpAny ?_
  rw [F.owner]
  repeat (first | with_reducible refine wpAny_madeHere_exc F.canon hC ?_ | with_reducible refine wpAny_loadPart_at hC ?_ | (with_reducible refine wpAny_isSubtype_exc hC ?_; first | rw [hcB] | rw [hcA] | rw [hcN]) | wp_step)
  show R _ _
  rw [Heap.size_push]
  exact hq
theorem type_call_kw (F : ExcBaseFacts B newId initId bmB) (hT : ∀ X : String, bm.contains (.type X) = bmB.contains (.type X)) {fI : Addr} {Q : Fin → Shared → Prop}
    (hC : h.get? C = some (excClassObj nm q C N bs bm hdct sn sub ab col dd k0 k1 k2 k3 k5 newId))
    (hi : W.Looks (model prog w) h (typeLookup (.ref C) "__init__") (some (.ref fI))) (hb : ∀ self, W.Looks (model prog w) h (bindSpecial (.ref fI) self) (.ref fI, [self]))
    (hq : codeAny (model prog w) A (.call (.ref fI) ⟨[.ref (h.objs.size + 1)], kw⟩)
      (fun r s' => match r with | .ok (.ret v) => v = .none ∧ Q (.done (.ret (.ref (h.objs.size + 1)))) s' | .ok _ => False | .error e => E e s')
      ⟨(h.push (W.kdv_tup [])).push (excO C h.objs.size), g, d, t, os⟩) :
    wpAny (model prog w) A (Builtin.«type.__call__» ⟨[.ref C], kw⟩) Q E ⟨h, g, d, t, os⟩ := by
  repeat (first | with_reducible refine wpAny_loadPart_at hC ?_ | with_reducible refine wpAny_madeBy_exc hC ?_ | wp_step)
  refine codeAny_call_builtin_code (Code.quiet_builtin _ F.quiet) (check_new_kw F hT hC ?_)
  refine new_kw F hT hC ?_
  show wpAny _ _ _ _ _ _
  have k : ∀ b o, h.get? b = some o → ((h.push (W.kdv_tup [])).push (excO C h.objs.size)).get? b = some o := fun b o e => Heap.get?_push_of_some _ (Heap.get?_push_of_some _ e)
  have hC₁ := k _ _ hC
  have hget : ((h.push (W.kdv_tup [])).push (excO C h.objs.size)).get? (h.objs.size + 1) = some (excO C h.objs.size) := by heap_get
  have hcC : (Value.ref C :: bm).contains (.ref C) = true := by simp
  have i1 := hi.keeps k
  have b1 := (hb (.ref (h.objs.size + 1))).keeps k
  unfold isInstance
  repeat (first | with_reducible refine wpAny_loadPart_at hget ?_ | (with_reducible refine wpAny_isSubtype_exc hC₁ ?_; rw [hcC]) | wp_step)
  show wpAny _ _ (typeLookup (.ref C) _) _ _ _
  refine i1.at ?_
  refine wpAny_holding (wpAny_bind (b1.at ?_))
  refine wpAny_bind (wpAny_call (codeAny_mono hq fun r s' z => ?_))
  rcases r with e | (v | _ | _ | _) <;> first | exact z | exact z.elim | skip
  obtain ⟨rfl, z⟩ := z
  first
    | exact wpAny_pure (wpAny_pure z)
    | (wp_walk; exact z)
theorem call_kw (F : ExcBaseFacts B newId initId bmB) (hT : ∀ X : String, bm.contains (.type X) = bmB.contains (.type X)) {fI : Addr}
    (hC : h.get? C = some (excClassObj nm q C N bs bm hdct sn sub ab col dd k0 k1 k2 k3 k5 newId))
    (hi : W.Looks (model prog w) h (typeLookup (.ref C) "__init__") (some (.ref fI))) (hb : ∀ self, W.Looks (model prog w) h (bindSpecial (.ref fI) self) (.ref fI, [self]))
    (hq : codeAny (model prog w) (A.under (.builtin "type.__call__" ⟨[.ref C], kw⟩)) (.call (.ref fI) ⟨[.ref (h.objs.size + 1)], kw⟩) (W.InitBack (h.objs.size + 1) R)
      ⟨(h.push (W.kdv_tup [])).push (excO C h.objs.size), g, d, t, os⟩) :
    codeAny (model prog w) A (.call (.ref C) ⟨[], kw⟩) R ⟨h, g, d, t, os⟩ := by
  have f1 := tc_lookup
  have f2 := tc_bind (.ref C)
  have hTy : (⟨h, g, d, t, os⟩ : Shared).TypeIs (.ref C) "type" := ⟨_, hC, rfl⟩
  refine codeAny_of_tree ?_
  show wpAny _ _ (callAny (.ref C) _) _ _ _
  repeat (any_goals (first | assumption | with_reducible refine wpAny_loadPart_at hC ?_ | wp_step))
  refine ⟨rfl, ?_⟩
  refine codeAny_call_builtin_at (Code.quiet_builtin _ (by decide +kernel)) entry_typeCall (wpAny_check_type_call_sub hC (type_call_kw F hT hC hi hb ?_))
  refine codeAny_mono hq fun r s' z => ?_
  rcases r with e | (v | _ | _ | _) <;> exact z
end
end HandSPX
end PySem

/-! C: own classes: their methods, which may raise, by place and by name. -/
namespace Z
open PySem PySem.Spec PyProof.Rows L2

/-- a method's contract -/
structure Mt (P : Program) (w : World) (K : PySem.W.Frag) (mg : Str → Option Value) (base : Heap) (CX : CXT) (k : Nat) (C : Addr) (m : Str) (ps : List Str) (sp : Sp) : Prop where
  ex : ∃ f fd, Cls K C ∧ Meth K C m f ∧ Binds K fd ps [] ∧ FnOk P w K mg base CX k f fd ps sp ∧ ∃ oc od osl, K.lookup f = some ⟨oc, od, .func fd, osl⟩
/-- a method's def as it stands -/
structure Dm (K : PySem.W.Frag) (C : Addr) (m qual : Str) (st : Stmt) (ps : List Str) : Prop where
  ex : ∃ f fd, Fun K m qual st f fd ∧ Cls K C ∧ Meth K C m f ∧ Binds K fd ps []
section
variable {P : Program} {w : World} {K : PySem.W.Frag} {mg : Str → Option Value} {base : Heap} {C : Addr} {m qual : Str} {st : Stmt}
theorem mt_of {N ps : List Str} {k : Nat} {sp : Sp} (D : Dm K C m qual st ps) (S : FnScope N ps (defScope st)) (len : ∀ vs H Q E, sp vs H Q E → vs.length = ps.length)
    (body : ∀ (f : Addr) (cdv : Value) (A : Around) (outer : List Env) (s : Shared) (H : Hp) (vs : List V) (Q : VK) (E : XK), Room k (A.deeper (envOfC qual (defScope st) s.heap.objs.size f cdv)) → sp vs H Q E →
      ∃ t, PSs (cxOf CX0 P w K mg base N qual (defScope st) f cdv A outer s H E).nox (defBody st) t ∧ t { nx := fun _ H' => Q .non H', rt := Q } (start N vs) H) : Mt P w K mg base CX0 (k + 1) C m ps sp := by
  obtain ⟨f, fd, F, hc, hm, hb⟩ := D.ex
  exact ⟨f, fd, hc, hm, hb, F.ok S len fun cdv A outer s H vs Q E hr h => body f cdv A outer s H vs Q E hr h, fun_at F⟩
theorem mx_of {N ps : List Str} {k : Nat} {sp : Sp} (D : Dm K C m qual st ps) (S : FnScope N ps (defScope st)) (len : ∀ vs H Q E, sp vs H Q E → vs.length = ps.length)
    (body : ∀ (f : Addr) (cdv : Value) (A : Around) (outer : List Env) (s : Shared) (H : Hp) (vs : List V) (Q : VK) (E : XK), Room k (A.deeper (envOfC qual (defScope st) s.heap.objs.size f cdv)) → sp vs H Q E →
      ∃ t, PSs (cxOf (L2.CX P w) P w K mg base N qual (defScope st) f cdv A outer s H E) (defBody st) t ∧ t { nx := fun _ H' => Q .non H', rt := Q } (start N vs) H) : Mt P w K mg base (L2.CX P w) (k + 1) C m ps sp := by
  obtain ⟨f, fd, F, hc, hm, hb⟩ := D.ex
  exact ⟨f, fd, hc, hm, hb, F.okX S len fun cdv A outer s H vs Q E hr h => body f cdv A outer s H vs Q E hr h, fun_at F⟩
theorem len1 {p : V → Hp → VK → XK → Prop} {a : Str} (vs : List V) (H : Hp) (Q : VK) (E : XK) (h : sp1 p vs H Q E) : vs.length = [a].length := by
  obtain ⟨u, rfl, _⟩ := sp1_of h
  rfl
theorem len2 {p : V → V → Hp → VK → XK → Prop} {a b : Str} (vs : List V) (H : Hp) (Q : VK) (E : XK) (h : sp2 p vs H Q E) : vs.length = [a, b].length := by
  obtain ⟨u, v, rfl, _⟩ := sp2_of h
  rfl
theorem len3 {p : V → V → V → Hp → VK → XK → Prop} {a b c : Str} (vs : List V) (H : Hp) (Q : VK) (E : XK) (h : sp3 p vs H Q E) : vs.length = [a, b, c].length := by
  obtain ⟨u, v, y, rfl, _⟩ := sp3_of h
  rfl
/-- methods of one to three parameters, self first -/
theorem mt1 {a : Str} {N : List Str} {k : Nat} {p : V → Hp → VK → XK → Prop} (D : Dm K C m qual st [a]) (S : FnScope N [a] (defScope st))
    (body : ∀ (f : Addr) (cdv : Value) (A : Around) (outer : List Env) (s : Shared) (H : Hp) (u : V) (Q : VK) (E : XK), Room k (A.deeper (envOfC qual (defScope st) s.heap.objs.size f cdv)) → p u H Q E →
      ∃ t, PSs (cxOf CX0 P w K mg base N qual (defScope st) f cdv A outer s H E).nox (defBody st) t ∧ t { nx := fun _ H' => Q .non H', rt := Q } (start N [u]) H) : Mt P w K mg base CX0 (k + 1) C m [a] (sp1 p) :=
  mt_of D S len1 fun f cdv A outer s H vs Q E hr h => by
    obtain ⟨u, rfl, h⟩ := sp1_of h
    exact body f cdv A outer s H u Q E hr h
theorem mt2 {a b : Str} {N : List Str} {k : Nat} {p : V → V → Hp → VK → XK → Prop} (D : Dm K C m qual st [a, b]) (S : FnScope N [a, b] (defScope st))
    (body : ∀ (f : Addr) (cdv : Value) (A : Around) (outer : List Env) (s : Shared) (H : Hp) (u v : V) (Q : VK) (E : XK), Room k (A.deeper (envOfC qual (defScope st) s.heap.objs.size f cdv)) → p u v H Q E →
      ∃ t, PSs (cxOf CX0 P w K mg base N qual (defScope st) f cdv A outer s H E).nox (defBody st) t ∧ t { nx := fun _ H' => Q .non H', rt := Q } (start N [u, v]) H) : Mt P w K mg base CX0 (k + 1) C m [a, b] (sp2 p) :=
  mt_of D S len2 fun f cdv A outer s H vs Q E hr h => by
    obtain ⟨u, v, rfl, h⟩ := sp2_of h
    exact body f cdv A outer s H u v Q E hr h
theorem mx1 {a : Str} {N : List Str} {k : Nat} {p : V → Hp → VK → XK → Prop} (D : Dm K C m qual st [a]) (S : FnScope N [a] (defScope st))
    (body : ∀ (f : Addr) (cdv : Value) (A : Around) (outer : List Env) (s : Shared) (H : Hp) (u : V) (Q : VK) (E : XK), Room k (A.deeper (envOfC qual (defScope st) s.heap.objs.size f cdv)) → p u H Q E →
      ∃ t, PSs (cxOf (L2.CX P w) P w K mg base N qual (defScope st) f cdv A outer s H E) (defBody st) t ∧ t { nx := fun _ H' => Q .non H', rt := Q } (start N [u]) H) : Mt P w K mg base (L2.CX P w) (k + 1) C m [a] (sp1 p) :=
  mx_of D S len1 fun f cdv A outer s H vs Q E hr h => by
    obtain ⟨u, rfl, h⟩ := sp1_of h
    exact body f cdv A outer s H u Q E hr h
theorem mx2 {a b : Str} {N : List Str} {k : Nat} {p : V → V → Hp → VK → XK → Prop} (D : Dm K C m qual st [a, b]) (S : FnScope N [a, b] (defScope st))
    (body : ∀ (f : Addr) (cdv : Value) (A : Around) (outer : List Env) (s : Shared) (H : Hp) (u v : V) (Q : VK) (E : XK), Room k (A.deeper (envOfC qual (defScope st) s.heap.objs.size f cdv)) → p u v H Q E →
      ∃ t, PSs (cxOf (L2.CX P w) P w K mg base N qual (defScope st) f cdv A outer s H E) (defBody st) t ∧ t { nx := fun _ H' => Q .non H', rt := Q } (start N [u, v]) H) : Mt P w K mg base (L2.CX P w) (k + 1) C m [a, b] (sp2 p) :=
  mx_of D S len2 fun f cdv A outer s H vs Q E hr h => by
    obtain ⟨u, v, rfl, h⟩ := sp2_of h
    exact body f cdv A outer s H u v Q E hr h
theorem mx3 {a b c : Str} {N : List Str} {k : Nat} {p : V → V → V → Hp → VK → XK → Prop} (D : Dm K C m qual st [a, b, c]) (S : FnScope N [a, b, c] (defScope st))
    (body : ∀ (f : Addr) (cdv : Value) (A : Around) (outer : List Env) (s : Shared) (H : Hp) (u v y : V) (Q : VK) (E : XK), Room k (A.deeper (envOfC qual (defScope st) s.heap.objs.size f cdv)) → p u v y H Q E →
      ∃ t, PSs (cxOf (L2.CX P w) P w K mg base N qual (defScope st) f cdv A outer s H E) (defBody st) t ∧ t { nx := fun _ H' => Q .non H', rt := Q } (start N [u, v, y]) H) : Mt P w K mg base (L2.CX P w) (k + 1) C m [a, b, c] (sp3 p) :=
  mx_of D S len3 fun f cdv A outer s H vs Q E hr h => by
    obtain ⟨u, v, y, rfl, h⟩ := sp3_of h
    exact body f cdv A outer s H u v y Q E hr h
/-- the same method called by names behind self: g puts the values in the parameters' order -/
structure MtK (P : Program) (w : World) (K : PySem.W.Frag) (mg : Str → Option Value) (base : Heap) (CX : CXT) (k : Nat) (C : Addr) (m : Str) (ps ks : List Str) (g : {α : Type} → List α → List α) (sp : Sp) : Prop where
  ex : ∃ f fd, Cls K C ∧ Meth K C m f ∧ (∀ (s : Shared) (u : Value) (ws : List Value), (u :: g ws).length = ps.length → BindsTo s fd ⟨[u], ks.zip ws⟩ (ps.zip (u :: g ws))) ∧ (∀ {zs : List V} {ws : List Value}, Vals zs ws → Vals (g zs) (g ws)) ∧ FnOk P w K mg base CX k f fd ps sp
theorem Mt.kw {CX : CXT} {k : Nat} {ps ks : List Str} {g : {α : Type} → List α → List α} {sp : Sp} (M : Mt P w K mg base CX k C m ps sp) (D : Dm K C m qual st ps)
    (h : ∀ (kV doc pm : Value) (an : Option Addr) (cdv ct : Value) (u : Value) (ws : List Value), (u :: g ws).length = ps.length → bindArgs (PySem.W.fnOf m qual (defArgs st) (defBody st) (defScope st) .none kV doc pm an cdv ct) ⟨[u], ks.zip ws⟩ = pure (ps.zip (u :: g ws)))
    (hg : ∀ {zs : List V} {ws : List Value}, Vals zs ws → Vals (g zs) (g ws)) : MtK P w K mg base CX k C m ps ks g sp := by
  obtain ⟨f, fd, hc, hm, hb, F, oc, od, osl, hl⟩ := M.ex
  obtain ⟨f', fd', F', _, hm', _⟩ := D.ex
  have e : f = f' := by
    have a := hm.at_
    rw [hm'.at_] at a
    cases a
    rfl
  subst e
  obtain ⟨oc', od', kV, doc, pm, an, cdv, ct, osl', rfl, hl', _⟩ := F'.ex
  have e2 : fd = PySem.W.fnOf m qual (defArgs st) (defBody st) (defScope st) .none kV doc pm an cdv ct := by
    rw [hl] at hl'
    cases hl'
    rfl
  subst e2
  exact ⟨f, _, hc, hm, fun s u ws hlen => .of_eq (h kV doc pm an cdv ct u ws hlen), hg, F⟩
end
/-- o.m(..): the receiver, then the values -/
def tMt (C : Addr) (m : Str) (sp : Sp) (E : L2.St → XK) (ta : TE) (t : TA) : TE := fun σ H Q => ta σ H fun x H1 => match x with
  | .ref a => ∃ dx fs, H1 a = some (.ins C dx fs) ∧ fs.lookup m = none ∧ t σ H1 fun vs H2 => sp (.ref a :: vs) H2 Q (E σ)
  | _ => False
def tMtK (C : Addr) (m : Str) (g : {α : Type} → List α → List α) (sp : Sp) (E : L2.St → XK) (ta : TE) (t : TA) : TE := fun σ H Q => ta σ H fun x H1 => match x with
  | .ref a => ∃ dx fs, H1 a = some (.ins C dx fs) ∧ fs.lookup m = none ∧ t σ H1 fun vs H2 => sp (.ref a :: g vs) H2 Q (E σ)
  | _ => False
section
variable {X : Cx} {CX : CXT} {k : Nat} {C : Addr} {m : Str} {ps ks : List Str} {sp : Sp} {E : L2.St → XK} {pos apos : Pos} {e o : Expr} {es : List Expr} {ta : TE} {t : TA} {kws : List Keyword}
theorem pe_mtA {pl : Sem Bool} (M : Mt X.prog X.w X.K X.mg X.base CX k C m ps sp) (hr : Room k X.A) (hx : ∀ σ, PassesAt CX X σ (E σ)) (ho : PE X o ta) (ha : PA X (e :: es) t)
    (hst : starEach (e :: es) X.env = (false, eval e X.env) :: starEach es X.env := by rfl) (hpl : (backTo pos (starEach es X.env)).any (·.1) = false := by rfl)
    (ht : eval (.Call (.Attribute o m apos) (e :: es) [] pos) X.env = (do
      let ov ← eval o X.env
      standAt apos.atName
      let (f, first) ← holding [ov] (getMethod ov m pl)
      callWith pos f first (backTo pos (starEach (e :: es) X.env)) (backToKw pos (keywordEach [] X.env))) := by rfl) : PE X (.Call (.Attribute o m apos) (e :: es) [] pos) (tMt C m sp E ta t) := by
  obtain ⟨f, fd, hc, hm, hb, F, _⟩ := M.ex
  constructor
  intro pins s σ H Q I h
  refine PySem.W.methodCall_KW (pl := pl) (thn (ho.run pins s σ H _ I h) ?_) ht
  rintro u s1 ⟨x, H1, I1, rx, h1⟩
  split at h1
  · rename_i a
    obtain ⟨dx, fs, ea, l, q⟩ := h1
    obtain rfl : u = Value.ref a := rx
    apply getmeth_ok I1 ea hc hm l
    refine PySem.W.callWith_K (first := [.ref a]) (h₀ := X.base) I.ok.mod.kin hm.kp (thn (ha.run pos pins s1 σ H1 _ I1 q) ?_) hst hpl
    rintro us s2 ⟨vs, H2, I2, r, q2⟩
    exact ⟨I2.kIn, run_fnS (us := .ref a :: us) (vs := .ref a :: vs) F hr hb (hx σ) I2 (.cons rfl r) q2⟩
  · exact h1.elim
theorem pe_mtA0 {pl : Sem Bool} (M : Mt X.prog X.w X.K X.mg X.base CX k C m ps sp) (hr : Room k X.A) (hx : ∀ σ, PassesAt CX X σ (E σ)) (ho : PE X o ta)
    (ht : eval (.Call (.Attribute o m apos) [] [] pos) X.env = (do
      let ov ← eval o X.env
      standAt apos.atName
      let (f, first) ← holding [ov] (getMethod ov m pl)
      callWith pos f first (backTo pos (starEach [] X.env)) (backToKw pos (keywordEach [] X.env))) := by rfl) : PE X (.Call (.Attribute o m apos) [] [] pos) (tMt C m sp E ta tNil) := by
  obtain ⟨f, fd, hc, hm, hb, F, _⟩ := M.ex
  constructor
  intro pins s σ H Q I h
  refine PySem.W.methodCall_KW (pl := pl) (thn (ho.run pins s σ H _ I h) ?_) ht
  rintro u s1 ⟨x, H1, I1, rx, h1⟩
  split at h1
  · rename_i a
    obtain ⟨dx, fs, ea, l, q⟩ := h1
    obtain rfl : u = Value.ref a := rx
    apply getmeth_ok I1 ea hc hm l
    exact PySem.W.callWith_K0 (first := [.ref a]) I1.kIn hm.kp (run_fnS (us := [.ref a]) (vs := [.ref a]) F hr hb (hx σ) I1 (.cons rfl .nil) q)
  · exact h1.elim
theorem pe_mtK {pl : Sem Bool} {g : {α : Type} → List α → List α} (M : MtK X.prog X.w X.K X.mg X.base CX k C m ps ks g sp) (hr : Room k X.A) (hx : ∀ σ, PassesAt CX X σ (E σ)) (ho : PE X o ta) (hkw : PK X kws t)
    (hall : (backToKw pos (keywordEach kws X.env)).all (·.1.isSome) = true := by rfl) (hks : (backToKw pos (keywordEach kws X.env)).filterMap (·.1) = ks := by rfl)
    (hpl : ((backTo pos (starEach [] X.env)).any (·.1) || (backToKw pos (keywordEach kws X.env)).any (·.1.isNone)) = false := by rfl)
    (ht : eval (.Call (.Attribute o m apos) [] kws pos) X.env = (do
      let ov ← eval o X.env
      standAt apos.atName
      let (f, first) ← holding [ov] (getMethod ov m pl)
      callWith pos f first (backTo pos (starEach [] X.env)) (backToKw pos (keywordEach kws X.env))) := by rfl) : PE X (.Call (.Attribute o m apos) [] kws pos) (tMtK C m g sp E ta t) := by
  obtain ⟨f, fd, hc, hm, hb, hrel, F⟩ := M.ex
  constructor
  intro pins s σ H Q I h
  refine PySem.W.methodCall_KW (pl := pl) (thn (ho.run pins s σ H _ I h) ?_) ht
  rintro u s1 ⟨x, H1, I1, rx, h1⟩
  split at h1
  · rename_i a
    obtain ⟨dx, fs, ea, l, q⟩ := h1
    obtain rfl : u = Value.ref a := rx
    apply getmeth_ok I1 ea hc hm l
    refine PySem.W.callWith_KW0 (first := [.ref a]) (h₀ := X.base) I.ok.mod.kin hm.kp hall (thn (hkw.run pos pins s1 σ H1 _ I1 q) ?_) hpl
    rintro ws s2 ⟨zs, H2, I2, rz, q2⟩
    refine ⟨I2.kIn, ?_⟩
    rw [hks]
    have r2 : Vals (V.ref a :: g zs) (Value.ref a :: g ws) := .cons rfl (hrel rz)
    have hl : (Value.ref a :: g ws).length = ps.length := r2.length.symm.trans (F.len _ _ _ _ q2)
    apply wpAny_call
    refine codeAny_mono (F.run X.A X.stack s2 H2 ⟨[.ref a], ks.zip ws⟩ (.ref a :: g ws) (.ref a :: g zs) Q (E σ) hr I2.env0 (hb s2 (.ref a) ws hl) r2 q2) ?_
    intro r s' z
    match r, z with
    | .error er, z => exact hx σ pins H2 s2 er s' I2 z
    | .ok (.ret u), z => exact I2.after z
    | .ok .next, z => exact False.elim z
    | .ok .brk, z => exact False.elim z
    | .ok .cont, z => exact False.elim z
  · exact h1.elim
/-- nothing is let out, of a def that may not; of a def that may, but does not here -/
theorem at0 (σ : L2.St) : PassesAt CX0 X σ ((fun _ => E0) σ) := fun _ _ _ _ _ _ h => h.elim
theorem atL (σ : L2.St) : PassesAt (L2.CX X.prog X.w) X σ ((fun _ => E0) σ) := fun _ _ _ _ _ _ h => by
  obtain ⟨_, _, _, _, _, _, _, _, _, _, _, _, z⟩ := h
  exact z.elim
/-- C(): the class under its name, its __init__ alone of self -/
structure Kn (P : Program) (w : World) (K : PySem.W.Frag) (mg : Str → Option Value) (base : Heap) (k : Nat) (x : Str) (C : Addr) (sp : Sp) : Prop where
  ex : ∃ f fd ps, Mk K C f ∧ FnOk P w K mg base CX0 k f fd ps sp ∧ mg x = some (.ref C) ∧ Binds K fd ps []
def tNew (C : Addr) (sp : Sp) : TE := fun _ H Q => ∀ a dx, H a = none → H dx = none → dx ≠ a → sp [.ref a] (upd (upd H dx (.own a)) a (.ins C dx [])) (fun v H2 => v = .non ∧ Q (.ref a) H2) E0
theorem pe_new0 {x : Str} {p : Pos} (c : Kn X.prog X.w X.K X.mg X.base k x C sp) (hr : Room (k + 1) X.A) (hg : Gl X x := by rfl) (hdb : (x == ("__debug__" : Str)) = false := by decide) : PE X (.Call (.Name x p) [] [] pos) (tNew C sp) := by
  obtain ⟨f, fd, ps, M, F, hm, b⟩ := c.ex
  refine pe_w (pe_make0 (E := E0) M F hr hg hm b .nil pass0 hdb) ?_
  intro σ H Q h a dx na nd ne
  exact h a dx na nd ne
end
/-! ### fields -/
section
variable {X : Cx} {C : Addr} {f : Str} {o e value : Expr} {pos pos' tpos : Pos} {ta tv : TE}
def tFdC (C : Addr) (ta : TE) (f : Str) : TE := fun σ H Q => ta σ H fun x H1 => match x with
  | .ref a => ∃ dx fs v, H1 a = some (.ins C dx fs) ∧ fs.lookup f = some v ∧ Q v H1
  | _ => False
theorem pe_fdC (c : Cls X.K C) (n : NoAttr X.K C f) (he : PE X e ta) (hb : attributeBase e f X.env (eval e X.env) = eval e X.env := by rfl) : PE X (.Attribute e f pos) (tFdC C ta f) :=
  pe_w (pe_fld (pe_mon he) hb) fun σ H Q h => ⟨_, h, fun x H1 h1 => by
    split at h1
    · obtain ⟨dx, fs, v, ea, l, q⟩ := h1
      exact ⟨_, C, dx, fs, v, rfl, ea, c, n, l, q⟩
    · exact h1.elim⟩
def sFdC (C : Addr) (ta tv : TE) (f : Str) : TS := fun D σ H => tv σ H fun y H1 => ta σ H1 fun x H2 => match x with
  | .ref a => ∃ dx fs, H2 a = some (.ins C dx fs) ∧ fs.length < 1000 ∧ ∀ H3, Wr H2 a (.ins C dx (putF f y fs)) H3 → D.nx σ H3
  | _ => False
theorem ps_fdC (c : Cls X.K C) (n : NoAttr X.K C f) (ha : PE X o ta) (hv : PE X value tv) (hs : swapsWith value (some (.Attribute o f pos')) pos.line X.env = pure false := by rfl) : PS X (.Assign [.Attribute o f pos'] value pos) (sFdC C ta tv f) :=
  ps_w (ps_fld (pe_mon ha) (pe_mon hv) hs) fun D σ H h => ⟨_, h, fun y H1 h1 => ⟨_, h1, fun x H2 h2 => by
    split at h2
    · obtain ⟨dx, fs, ea, l, q⟩ := h2
      exact ⟨_, C, dx, fs, rfl, ea, c, n, l, q _ wr⟩
    · exact h2.elim⟩⟩
def sFaC (C : Addr) (ta tv : TE) (rd : V → V → Hp → VK → Prop) (f : Str) : TS := fun D σ H => ta σ H fun x H1 => match x with
  | .ref a => ∃ dx fs v, H1 a = some (.ins C dx fs) ∧ fs.lookup f = some v ∧ tv σ H1 fun y H2 => rd v y H2 fun z H3 => ∃ dx' fs', H3 a = some (.ins C dx' fs') ∧ fs'.length < 1000 ∧ ∀ H4, Wr H3 a (.ins C dx' (putF f z fs')) H4 → D.nx σ H4
  | _ => False
end
section
variable {X : Cx} {C : Addr} {f : Str} {o value : Expr} {pos tpos : Pos} {ta tv : TE}
theorem inop_mon {op : Operator} {rd : V → V → Hp → VK → Prop} (h : InOp X op rd) : InOp X op (fun x y H Q => ∃ Q0 : VK, rd x y H Q0 ∧ ∀ z H1, Q0 z H1 → Q z H1) := fun pins s σ H x y u v Q I rx ry ⟨Q0, q, i⟩ =>
  thn (h pins s σ H x y u v Q0 I rx ry q) fun w s' ⟨z, H', J, r, q'⟩ => ⟨z, H', J, r, i z H' q'⟩
theorem ps_faC {op : Operator} {rd : V → V → Hp → VK → Prop} (c : Cls X.K C) (n : NoAttr X.K C f) (ha : PE X o ta) (hv : PE X value tv) (hop : InOp X op rd) : PS X (.AugAssign (.Attribute o f tpos) op value pos) (sFaC C ta tv rd f) :=
  ps_w (ps_fldaug (pe_mon ha) (pe_mon hv) (inop_mon hop)) fun D σ H h => ⟨_, h, fun x H1 h1 => by
    split at h1
    · obtain ⟨dx, fs, v, ea, l, q⟩ := h1
      exact ⟨_, C, dx, fs, v, rfl, ea, c, n, l, _, q, fun y H2 q2 => ⟨_, q2, fun z H3 q3 => by
        obtain ⟨dx', fs', e3, l3, q3⟩ := q3
        exact ⟨dx', fs', e3, l3, q3 _ wr⟩⟩⟩
    · exact h1.elim⟩
end
/-! ### dicts -/
section
variable {X : Cx} {o i e f : Expr} {td ty tx : TE} {pos apos cpos : Pos}
def tDG (td ty : TE) : TE := fun σ H Q => td σ H fun x H1 => match x with
  | .ref a => (∃ kvs, H1 a = some (.dK kvs)) ∧ ty σ H1 fun y H2 => ∃ kvs k v, H2 a = some (.dK kvs) ∧ y = kV k ∧ valV kvs k = some v ∧ Q v H2
  | _ => False
theorem pe_dg (hu : X.A.units + 1 < cLine) (ho : PE X o td) (hi : PE X i ty) (hs : NoSl i) : PE X (.Subscript o i pos) (tDG td ty) :=
  pe_w (pe_dget hu (pe_mon ho) (pe_mon hi) hs) fun σ H Q h => ⟨_, h, fun x H1 h1 => by
    split at h1
    · obtain ⟨⟨kvs, e⟩, q⟩ := h1
      exact ⟨_, q, fun y H2 q2 => by
        obtain ⟨kvs2, k, v, e2, rfl, hv, q2⟩ := q2
        exact ⟨_, v, rfl, hv ▸ DGet.k e2, q2⟩⟩
    · exact h1.elim⟩
def tDG2 (td ty tx : TE) : TE := fun σ H Q => td σ H fun x H1 => match x with
  | .ref a => (∃ kvs, H1 a = some (.dK kvs)) ∧ ty σ H1 fun y H2 => tx σ H2 fun z H3 => ∃ kvs k, H3 a = some (.dK kvs) ∧ y = kV k ∧ Q ((valV kvs k).getD z) H3
  | _ => False
theorem pe_dg2 (hu : X.A.units + 1 < cLine) (ho : PE X o td) (he : PE X e ty) (hf : PE X f tx) (m : M2 X o "get" apos e f cpos) : PE X (.Call (.Attribute o "get" apos) [e, f] [] cpos) (tDG2 td ty tx) :=
  pe_w (pe_dget2 hu (pe_mon ho) (pe_mon he) (pe_mon hf) m) fun σ H Q h => ⟨_, h, fun x H1 h1 => by
    split at h1
    · obtain ⟨⟨kvs, e⟩, q⟩ := h1
      exact ⟨_, rfl, .inl ⟨kvs, .inl e⟩, _, q, fun y H2 q2 => ⟨_, q2, fun z H3 q3 => by
        obtain ⟨kvs2, k, e3, rfl, q3⟩ := q3
        exact ⟨_, DGet.k e3, q3⟩⟩⟩
    · exact h1.elim⟩
def zInD (neg : Bool) : R2 := fun x y H Q => match y with
  | .ref a => ∃ kvs k, H a = some (.dK kvs) ∧ x = kV k ∧ Q (.bl (neg ^^ (valV kvs k).isSome)) H
  | _ => False
theorem o_inZ (hu : X.A.units + 1 < cLine) : OpR X (compareOp .In) (zInD false) := by
  intro pins s σ H x y v u Q I rx ry h
  unfold zInD at h
  split at h
  · obtain ⟨kvs, k, e, rfl, q⟩ := h
    cases ry
    exact d_in hu I (DGet.k e) rx fun s' J => ⟨.bl _, H, J, rfl, by simpa using q⟩
  · exact h.elim
theorem o_ninZ (hu : X.A.units + 1 < cLine) : OpR X (compareOp .NotIn) (zInD true) := by
  intro pins s σ H x y v u Q I rx ry h
  unfold zInD at h
  split at h
  · obtain ⟨kvs, k, e, rfl, q⟩ := h
    cases ry
    exact d_notIn hu I (DGet.k e) rx fun s' J => ⟨.bl _, H, J, rfl, by simpa using q⟩
  · exact h.elim
def zListD : List V → Hp → VK → Prop := fun vs H Q => match vs with
  | [.ref a] => ∃ kvs, H a = some (.dK kvs) ∧ ∀ p H2, Nw H p (.lst (kvs.map fun kv => kV kv.1)) H2 → Q (.ref p) H2
  | _ => False
theorem c_listD (hc : X.calm = true) : CallR X (.type "list") zListD := callr_w (call_listD hc) fun vs H Q h => by
  unfold zListD at h
  split at h
  · obtain ⟨kvs, e, q⟩ := h
    exact ⟨_, kvs, rfl, .inl e, fun p hp => q p _ (nw hp)⟩
  · exact h.elim
def zSortS (K : PySem.W.Frag) : List V → Hp → VK → Prop := fun vs H Q => match vs with
  | [.ref a] => ∃ xs : List Str, SqL K H a (xs.map V.str) ∧ xs.length < 64 ∧ ∀ (ys : List Str) (p : Addr) (H2 : Hp), ys.Perm xs → sortedS ys = true → Nw H p (.lst (ys.map V.str)) H2 → Q (.ref p) H2
  | _ => False
theorem c_sortS : CallR X (.builtin "sorted") (zSortS X.K) := callr_w cr_sortedS fun vs H Q h => by
  unfold zSortS at h
  split at h
  · obtain ⟨xs, e, l, q⟩ := h
    exact ⟨_, xs, rfl, e, l, fun ys p a b hp => q ys p _ a b (nw hp)⟩
  · exact h.elim
theorem k_sortS (K : PySem.W.Frag) (hK : X.K = K := by rfl) : CallR X (.builtin "sorted") (zSortS K) := hK ▸ c_sortS
def tRv (K : PySem.W.Frag) (te : TE) : TE := fun σ H Q => te σ H fun x H1 => match x with
  | .ref a => ∃ xs, SqL K H1 a xs ∧ ∀ p H2, Nw H1 p (.lst xs.reverse) H2 → Q (.ref p) H2
  | _ => False
theorem pe_rv {k : Nat} {p1 p2 p3 : Pos} (K : PySem.W.Frag) (he : PE X e td) (hK : X.K = K := by rfl) : PE X (.Subscript e (.Slice none none (some (.UnaryOp .USub (.Constant (.int 1) k p1) p2)) p3) pos) (tRv K td) :=
  hK ▸ pe_w (pe_revL (pe_mon he)) fun σ H Q h => ⟨_, h, fun x H1 h1 => by
    split at h1
    · obtain ⟨xs, e, q⟩ := h1
      exact ⟨_, xs, rfl, e, fun p hp => q p _ (nw hp)⟩
    · exact h1.elim⟩
end
/-- an __init__ of self alone -/
theorem ini1 {P : Program} {w : World} {K : PySem.W.Frag} {mg : Str → Option Value} {base : Heap} {q : Str} {st : Stmt} {f : Addr} {fd : FuncData} {a : Str} {N : List Str} {k : Nat} {p : V → Hp → VK → XK → Prop} (F : Fun K "__init__" q st f fd) (S : FnScope N [a] (defScope st))
    (body : ∀ (cdv : Value) (A : Around) (outer : List Env) (s : Shared) (H : Hp) (u : V) (Q : VK) (E : XK), Room k (A.deeper (envOfC q (defScope st) s.heap.objs.size f cdv)) → p u H Q E →
      ∃ t, PSs (cxOf CX0 P w K mg base N q (defScope st) f cdv A outer s H E).nox (defBody st) t ∧ t { nx := fun _ H' => Q .non H', rt := Q } (start N [u]) H) : FnOk P w K mg base CX0 (k + 1) f fd [a] (sp1 p) := by
  refine F.ok S len1 ?_
  intro cdv A outer s H vs Q E hr h
  obtain ⟨u, rfl, h⟩ := sp1_of h
  exact body cdv A outer s H u Q E hr h

/-! ### a < b < c as a test, five parameters -/
section
variable {X : Cx} {ta tb tc : TE} {a b c : Expr} {pos : Pos}
theorem pt_chT {op op' : CmpOp} {r r' : R2} (ho : OpR X (compareOp op) r) (ho' : OpR X (compareOp op') r') (ha : PE X a ta) (hb : PE X b tb) (hc : PE X c tc) (hm : lastMarks [op, op'] [b, c] = false := by with_unfolding_all rfl) :
    PT X (.Compare a [op, op'] [b, c] pos) (tBz (tChZ r r' ta tb tc)) :=
  pt_w (pt_chain (opr_mon ho) (opr_mon ho') (pe_mon ha) (pe_mon hb) (pe_mon hc) hm) fun σ H Q h => ⟨_, h, fun x H1 h1 => ⟨_, h1, fun y H2 h2 => ⟨_, h2, fun z H3 h3 => by
    obtain ⟨k, e, h4⟩ := zB_of h3
    refine ⟨k, e, ?_⟩
    cases k with
    | false => exact zB_of h4
    | true => exact ⟨_, h4, fun w' H4 h5 => ⟨_, h5, fun z' H5 h6 => zB_of h6⟩⟩⟩⟩⟩
end
def sp5 (p : V → V → V → V → V → Hp → VK → XK → Prop) : Sp := fun vs H Q E => match vs with
  | [a, b, c, d, e] => p a b c d e H Q E
  | _ => False
theorem sp5_of {p : V → V → V → V → V → Hp → VK → XK → Prop} {vs : List V} {H : Hp} {Q : VK} {E : XK} (h : sp5 p vs H Q E) : ∃ a b c d e, vs = [a, b, c, d, e] ∧ p a b c d e H Q E := by
  unfold sp5 at h
  split at h
  · exact ⟨_, _, _, _, _, rfl, h⟩
  · exact h.elim
section
variable {P : Program} {w : World} {K : PySem.W.Frag} {mg : Str → Option Value} {base : Heap}
theorem ct5 {x : Str} {st : Stmt} {a b c d e : Str} {N : List Str} {k : Nat} {p : V → V → V → V → V → Hp → VK → XK → Prop} (D : Df K mg x st [a, b, c, d, e]) (S : FnScope N [a, b, c, d, e] (defScope st))
    (body : ∀ (f : Addr) (cdv : Value) (A : Around) (outer : List Env) (s : Shared) (H : Hp) (u v y z q : V) (Q : VK) (E : XK), Room k (A.deeper (envOfC x (defScope st) s.heap.objs.size f cdv)) → p u v y z q H Q E →
      ∃ t, PSs (cxOf CX0 P w K mg base N x (defScope st) f cdv A outer s H E).nox (defBody st) t ∧ t { nx := fun _ H' => Q .non H', rt := Q } (start N [u, v, y, z, q]) H) : Ct P w K mg base CX0 (k + 1) x [a, b, c, d, e] (sp5 p) := by
  obtain ⟨f, fd, F, hm, hb⟩ := D.ex
  refine ⟨f, fd, hm, F.kp, hb, F.ok S (fun vs H Q E h => ?_) (fun cdv A outer s H vs Q E hr h => ?_), fun_at F⟩
  · obtain ⟨u, v, y, z, q, rfl, _⟩ := sp5_of h
    rfl
  · obtain ⟨u, v, y, z, q, rfl, h⟩ := sp5_of h
    exact body f cdv A outer s H u v y z q Q E hr h
end
end Z

/-! C7: unpacking a list, enumerate of a list, != of two dicts, startswith. -/
namespace Z
open PySem PySem.Spec PyProof.Rows L2

section
variable {X : Cx} {pos : Pos}
def gLz (K : PySem.W.Frag) (n : Nat) (t : TGs) : TG := fun v σ H Q => match v with
  | .ref a => ∃ xs, SqL K H a xs ∧ xs.length = n ∧ t xs σ H Q
  | _ => False
theorem pg_lzK {es : List Expr} {k : Nat} {t : TGs} {n : Nat} (K : PySem.W.Frag) (hc : X.calm = true) (h : PGs X es t) (hK : X.K = K := by rfl) (hn : (assignEach es X.env).length = n := by rfl) (hst : (assignEach es X.env).findIdx? (·.1) = none := by rfl) :
    PG X (.Tuple es k pos) (gLz K n t) :=
  hK ▸ pg_w (pg_lst hc h hn hst) fun v σ H Q h => by
    unfold gLz at h
    split at h
    · obtain ⟨xs, h1, h2, q⟩ := h
      exact ⟨_, xs, rfl, h1, h2, q⟩
    · exact h.elim
end
/-- enumerate(list) -/
def iEnL (K : PySem.W.Frag) (ta : TA) : TI := fun σ H R => ta σ H fun vs H1 => match vs with
  | [.ref a] => (∃ xs, SqL K H1 a xs) ∧ R (Ite K a) H1
  | _ => False
theorem pi_enL {X : Cx} (K : PySem.W.Frag) {e : Expr} {ta : TA} {p pos tpos : Pos} {elts : List Expr} {kk : Nat} (hg : Gl X "enumerate") (hm : X.mg "enumerate" = none) (ha : PA X [e] ta) (hK : X.K = K := by rfl) (hs : starEach [e] X.env = [(false, eval e X.env)] := by rfl) :
    PI X (.Tuple elts kk tpos) (.Call (.Name "enumerate" p) [e] [] pos) (iEnL K ta) :=
  hK ▸ pi_w (pi_enum hg hm (pa_mon ha) hs) fun σ H R h => ⟨_, h, fun vs H1 h1 => by
    split at h1
    · obtain ⟨⟨xs, h2⟩, q⟩ := h1
      exact ⟨_, xs, rfl, h2, q⟩
    · exact h1.elim⟩
/-- for over a list with its places -/
theorem for_eL {K : PySem.W.Frag} {a : Addr} {items : List V} {g : TG} {tb : TS} {D : Ends} {σ : L2.St} {H : Hp} (Pv : Nat → L2.St → Hp → Prop) (h0 : Pv 0 σ H) (hS : ∀ i σ H, Pv i σ H → SqL K H a items)
    (hs : ∀ i x σ H T H2, items[i]? = some x → Pv i σ H → Nw H T (.tup [.int (i : Nat), x]) H2 → g (.ref T) σ H2 fun σ2 H3 => tb { D with nx := Pv (i + 1), ct := Pv (i + 1), bk := D.nx } σ2 H3) (hd : ∀ σ H, Pv items.length σ H → D.nx σ H) :
    ∃ W : Nat → Nat → L2.St → Hp → Prop, (∃ m, W 0 m σ H) ∧ ∀ i m σ H, W i m σ H →
      ((Ite K a).stop i H ∧ D.nx σ H) ∨ ((Ite K a).go i H ∧ ∃ N : L2.St → Hp → Prop, (∀ σ' H', N σ' H' → ∃ m', m' < m ∧ W (i + 1) m' σ' H') ∧ ∀ x H', (Ite K a).yld i H x H' → g x σ H' fun σ2 H2 => tb { D with nx := N, ct := N, bk := D.nx } σ2 H2) := by
  refine ⟨fun i m σ H => m = items.length - i ∧ i ≤ items.length ∧ Pv i σ H, ⟨_, rfl, Nat.zero_le _, h0⟩, ?_⟩
  rintro i m σ H ⟨rfl, hi, p⟩
  have s := hS i σ H p
  rcases Nat.lt_or_ge i items.length with hlt | hge
  · refine .inr ⟨⟨items, items[i], s, by simp [hlt]⟩, Pv (i + 1), fun σ' H' p' => ⟨items.length - (i + 1), by omega, rfl, hlt, p'⟩, fun x H' y => ?_⟩
    obtain ⟨T, x, rfl, hT, rfl, hx⟩ := y
    exact hs i x σ _ T _ (hx _ s) p (nw hT)
  · have e : i = items.length := Nat.le_antisymm hi hge
    subst e
    exact .inl ⟨⟨items, s, Nat.le_refl _⟩, hd σ H p⟩
/-- startswith -/
def zSw : Str → List V → Hp → VK → Prop := fun a xs H Q => match xs with
  | [.str b] => Q (.bl (Txt.startswith a b)) H
  | _ => False
theorem m_startswith {X : Cx} : MtR X "str.startswith" (ofS zSw) := mt_w mt_startswith fun x vs H Q ⟨a, e, h⟩ => by
  unfold zSw at h
  split at h
  · exact ⟨a, _, e, rfl, h⟩
  · exact h.elim
/-! ### d != e of two dicts that are equal -/
open PySem.W in
theorem nePairs {prog : Program} {w : World} {κ : Type} [DecidableEq κ] {knd : KeyKind prog w κ} {A : Around} {E : Value → Shared → Prop} {s : Shared} {a b : Addr} {us ws : List (κ × Value)} {r : Bool} {Q : Value → Shared → Prop} (m1 : (a == sysModules) = false) (m2 : (b == sysModules) = false)
    (d1 : s.heap.DictOf knd a us) (d2 : s.heap.DictOf knd b ws) (room : A.units < cLine) (all : us.length = ws.length → KeqHitsP prog w A.in1 s ws us r) (h : Q (.bool (!(us.length == ws.length && r))) s) : wpAny (model prog w) A (compareOp .NotEq (.ref a) (.ref b)) Q E s := by
  have t1 := d1.typeIs
  have t2 := d2.typeIs
  refine wpAny_richCompare_same_room (op := .NotEq) t1 t2 PySem.F.slot_dict_ne (wpAny_call_entry PySem.F.slot_dict_ne t1 PySem.F.entry_dict_ne ?_ (PySem.F.args_dict_ne_2 _ _)) room
  show wpAny _ _ (Builtin.Dict.dictSlotArgs "__ne__" ⟨[Value.ref a, Value.ref b], []⟩ >>= _) _ _ s
  apply wpAny_bind
  unfold Builtin.Dict.dictSlotArgs
  apply wpAny_bind
  refine wpAny_notOrdered_dict t1 ?_
  show wpAny _ _ (pure ((Value.ref a : Value), (Value.ref b : Value))) _ _ s
  apply wpAny_pure
  refine wpAny_bind (wpAny_isInstance (T := "dict") t2 PySem.F.sub_dict_dict ?_)
  simp only [Bool.not_true, Bool.false_eq_true, if_false]
  apply wpAny_bind
  apply wpAny_pure
  apply wpAny_bind
  apply wpAny_pure
  refine wpAny_bind (samePairsP m1 m2 d1 d2 all ?_)
  refine wpAny_pure ⟨_, rfl, ?_, ?_⟩
  · intro z
    cases z
  · simpa using h
def zNeD (K : PySem.W.Frag) : R2 := fun x y H Q => match x, y with
  | .ref a, .ref b => ∃ ks ls, H a = some (.dK ks) ∧ H b = some (.dK ls) ∧ ks.length = ls.length ∧ (∀ p ∈ ks, ∃ u, valV ls p.1 = some u ∧ EqV K H 5 p.2 u) ∧ Q (.bl false) H
  | _, _ => False
theorem o_neDD {X : Cx} (hu : X.A.units + 64 < cLine) : OpR X (compareOp .NotEq) (zNeD X.K) := by
  intro pins s σ H x y v u Q I rx ry h
  unfold zNeD at h
  split at h
  · obtain ⟨ks, ls, ha, hb, hl, hp, q⟩ := h
    cases rx
    cases ry
    obtain ⟨_, ya, va, ra, da⟩ := I.hok _ _ ha
    obtain ⟨_, yb, vb, rb, db⟩ := I.hok _ _ hb
    have e : va.length = vb.length := by
      rw [← ra.length, ← rb.length]
      exact hl
    refine nePairs (knd := mixKind X.prog X.w) (r := true) ya yb da db (by omega) (fun _ => hits_run (eqV_run I 5 X.A.in1 (by show X.A.units + 1 + 5 < cLine; omega)) rb ra hp) ⟨.bl false, H, I, ?_, q⟩
    show Value.bool _ = Value.bool false
    rw [e]
    simp
  · exact h.elim
theorem k_neDD {X : Cx} (K : PySem.W.Frag) (hu : X.A.units + 64 < cLine) (hK : X.K = K := by rfl) : OpR X (compareOp .NotEq) (zNeD K) := hK ▸ o_neDD hu
section
variable {P : Program} {w : World} {K : PySem.W.Frag} {mg : Str → Option Value} {base : Heap}
theorem cg5 {x : Str} {st : Stmt} {a b c d e : Str} {N : List Str} {k : Nat} {p : V → V → V → V → V → Hp → VK → XK → Prop} (D : Df K mg x st [a, b, c, d, e]) (S : FnScope N [a, b, c, d, e] (defScope st))
    (body : ∀ (f : Addr) (cdv : Value) (A : Around) (outer : List Env) (s : Shared) (H : Hp) (u v v3 v4 v5 : V) (Q : VK) (E : XK), RoomG k (A.deeper (envOfC x (defScope st) s.heap.objs.size f cdv)) → p u v v3 v4 v5 H Q E →
      ∃ t, PSs (cxOf CX0 P w K mg base N x (defScope st) f cdv A outer s H E).nox (defBody st) t ∧ t { nx := fun _ H' => Q .non H', rt := Q } (start N [u, v, v3, v4, v5]) H) : Cg P w K mg base CX0 (k + 1) x [a, b, c, d, e] (sp5 p) := by
  obtain ⟨f, fd, F, hm, hb⟩ := D.ex
  refine ⟨f, fd, hm, F.kp, hb, fng F S (fun vs H Q E h => ?_) (fun cdv A outer s H vs Q E hr h => ?_), fun_at F⟩
  · obtain ⟨u, v, v3, v4, v5, rfl, _⟩ := sp5_of h
    rfl
  · obtain ⟨u, v, v3, v4, v5, rfl, h⟩ := sp5_of h
    exact body f cdv A outer s H u v v3 v4 v5 Q E hr h
end
end Z

/-! P8: raise C() of a class with nothing of its own; == of dicts; == and != of own objects; a list in texts. -/
namespace PySem.W
open PySem PySem.Spec PySem.Calls PyProof.Rows Builtin
section
variable {prog : Program} {w : World} {A : Around} {E : Value → Shared → Prop} {s : Shared} {K : Frag} {x C f : Addr} {ox : Obj} {od : Option Obj} {b tb : Value}
/-- a builtin that a class has under a special name -/
theorem ifBuiltin_K {M : Model} {name : Str} {id T : String} {args : List Value} {Q : Option Value → Shared → Prop} (X : K.In s.heap) (I : InstAt s.heap x ox C od) (hs : findIn K (.ref C) name = some (some (.builtin id))) (S : Slot T name id)
    (h : wpAny M A (call (.builtin id) (.ref x :: args)) (fun v => Q (some v)) E s) : wpAny M A (callSpecialIfBound? (.ref x) name args) Q E s := by
  simp only [callSpecialIfBound?, bindSpecialIfBound?]
  refine wpAny_holding (wpAny_bind (wpAny_bind (wpAny_bind (I.type.here ((looks_findIn X hs).here ?_)))))
  simp only [S.bind]
  refine wpAny_bind (wpAny_askSetting (wpAny_ite ?_))
  have fin : wpAny M A (call (.builtin id) ([.ref x] ++ args) >>= fun v => pure (some v)) Q E s := wpAny_bind (wpAny_mono h (fun v s' h' => wpAny_pure h') fun _ _ h' => h')
  split
  · exact wpAny_bind (wpAny_pure (wpAny_pure fin))
  · exact wpAny_tryCatch (wpAny_bind (wpAny_pure (wpAny_pure fin)))
theorem objNe_K {Q : Fin → Shared → Prop} (hu : A.units < cLine) (X : K.In s.heap) (I : InstAt s.heap x ox C od) (hs : findIn K (.ref C) "__eq__" = some (some (.ref f))) (hf : isFn K (.ref f) = true)
    (h : wpAny (model prog w) A (call (.ref f) [.ref x, b]) (fun v s' => ∃ k, v = .bool k ∧ Q (.done (.ret (.bool (!k)))) s') E s) : wpAny (model prog w) A (Builtin.«object.__ne__» ⟨[.ref x, b], []⟩) Q E s := by
  unfold Builtin.«object.__ne__»
  repeat (first
    | with_reducible refine wpAny_cRoomFor hu ?_
    | (refine wpAny_bind (m := callSpecialIfBound? (.ref x) (Str.ofString "__eq__") [b])
        (ifBound_K X I hs hf (wpAny_mono h (fun r s' hr => by
          obtain ⟨b, rfl, hq⟩ := hr
          repeat (first | exact hq | exact wpAny_pure hq | exact wpAny_truthy_bool hq | (refine wpAny_bind (m := truthy (.bool _)) (wpAny_truthy_bool ?_)) | wp_step)) fun _ _ e => e)))
    | wp_step)
theorem ne_own_K {Q : Value → Shared → Prop} (hu : A.units + 1 < cLine) (X : K.In s.heap) (I : InstAt s.heap x ox C od) (hb : Looks (model prog w) s.heap (typeOf b) tb) (hn : notFirst K C tb = true)
    (hne : findIn K (.ref C) "__ne__" = some (some (.builtin "object.__ne__"))) (hm : mroIn K C (.type "object") = some true) (hs : findIn K (.ref C) "__eq__" = some (some (.ref f))) (hf : isFn K (.ref f) = true)
    (h : wpAny (model prog w) A.in1 (call (.ref f) [.ref x, b]) (fun v s' => ∃ k, v = .bool k ∧ Q (.bool (!k)) s') E s) : wpAny (model prog w) A (richCompare .NotEq (.ref x) b) Q E s := by
  have one : wpAny (model prog w) A (tryCompare (.ref x) "__ne__" b) (fun r s' => ∃ k, r = some (.bool (!k)) ∧ Q (.bool (!k)) s') E s := by
    unfold tryCompare
    refine wpAny_bind (ifBuiltin_K X I hne PySem.F.slot_object_ne (wpAny_call (codeAny_call_builtin PySem.F.slot_object_ne.plain F.cmpEntry_ne ?_)))
    have inst : Looks (model prog w) s.heap (isInstance (.ref x) (.type "object")) true := I.type.andThen (looks_mroIn X hm)
    obtain ⟨hp, g, d, t, os⟩ := s
    refine @check_slot (model prog w) _ _ ⟨hp, g, d, t, os⟩ "object.__ne__" "object" "__ne__" (.ref x) [b] [] _ F.cmpKind_ne F.cmpSplit_ne inst (F.cmpArgs_ne _ _) ?_
    refine objNe_K (A := A.in1) hu X I hs hf (wpAny_mono h (fun v s' hv => ?_) fun _ _ e => e)
    obtain ⟨k, rfl, hq⟩ := hv
    first | exact ⟨k, rfl, wpAny_pure ⟨k, rfl, hq⟩⟩ | exact ⟨k, rfl, ⟨k, rfl, hq⟩⟩ | exact ⟨k, rfl, wpAny_pure (wpAny_pure ⟨k, rfl, hq⟩)⟩
  unfold richCompare
  simp only [oneThing_ref]
  refine wpAny_holding (wpAny_bind (wpAny_cRoomFor (by omega) ?_))
  rw [cmpInfo_NotEq]
  dsimp only
  refine wpAny_bind (I.type.here (wpAny_bind (hb.here ?_)))
  split
  · rename_i q
    have e : subIn K tb (.ref C) = some false := by
      rcases Bool.or_eq_true_iff.mp hn with e | e
      · rw [beq_iff_eq.mp e] at q; simp at q
      · exact beq_iff_eq.mp e
    refine wpAny_bind ((looks_subIn X e).here ?_)
    simp only [Bool.false_eq_true, if_false]
    refine wpAny_bind (wpAny_mono one (fun r s' z => ?_) fun _ _ e => e)
    obtain ⟨v, rfl, hq⟩ := z
    exact wpAny_pure hq
  · refine wpAny_bind (wpAny_pure ?_)
    simp only [Bool.false_eq_true, if_false]
    refine wpAny_bind (wpAny_mono one (fun r s' z => ?_) fun _ _ e => e)
    obtain ⟨v, rfl, hq⟩ := z
    exact wpAny_pure hq
end
end PySem.W
namespace Z
open PySem PySem.Spec PyProof.Rows L2
/-! ### raise C() -/
/-- an error's class with nothing of its own -/
structure Er0 (K : PySem.W.Frag) (mg : Str → Option Value) (x : Str) (C : Addr) : Prop where
  name : mg x = some (.ref C)
  q : PySem.W.excIn K C tailE "Exception.__new__" = true
  kC : PySem.W.keepIn K (.ref C) = true
  exC : PySem.W.subIn K (.ref C) (.type "BaseException") = some true
  tyC : PySem.W.typeIn K (.ref C) = some (.type "type")
theorem pmk_none {X : Cx} {x : Str} {C : Addr} {p pos : Pos} (R : Er0 X.K X.mg x C) (hg : Gl X x := by rfl) (hdb : (x == ("__debug__" : Str)) = false := by decide) : PMk X (.Call (.Name x p) [] [] pos) (fun _ H Q => Q (.ref C) none H) := by
  intro pins s σ H Q I h
  refine wpAny_Call_Name_kw (ld_glob I hg R.name ?_ hdb)
  refine PySem.W.callWith_K0 (first := []) I.kIn R.kC ?_
  obtain ⟨hp, g, d, t, os⟩ := s
  show wpAny _ _ (call (.ref C) []) _ _ _
  obtain ⟨bm, N, nm, qn, bs, hdct, sn, sub, ab, col, dd, k0, k1, k2, k3, k5, mN, hC, hN, hni, T⟩ := exc_obj I.kIn R.q
  refine wpAny_call_exc_subT PySem.F.excBase_Exception T hC hN hni (fun h' e hm => ?_) (by show 0 ≤ sizeLine; exact Nat.zero_le _)
  exact mk_of I hm (raises_own R.exC R.tyC) h (I.hok.gone hm.new)
def tRz0 (C : Addr) (W : WX) : TS := fun _ σ H => W (.ref C) none σ H
theorem ps_rz0 {X : Cx} {W : WX} {x : Str} {C : Addr} {p p2 pos : Pos} (hc : X.calm = true) (tk : Takes X W) (R : Er0 X.K X.mg x C) (hg : Gl X x := by rfl) (hdb : (x == ("__debug__" : Str)) = false := by decide) :
    PS X (.Raise (some (.Call (.Name x p) [] [] p2)) none pos) (tRz0 C W) := ps_raise hc tk (pmk_none R hg hdb)
/-- an error of the class x, with nothing in it, leaves -/
def Rz0 (K : PySem.W.Frag) (x : Str) (H : Hp) (E : XK) : Prop := ∀ C H2, clsAt K x C → Same H H2 → E (.ref C) none H2
/-! ### own == -/
section
variable {X : Cx} {C : Addr} {k : Nat} {sp : Sp}
/-- what stands to the right: a thing of a built-in kind, or one of the class -/
def RightV (K : PySem.W.Frag) (H : Hp) (C : Addr) (y : V) : Prop := (∃ t, KindV K H y t) ∨ ∃ b dx fs, y = .ref b ∧ H b = some (.ins C dx fs)
theorem right_looks {pins : List (Addr × Obj)} {σ : L2.St} {H : Hp} {s : Shared} {y : V} {u : Value} (I : Inv X pins σ H s) (r : RelV y u) (h : RightV X.K H C y) : ∃ t, PySem.W.Looks (model X.prog X.w) s.heap (typeOf u) t ∧ PySem.W.notFirst X.K C t = true := by
  rcases h with ⟨t, h⟩ | ⟨b, dx, fs, rfl, hb⟩
  · obtain ⟨h1, h2⟩ := h.tyx
    obtain ⟨P, kx, p, _⟩ := kit_of I r h1
    refine ⟨_, kx.ty _ _ I.kIn p, ?_⟩
    have nc : ∀ T ∈ ["NoneType", "bool", "int", "str", "list", "tuple", "dict"], PySem.W.subIn X.K (.type T) (.ref C) = some false := by
      intro T hT
      simp only [List.mem_cons, List.not_mem_nil, or_false] at hT
      rcases hT with rfl | rfl | rfl | rfl | rfl | rfl | rfl <;> rfl
    show (_ || PySem.W.subIn X.K (.type t) (.ref C) == some false) = true
    rw [nc t h2, Bool.or_eq_true]
    exact .inr rfl
  · cases r
    obtain ⟨mB, J, _⟩ := ins_get I.hok hb
    obtain ⟨od, J, _⟩ := J.look
    refine ⟨_, J.type, ?_⟩
    show (Value.ref C == Value.ref C || _) = true
    rw [beq_self_eq_true, Bool.true_or]
def zOwn (K : PySem.W.Frag) (C : Addr) (sp : Sp) (neg : Bool) : R2 := fun x y H Q => match x with
  | .ref a => (∃ dx fs, H a = some (.ins C dx fs)) ∧ RightV K H C y ∧ sp [.ref a, y] H (fun v H2 => ∃ b, v = .bl b ∧ Q (.bl (neg ^^ b)) H2) E0
  | _ => False
/-- what is said of the class whose == is its own -/
structure OwnC (K : PySem.W.Frag) (C f : Addr) : Prop where
  eq : PySem.W.findIn K (.ref C) "__eq__" = some (some (.ref f))
  fn : PySem.W.isFn K (.ref f) = true
  ne : PySem.W.findIn K (.ref C) "__ne__" = some (some (.builtin "object.__ne__"))
  ob : PySem.W.mroIn K C (.type "object") = some true
theorem own_run {pins : List (Addr × Obj)} {σ : L2.St} {H : Hp} {s : Shared} {A : Around} {vs : List V} {us : List Value} {f : Addr} {fd : FuncData} {ps : List Str} {Q : VK} (F : FnOk X.prog X.w X.K X.mg X.base CX0 k f fd ps sp) (hb : Binds X.K fd ps []) (hr : Room k A) (fr : A.frames = X.A.frames) (I : Inv X pins σ H s) (r : Vals vs us) (h : sp vs H Q E0) :
    wpAny (model X.prog X.w) A (call (.ref f) us) (fun v s' => EP X pins σ Q v s') X.xe s := by
  have e0 : Env0 X.prog X.w X.K X.mg X.base A X.stack s H := by
    have e := I.env0
    exact ⟨by rw [fr]; exact e.frames, e.mod, e.bs, e.bsz, e.funs, e.frf, e.hok, e.bare⟩
  have hl : us.length = ps.length := r.length.symm.trans (F.len _ _ _ _ h)
  refine wpAny_call (codeAny_mono (F.run A X.stack s H ⟨us, []⟩ us vs _ E0 hr e0 (by
    have := hb s us I.kIn (by simpa using hl)
    simpa using this) r h) fun rr s' hq => ?_)
  cases rr with
  | error e => exact (show False from hq).elim
  | ok fl =>
    cases fl with
    | ret w => exact I.after hq
    | next => exact False.elim hq
    | brk => exact False.elim hq
    | cont => exact False.elim hq
theorem o_ownEq {f : Addr} {fd : FuncData} {ps : List Str} (F : FnOk X.prog X.w X.K X.mg X.base CX0 k f fd ps sp) (hb : Binds X.K fd ps []) (O : OwnC X.K C f) (hr : Room k X.A) : OpR X (compareOp .Eq) (zOwn X.K C sp false) := by
  intro pins s σ H x y v u Q I rx ry h
  unfold zOwn at h
  split at h
  · rename_i a
    obtain ⟨⟨dx, fs, ha⟩, hR, h⟩ := h
    obtain ⟨t, lt, nf⟩ := right_looks I ry hR
    cases rx
    obtain ⟨mA, J, _⟩ := ins_get I.hok ha
    obtain ⟨od, J, _⟩ := J.look
    obtain ⟨m, hF⟩ := I.fr
    show wpAny (model X.prog X.w) X.A (richCompare .Eq _ _) _ _ _
    refine PySem.W.cmp_K (op := .Eq) hr.units0 hF I.ok.mod.kin J lt nf O.eq O.fn ?_
    refine thn (own_run (vs := [V.ref a, y]) (us := [Value.ref a, u]) F hb hr rfl I (.cons (show RelV (.ref a) (.ref a) from rfl) (.cons ry .nil)) h) fun w s' z => ?_
    obtain ⟨z, H', I', rz, b, rfl, q⟩ := z
    cases rz
    exact ⟨.bl b, H', I', rfl, by simpa using q⟩
  · exact h.elim
theorem o_ownNe {f : Addr} {fd : FuncData} {ps : List Str} (F : FnOk X.prog X.w X.K X.mg X.base CX0 k f fd ps sp) (hb : Binds X.K fd ps []) (O : OwnC X.K C f) (hr : Room (k + 1) X.A) : OpR X (compareOp .NotEq) (zOwn X.K C sp true) := by
  intro pins s σ H x y v u Q I rx ry h
  unfold zOwn at h
  split at h
  · rename_i a
    obtain ⟨⟨dx, fs, ha⟩, hR, h⟩ := h
    obtain ⟨t, lt, nf⟩ := right_looks I ry hR
    cases rx
    obtain ⟨mA, J, _⟩ := ins_get I.hok ha
    obtain ⟨od, J, _⟩ := J.look
    show wpAny (model X.prog X.w) X.A (richCompare .NotEq _ _) _ _ _
    refine PySem.W.ne_own_K (by have := hr.units; omega) I.kIn J lt nf O.ne O.ob O.eq O.fn ?_
    refine thn (own_run (vs := [V.ref a, y]) (us := [Value.ref a, u]) F hb hr.in1 rfl I (.cons (show RelV (.ref a) (.ref a) from rfl) (.cons ry .nil)) h) fun w s' z => ?_
    obtain ⟨z, H', I', rz, b, rfl, q⟩ := z
    cases rz
    exact ⟨b, rfl, .bl (!b), H', I', rfl, by simpa using q⟩
  · exact h.elim
end
end Z
namespace Z
open PySem PySem.Spec PyProof.Rows L2
/-! ### == of dicts -/
/-- whether two values are equal: flat ones, or lists as data -/
def EqB (K : PySem.W.Frag) (H : Hp) (v y : V) (e : Bool) : Prop := (flatV v = true ∧ flatV y = true ∧ e = eqV v y) ∨
  ∃ (a b : Addr) (d d' : PyData), v = .ref a ∧ y = .ref b ∧ Dp K H v d ∧ Dp K H y d' ∧ d.canLay0 = true ∧ d'.canLay0 = true ∧ d.depth ≤ 5 ∧ e = PyData.eqv d d' ∧ (a = b → d = d')
inductive HitsV (E : V → V → Bool → Prop) (ls : List (Key × V)) : List (Key × V) → Bool → Prop
  | nil : HitsV E ls [] true
  | miss {k : Key} {v : V} {r : List (Key × V)} : valV ls k = none → HitsV E ls ((k, v) :: r) false
  | hit {k : Key} {v y : V} {e b : Bool} {r : List (Key × V)} : valV ls k = some y → E v y e → HitsV E ls r b → HitsV E ls ((k, v) :: r) (e && b)
section
variable {X : Cx} {pins : List (Addr × Obj)} {σ : L2.St} {H : Hp} {s : Shared}
theorem eqB_run (I : Inv X pins σ H s) {A : Around} (hu : A.units + 10 < cLine) {x y : V} {v u : Value} {e : Bool} (h : EqB X.K H x y e) (rx : RelV x v) (ry : RelV y u) : SeqAt.EqP X.prog X.w A s v u e := by
  rcases h with ⟨f, g, rfl⟩ | ⟨a, b, d, d', rfl, rfl, hd, hd', c, c', dp, rfl, same⟩
  · exact (eqAt_V rx ry f g).eqP
  · obtain ⟨as, r1⟩ := Dp.reads I d _ v hd rx
    obtain ⟨bs, r2⟩ := Dp.reads I d' _ u hd' ry
    cases rx
    cases ry
    by_cases z : a = b
    · obtain rfl := same z
      subst z
      rw [SeqAt.eqv_refl d c]
      exact (SeqAt.EqAt.same _).eqP
    · refine SeqAt.eqP_refs z fun E Q q => ?_
      show wpAny _ _ (compareOp .Eq _ _) _ _ _
      exact SeqAt.compareEq_reads r1 r2 c c' (by have := Nat.min_le_left d.depth d'.depth; omega) q
theorem hitsV_run {P : Program} {w : World} {A : Around} {E : V → V → Bool → Prop} (ih : ∀ x y v u e, E x y e → RelV x v → RelV y u → SeqAt.EqP P w A s v u e) {ls : List (Key × V)} {vb : List (Key × Value)} (rb : KV ls vb) {ks : List (Key × V)} {va : List (Key × Value)}
    (ra : KV ks va) {r : Bool} : HitsV E ls ks r → PySem.W.KeqHitsP P w A s vb va r := by
  unfold KV at ra
  induction ra generalizing r with
  | nil =>
    intro h
    cases h
    exact .nil
  | @cons p q ps qs h t k =>
    intro hp
    obtain ⟨key, v⟩ := q
    obtain ⟨pk, pv⟩ := p
    obtain ⟨h1, h2⟩ := h
    have h1 : pk = key := h1
    subst h1
    cases hp with
    | miss hn =>
      have rr : RelO none (valueAt vb pk) := by rw [← hn]; exact rb.val pk
      refine .miss ?_
      cases e : valueAt vb pk with
      | none => rfl
      | some y =>
        rw [e] at rr
        exact rr.elim
    | @hit _ _ y0 _ _ _ hy he hr =>
      have rr : RelO (some y0) (valueAt vb pk) := by rw [← hy]; exact rb.val pk
      obtain ⟨y, hy', ry⟩ := rr.some_of
      exact .hit hy' (ih _ _ _ _ _ he h2 ry) (k hr)
end
def zEqDD (K : PySem.W.Frag) : R2 := fun x y H Q => match x, y with
  | .ref a, .ref b => ∃ ks ls r, H a = some (.dK ks) ∧ H b = some (.dK ls) ∧ (ks.length = ls.length → HitsV (EqB K H) ls ks r) ∧ Q (.bl (ks.length == ls.length && r)) H
  | _, _ => False
theorem o_eqDD {X : Cx} (hu : X.A.units + 64 < cLine) : OpR X (compareOp .Eq) (zEqDD X.K) := by
  intro pins s σ H x y v u Q I rx ry h
  unfold zEqDD at h
  split at h
  · obtain ⟨ks, ls, r, ha, hb, hp, q⟩ := h
    cases rx
    cases ry
    obtain ⟨_, ya, va, ra, da⟩ := I.hok _ _ ha
    obtain ⟨_, yb, vb, rb, db⟩ := I.hok _ _ hb
    have e1 := ra.length
    have e2 := rb.length
    show wpAny (model X.prog X.w) X.A (richCompare .Eq _ _) _ _ _
    refine PySem.W.rcP_dicts (knd := mixKind X.prog X.w) (r := r) ya yb da db (by omega) (fun e => hitsV_run (fun _ _ _ _ _ h r1 r2 => eqB_run I (by show X.A.units + 1 + 10 < cLine; omega) h r1 r2) rb ra (hp (by omega))) _ _ ⟨.bl _, H, I, rfl, ?_⟩
    rw [← e1, ← e2]
    exact q
  · exact h.elim
theorem k_eqDD {X : Cx} (K : PySem.W.Frag) (hu : X.A.units + 64 < cLine) (hK : X.K = K := by rfl) : OpR X (compareOp .Eq) (zEqDD K) := hK ▸ o_eqDD hu
/-! ### in: a list among texts -/
def zInS (K : PySem.W.Frag) (neg : Bool) : R2 := fun x y H Q => match y with
  | .ref p => ∃ xs, SqL K H p xs ∧ ((flatV x = true ∧ xs.all flatV = true ∧ Q (.bl (neg ^^ inV x xs)) H) ∨ ∃ a ys, x = .ref a ∧ SqL K H a ys ∧ (∀ z ∈ xs, ∃ t, z = .str t) ∧ Q (.bl neg) H)
  | _ => False
theorem o_inS {X : Cx} (hu : X.A.units + 64 < cLine) : OpR X (compareOp .In) (zInS X.K false) := by
  intro pins s σ H x y v u Q I rx ry h
  unfold zInS at h
  split at h
  · obtain ⟨xs, hp, ⟨h2, h3, q⟩ | ⟨a, ys, rfl, ha, hs, q⟩⟩ := h
    · exact op_in_seq pins s σ H _ _ v u Q I rx ry ⟨_, xs, rfl, .inl hp, h2, h3, by simpa using q⟩
    · cases ry
      cases rx
      obtain ⟨its, r, pl, _⟩ := I.list hp
      obtain ⟨its2, _, pl2, _⟩ := I.list ha
      have all : ∀ {xs : List V} {its : List Value}, Vals xs its → (∀ z ∈ xs, ∃ t, z = .str t) → ∀ w ∈ its, ∃ b u, w = .str b u := by
        intro xs its r
        induction r with
        | nil => intro _ w hw; cases hw
        | cons h _ ih =>
          intro hs w hw
          rcases List.mem_cons.mp hw with rfl | hw
          · obtain ⟨t, rfl⟩ := hs _ List.mem_cons_self
            obtain ⟨tk, rfl⟩ := h
            exact ⟨_, _, rfl⟩
          · exact ih (fun z hz => hs z (List.mem_cons_of_mem _ hz)) w hw
      refine SeqAt.in_listAt (fun _ => false) pl.isList (fun w hw => ?_) ⟨.bl _, H, I, rfl, ?_⟩
      · obtain ⟨b, u, rfl⟩ := all r hs w (by simpa using hw)
        exact SeqAt.EqAt.str_list b u pl2.isList (by show X.A.units + 1 < cLine; omega)
      · rw [show its.toArray.any (fun _ => false) = false by simp]
        exact q
  · exact h.elim
theorem o_ninS {X : Cx} (hu : X.A.units + 64 < cLine) : OpR X (compareOp .NotIn) (zInS X.K true) := by
  intro pins s σ H x y v u Q I rx ry h
  unfold zInS at h
  split at h
  · obtain ⟨xs, hp, ⟨h2, h3, q⟩ | ⟨a, ys, rfl, ha, hs, q⟩⟩ := h
    · exact op_notIn_seq pins s σ H _ _ v u Q I rx ry ⟨_, xs, rfl, .inl hp, h2, h3, by simpa using q⟩
    · cases ry
      cases rx
      obtain ⟨its, r, pl, _⟩ := I.list hp
      obtain ⟨its2, _, pl2, _⟩ := I.list ha
      have all : ∀ {xs : List V} {its : List Value}, Vals xs its → (∀ z ∈ xs, ∃ t, z = .str t) → ∀ w ∈ its, ∃ b u, w = .str b u := by
        intro xs its r
        induction r with
        | nil => intro _ w hw; cases hw
        | cons h _ ih =>
          intro hs w hw
          rcases List.mem_cons.mp hw with rfl | hw
          · obtain ⟨t, rfl⟩ := hs _ List.mem_cons_self
            obtain ⟨tk, rfl⟩ := h
            exact ⟨_, _, rfl⟩
          · exact ih (fun z hz => hs z (List.mem_cons_of_mem _ hz)) w hw
      refine SeqAt.notIn_listAt (fun _ => false) pl.isList (fun w hw => ?_) ⟨.bl _, H, I, rfl, ?_⟩
      · obtain ⟨b, u, rfl⟩ := all r hs w (by simpa using hw)
        exact SeqAt.EqAt.str_list b u pl2.isList (by show X.A.units + 1 < cLine; omega)
      · rw [show its.toArray.any (fun _ => false) = false by simp]
        exact q
  · exact h.elim
theorem k_inS {X : Cx} (K : PySem.W.Frag) (hu : X.A.units + 64 < cLine) (hK : X.K = K := by rfl) : OpR X (compareOp .In) (zInS K false) := hK ▸ o_inS hu
theorem k_ninS {X : Cx} (K : PySem.W.Frag) (hu : X.A.units + 64 < cLine) (hK : X.K = K := by rfl) : OpR X (compareOp .NotIn) (zInS K true) := hK ▸ o_ninS hu
end Z
namespace Z
open PySem PySem.Spec PyProof.Rows L2
/-! ### for k in d -/
def iKz (td : TE) : TI := fun σ H R => td σ H fun x H1 => match x with
  | .ref d => ∃ o kvs, H1 d = some (.frz o (.dK kvs)) ∧ R (Itk d o kvs) H1
  | _ => False
theorem pi_kz {X : Cx} {tg e : Expr} {td : TE} (he : PE X e td) : PI X tg e (iKz td) := pi_w (pi_keys (pe_mon he)) fun σ H R h => ⟨_, h, fun x H1 h1 => by
  split at h1
  · obtain ⟨o, kvs, e, q⟩ := h1
    exact ⟨_, o, rfl, .inl ⟨kvs, e, q⟩⟩
  · exact h1.elim⟩
/-- the keys of a locked dict, each once -/
theorem for_k {d : Addr} {o : Obj} {kvs : List (Key × V)} {g : TG} {tb : TS} {D : Ends} {σ : L2.St} {H : Hp} (Pv : Nat → L2.St → Hp → Prop) (h0 : Pv 0 σ H) (hS : ∀ i σ H, Pv i σ H → H d = some (.frz o (.dK kvs)))
    (hs : ∀ i k v σ H, kvs[i]? = some (k, v) → Pv i σ H → g (kV k) σ H fun σ2 H3 => tb { D with nx := Pv (i + 1), ct := Pv (i + 1), bk := D.nx } σ2 H3) (hd : ∀ σ H, Pv kvs.length σ H → D.nx σ H) :
    ∃ W : Nat → Nat → L2.St → Hp → Prop, (∃ m, W 0 m σ H) ∧ ∀ i m σ H, W i m σ H →
      ((Itk d o kvs).stop i H ∧ D.nx σ H) ∨ ((Itk d o kvs).go i H ∧ ∃ N : L2.St → Hp → Prop, (∀ σ' H', N σ' H' → ∃ m', m' < m ∧ W (i + 1) m' σ' H') ∧ ∀ x H', (Itk d o kvs).yld i H x H' → g x σ H' fun σ2 H2 => tb { D with nx := N, ct := N, bk := D.nx } σ2 H2) := by
  refine ⟨fun i m σ H => m = kvs.length - i ∧ i ≤ kvs.length ∧ Pv i σ H, ⟨_, rfl, Nat.zero_le _, h0⟩, ?_⟩
  rintro i m σ H ⟨rfl, hi, p⟩
  have s := hS i σ H p
  rcases Nat.lt_or_ge i kvs.length with hlt | hge
  · refine .inr ⟨⟨s, hlt⟩, Pv (i + 1), fun σ' H' p' => ⟨kvs.length - (i + 1), by omega, rfl, hlt, p'⟩, fun x H' y => ?_⟩
    obtain ⟨rfl, k, v, hk, rfl⟩ := y
    exact hs i k v σ _ hk p
  · have e : i = kvs.length := Nat.le_antisymm hi hge
    subst e
    exact .inl ⟨⟨s, Nat.le_refl _⟩, hd σ H p⟩
/-- d[k] of a dict that may be locked -/
def tDGR (td ty : TE) : TE := fun σ H Q => td σ H fun x H1 => match x with
  | .ref a => (∃ kvs, Rd H1 a (.dK kvs)) ∧ ty σ H1 fun y H2 => ∃ kvs k v, Rd H2 a (.dK kvs) ∧ y = kV k ∧ valV kvs k = some v ∧ Q v H2
  | _ => False
theorem pe_dgR {X : Cx} {o i : Expr} {td ty : TE} {pos : Pos} (hu : X.A.units + 1 < cLine) (ho : PE X o td) (hi : PE X i ty) (hs : NoSl i) : PE X (.Subscript o i pos) (tDGR td ty) :=
  pe_w (pe_dget hu (pe_mon ho) (pe_mon hi) hs) fun σ H Q h => ⟨_, h, fun x H1 h1 => by
    split at h1
    · obtain ⟨⟨kvs, e⟩, q⟩ := h1
      exact ⟨_, q, fun y H2 q2 => by
        obtain ⟨kvs2, k, v, e2, rfl, hv, q2⟩ := q2
        exact ⟨_, v, rfl, .inl ⟨kvs2, k, e2, rfl, hv.symm⟩, q2⟩⟩
    · exact h1.elim⟩
/-- reversed(a list) -/
def iRz (K : PySem.W.Frag) (td : TE) : TI := fun σ H R => td σ H fun x H1 => match x with
  | .ref a => ∃ xs, SqL K H1 a xs ∧ R (Itv K a xs.length) H1
  | _ => False
theorem pi_revz {X : Cx} {tg e : Expr} {te : TE} {p pos : Pos} (K : PySem.W.Frag) (hg : Gl X "reversed") (hm : X.mg "reversed" = none) (he : PE X e te) (hK : X.K = K := by rfl) (hs : starEach [e] X.env = (false, eval e X.env) :: starEach [] X.env := by rfl) : PI X tg (.Call (.Name "reversed" p) [e] [] pos) (iRz K te) :=
  hK ▸ pi_w (RT.pi_revA hg hm (pe_mon he) hs) fun σ H R h => ⟨_, h, fun x H1 h1 => by
    split at h1
    · obtain ⟨xs, e, q⟩ := h1
      exact ⟨_, xs, rfl, .inl ⟨e, q⟩⟩
    · exact h1.elim⟩
/-! ### {k: v, ..} -/
def tDisz (trs : List (TE × TE)) : TE := fun σ H Q => ∀ p H1, Nw H p (.dK []) H1 → tPairs trs σ H1 fun ps H2 => H2 p = some (.dK []) ∧ ∃ kvs : List (Key × V), ps = kvs.map (fun kv => (kV kv.1, kv.2)) ∧ kvs.length ≤ 15 ∧ ∀ H3, Wr H2 p (.dK (mergeK [] kvs)) H3 → Q (.ref p) H3
theorem tPairs_mono : ∀ (trs : List (TE × TE)), (∀ t ∈ trs, (∃ a, t.1 = mon a) ∧ ∃ b, t.2 = mon b) → ∀ {σ : L2.St} {H : Hp} {Q R : List (V × V) → Hp → Prop}, (∀ ps H, Q ps H → R ps H) → tPairs trs σ H Q → tPairs trs σ H R
  | [], _, _, _, _, _, i, h => i _ _ h
  | (tk, tv) :: r, hm, σ, H, Q, R, i, h => by
    obtain ⟨⟨a, ea⟩, b, eb⟩ := hm _ List.mem_cons_self
    have ea : tk = mon a := ea
    have eb : tv = mon b := eb
    subst ea eb
    obtain ⟨Q0, q0, i0⟩ := h
    refine ⟨Q0, q0, fun x H1 h1 => ?_⟩
    obtain ⟨Q1, q1, i1⟩ := i0 x H1 h1
    refine ⟨Q1, q1, fun y H2 h2 => ?_⟩
    exact tPairs_mono r (fun t ht => hm t (List.mem_cons_of_mem _ ht)) (fun ps H hq => i _ _ hq) (i1 y H2 h2)
theorem pe_disz {X : Cx} {pos : Pos} {keys : List (Option Expr)} {values : List Expr} {trs : List (TE × TE)} (h : PPs X pos keys values trs) (hall : keys.all (·.isSome) = true) (hl : keys.length = values.length) (h0 : keys ≠ [])
    (h15 : keys.length ≤ 15) : PE X (.Dict keys values pos) (tDisz trs) := by
  refine ⟨fun pins s σ H Q I q => ?_⟩
  have hn := I.hok.fresh (Nat.le_refl s.heap.objs.size)
  have I1 := I.laid (a := s.heap.objs.size) (o := .dK []) (h' := s.heap.push { cls := .type "dict", data := .dict #[] }) (t' := s.toks) (fun _ _ q => Heap.get?_push_of_some _ q) (Nat.le_refl _) (dk_empty s.heap I.big)
  refine wpAny_Dict_walk (knd := mixKind X.prog X.w) hall hl h0 h15 (thn (h.run pins _ σ _ _ I1 (q _ _ (nw hn))) fun ws s2 ⟨ps, H2, I2, rel, e, kvs, ep, lk, q2⟩ => ?_)
  subst ep
  obtain ⟨rs, c, rk⟩ := carries_of (P := X.prog) (w := X.w) rel
  obtain ⟨z, hd, vs0, r0, dd⟩ := dk_of I2.hok e
  cases r0
  refine ⟨rs, c, dd, fun h' dd' hs => ⟨.ref s.heap.objs.size, _, ?_, rfl, q2 _ wr⟩⟩
  have hz : (mergeK [] kvs).length ≤ sizeLine := by
    have h1 := length_mergeK kvs []
    rw [List.length_nil] at h1
    rw [sizeLine_eq]; omega
  have he : ∃ q, h'.get? s.heap.objs.size = some q := let ⟨q, _, _, hq, _⟩ := dd'; ⟨q, hq⟩
  exact d_write I2 (by rw [e]; exact True.intro) hs he (dk_new hz hd (rk.merge .nil) dd')
/-! ### isinstance(x, C) of an own class -/
structure IsC (K : PySem.W.Frag) (C : Addr) : Prop where
  cl : Cls K C
  ha : PySem.W.findIn K (.ref C) "__class__" = some (some (.builtin "object.__class__"))
  hn : PySem.W.specialIn K (.builtin "object.__class__") "__get__" = some (some (.builtin "getset_descriptor.__get__"))
  ht : PySem.W.takesIn K (.builtin "object.__class__") = some true
  hm : PySem.W.mroIn K C (.type "object") = some true
  hd : PySem.W.hasDictIn K C = true
  ty : PySem.W.typeIn K (.ref C) = some (.type "type")
def zIsO (K : PySem.W.Frag) (C : Addr) : List V → Hp → VK → Prop := fun vs H Q => match vs with
  | [x, .ref c] => c = C ∧ ((∃ t, KindV K H x t ∧ Q (.bl false) H) ∨ ∃ b dx fs, x = .ref b ∧ H b = some (.ins C dx fs) ∧ Q (.bl true) H)
  | _ => False
theorem c_isO {X : Cx} {C : Addr} (S : IsC X.K C) : CallR X (.builtin "isinstance") (zIsO X.K C) := by
  intro pins s σ H xs us Q I r h
  unfold zIsO at h
  split at h
  · rename_i x c
    obtain ⟨rfl, ⟨t, hk, q⟩ | ⟨b, dx, fs, rfl, hb, q⟩⟩ := h
    · obtain ⟨h1, h2⟩ := hk.tyx
      have nc : ∀ T ∈ ["NoneType", "bool", "int", "str", "list", "tuple", "dict"], PySem.W.subIn X.K (.type T) (.ref c) = some false := by
        intro T hT
        simp only [List.mem_cons, List.not_mem_nil, or_false] at hT
        rcases hT with rfl | rfl | rfl | rfl | rfl | rfl | rfl <;> rfl
      have one : PySem.W.kitOne X.K (.type t) (.ref c) = some false := by
        obtain ⟨cd, hc, _⟩ := PySem.W.any_some S.hd
        have e2 : ((PySem.W.clsIn X.K c).isSome && PySem.W.typeIn X.K (.ref c) == some (.type "type")) = true := by rw [hc, S.ty] <;> rfl
        show (if ((PySem.W.clsIn X.K c).isSome && PySem.W.typeIn X.K (.ref c) == some (.type "type")) = true then PySem.W.subIn X.K (.type t) (.ref c) else none) = some false
        rw [if_pos e2]
        exact nc t h2
      exact call_isi pins s σ H _ us Q I r ⟨x, .ref c, .type t, .ref c, false, rfl, .own c, h1, one, q⟩
    · refine call_isi pins s σ H _ us Q I r ⟨.ref b, .ref c, .ref c, .ref c, true, rfl, .own c, .base (.ins hb S.cl S.ha S.hn S.ht S.hm), ?_, q⟩
      unfold PySem.W.kitOne
      rw [if_pos (beq_self_eq_true _)]
  · exact h.elim
/-- the own == of a class -/
structure OwnE (P : Program) (w : World) (K : PySem.W.Frag) (mg : Str → Option Value) (base : Heap) (k : Nat) (C : Addr) (sp : Sp) : Prop where
  ex : ∃ f fd ps, FnOk P w K mg base CX0 k f fd ps sp ∧ Binds K fd ps [] ∧ OwnC K C f
theorem Mt.own {P : Program} {w : World} {K : PySem.W.Frag} {mg : Str → Option Value} {base : Heap} {k : Nat} {C : Addr} {ps : List Str} {sp : Sp} (M : Mt P w K mg base CX0 k C "__eq__" ps sp) (ne : PySem.W.findIn K (.ref C) "__ne__" = some (some (.builtin "object.__ne__"))) (ob : PySem.W.mroIn K C (.type "object") = some true) :
    OwnE P w K mg base k C sp := by
  obtain ⟨f, fd, hc, hm, hb, F, _⟩ := M.ex
  exact ⟨f, fd, ps, F, hb, hm.at_, hm.fn, ne, ob⟩
theorem k_ownEq {X : Cx} {k : Nat} {C : Addr} {sp : Sp} (K : PySem.W.Frag) (O : OwnE X.prog X.w X.K X.mg X.base k C sp) (hr : Room k X.A) (hK : X.K = K := by rfl) : OpR X (compareOp .Eq) (zOwn K C sp false) := by
  obtain ⟨f, fd, ps, F, hb, O⟩ := O.ex
  exact hK ▸ o_ownEq F hb O hr
theorem k_ownNe {X : Cx} {k : Nat} {C : Addr} {sp : Sp} (K : PySem.W.Frag) (O : OwnE X.prog X.w X.K X.mg X.base k C sp) (hr : Room (k + 1) X.A) (hK : X.K = K := by rfl) : OpR X (compareOp .NotEq) (zOwn K C sp true) := by
  obtain ⟨f, fd, ps, F, hb, O⟩ := O.ex
  exact hK ▸ o_ownNe F hb O hr
end Z
namespace Z
open PySem PySem.Spec PyProof.Rows L2
theorem k_isO {X : Cx} {C : Addr} (K : PySem.W.Frag) (S : IsC K C) (hK : X.K = K := by rfl) : CallR X (.builtin "isinstance") (zIsO K C) := by
  subst hK
  exact c_isO S
end Z
namespace Z
open PySem PySem.Spec PyProof.Rows L2
section
variable {P : Program} {w : World} {K : PySem.W.Frag} {mg : Str → Option Value} {base : Heap}
theorem cg4 {x : Str} {st : Stmt} {a b c d : Str} {N : List Str} {k : Nat} {p : V → V → V → V → Hp → VK → XK → Prop} (D : Df K mg x st [a, b, c, d]) (S : FnScope N [a, b, c, d] (defScope st))
    (body : ∀ (f : Addr) (cdv : Value) (A : Around) (outer : List Env) (s : Shared) (H : Hp) (u v v3 v4 : V) (Q : VK) (E : XK), RoomG k (A.deeper (envOfC x (defScope st) s.heap.objs.size f cdv)) → p u v v3 v4 H Q E →
      ∃ t, PSs (cxOf CX0 P w K mg base N x (defScope st) f cdv A outer s H E).nox (defBody st) t ∧ t { nx := fun _ H' => Q .non H', rt := Q } (start N [u, v, v3, v4]) H) : Cg P w K mg base CX0 (k + 1) x [a, b, c, d] (sp4 p) := by
  obtain ⟨f, fd, F, hm, hb⟩ := D.ex
  refine ⟨f, fd, hm, F.kp, hb, fng F S (fun vs H Q E h => ?_) (fun cdv A outer s H vs Q E hr h => ?_), fun_at F⟩
  · obtain ⟨u, v, v3, v4, rfl, _⟩ := sp4_of h
    rfl
  · obtain ⟨u, v, v3, v4, rfl, h⟩ := sp4_of h
    exact body f cdv A outer s H u v v3 v4 Q E hr h
end
end Z

/-! M9: texts as lists of codes: signs, frames, their reading. -/
namespace M9
open PySem PySem.Spec PyProof.Rows L2 Z SX PySem.NumText

/-! ### signs -/
def Pr (l : List Nat) : Prop := ∀ c ∈ l, 32 ≤ c ∧ c ≤ 126
theorem pr_nil : Pr [] := fun _ h => by cases h
theorem pr_cons {c : Nat} {l : List Nat} (h : 32 ≤ c ∧ c ≤ 126) (t : Pr l) : Pr (c :: l) := fun d hd => by
  rcases List.mem_cons.mp hd with rfl | hd
  · exact h
  · exact t d hd
theorem pr_app {l m : List Nat} (a : Pr l) (b : Pr m) : Pr (l ++ m) := fun c hc => (List.mem_append.mp hc).elim (a c) (b c)
theorem pr_take {l : List Nat} (n : Nat) (a : Pr l) : Pr (l.take n) := fun c hc => a c (List.mem_of_mem_take hc)
theorem pr_drop {l : List Nat} (n : Nat) (a : Pr l) : Pr (l.drop n) := fun c hc => a c (List.mem_of_mem_drop hc)
theorem pr_rep {l : List Nat} (n : Nat) (a : Pr l) : Pr (List.replicate n l).flatten := fun c hc => by
  obtain ⟨m, hm, hc⟩ := List.mem_flatten.mp hc
  rw [(List.mem_replicate.mp hm).2] at hc
  exact a c hc
theorem pr_flat {ls : List (List Nat)} (a : ∀ l ∈ ls, Pr l) : Pr ls.flatten := fun c hc => by
  obtain ⟨m, hm, hc⟩ := List.mem_flatten.mp hc
  exact a m hm c hc
theorem pr_of {l : List Nat} (h : (l.all fun c => decide (32 ≤ c) && decide (c ≤ 126)) = true) : Pr l := fun c hc => by
  have q := (List.all_eq_true.mp h) c hc
  simpa using q
theorem printable_all : ∀ c : _root_.Fin 127, 32 ≤ c.val → Unicode.isPrintable c.val = true := by decide +kernel
theorem isascii_S {l : List Nat} (h : Pr l) : Txt.isascii (S l) = true := by
  show (l.toArray.all fun c => decide (c < 128)) = true
  rw [← Array.all_toList, List.all_eq_true]
  intro c hc
  have := h c (by simpa using hc)
  exact decide_eq_true (by omega)
theorem isprintable_S {l : List Nat} (h : Pr l) : Txt.isprintable (S l) = true := by
  show (l.toArray.all Unicode.isPrintable) = true
  rw [← Array.all_toList, List.all_eq_true]
  intro c hc
  have q := h c (by simpa using hc)
  exact printable_all ⟨c, by omega⟩ q.1
theorem S_lit {s : Str} {l : List Nat} (h : s.cps.toList = l) : s = S l := by
  rw [← h]
theorem length_S (l : List Nat) : (S l).length = l.length := S_len l
theorem cps_S (l : List Nat) : (S l).cps.toList = l := by simp [S]
theorem cut_S (l : List Nat) (lo hi : Option Int) : cutS (S l) lo hi = S ((l.drop (HT.sIx l.length 0 lo)).take (HT.sIx l.length l.length hi - HT.sIx l.length 0 lo)) := by
  unfold cutS
  rw [length_S]
theorem sIx_pos {n d : Nat} {i : Int} (h : 0 ≤ i) : HT.sIx n d (some i) = min i.toNat n := by
  show (if i < 0 then (i + (n : Int)).toNat else min i.toNat n) = min i.toNat n
  rw [if_neg (by omega)]
/-- l[a:b] for counts -/
theorem cut_nn {l : List Nat} {a b : Nat} : cutS (S l) (some (a : Int)) (some (b : Int)) = S ((l.drop a).take (b - a)) := by
  rw [cut_S, sIx_pos (by omega), sIx_pos (by omega), Int.toNat_natCast, Int.toNat_natCast]
  congr 1
  rcases Nat.le_total a l.length with h | h
  · rw [Nat.min_eq_left h]
    rcases Nat.le_total b l.length with h2 | h2
    · rw [Nat.min_eq_left h2]
    · rw [Nat.min_eq_right h2, List.take_of_length_le (by rw [List.length_drop]; omega), List.take_of_length_le (by rw [List.length_drop]; omega)]
  · rw [Nat.min_eq_right h, List.drop_of_length_le (Nat.le_refl _), List.drop_of_length_le h]
    simp
theorem cut_n {l : List Nat} {b : Nat} : cutS (S l) none (some (b : Int)) = S (l.take b) := by
  rw [cut_S, sIx_pos (by omega), Int.toNat_natCast]
  show S ((l.drop 0).take (min b l.length - 0)) = S (l.take b)
  rw [List.drop_zero, Nat.sub_zero]
  rcases Nat.le_total b l.length with h | h
  · rw [Nat.min_eq_left h]
  · rw [Nat.min_eq_right h, List.take_of_length_le (Nat.le_refl _), List.take_of_length_le h]
theorem cut_from {l : List Nat} {a : Nat} : cutS (S l) (some (a : Int)) none = S (l.drop a) := by
  rw [cut_S, sIx_pos (by omega), Int.toNat_natCast]
  show S ((l.drop (min a l.length)).take (l.length - min a l.length)) = S (l.drop a)
  rcases Nat.le_total a l.length with h | h
  · rw [Nat.min_eq_left h, List.take_of_length_le (by rw [List.length_drop]; omega)]
  · rw [Nat.min_eq_right h, List.drop_of_length_le (Nat.le_refl _), List.drop_of_length_le h]
    simp
theorem rep_S (l : List Nat) (n : Int) : rep (S l) n = S (List.replicate n.toNat l).flatten := by
  unfold rep
  rw [cps_S]
theorem rep_one (c : Nat) (n : Nat) : (List.replicate n [c]).flatten = List.replicate n c := by
  induction n with
  | zero => rfl
  | succ n ih => rw [List.replicate_succ, List.flatten_cons, ih]; rfl
theorem joinL_nil (ls : List (List Nat)) : TL.joinL [] ls = ls.flatten := by
  induction ls with
  | nil => rfl
  | cons a r ih =>
    cases r with
    | nil => simp [TL.joinL]
    | cons b r => rw [TL.joinL, ih]; simp
theorem join_flat {e : Str} (he : e = S []) (ls : List (List Nat)) : Txt.join e (ls.map S) = S ls.flatten := by
  rw [he, join_S, joinL_nil]

/-! ### frames -/
def frL (l : List Nat) : List Nat := List.replicate (5 - (TL.numL l.length).length) 48 ++ TL.numL l.length ++ [58] ++ l ++ [59]
theorem numL5 {n : Nat} (h : n < 100000) : (TL.numL n).length ≤ 5 ∧ 1 ≤ (TL.numL n).length := by
  refine ⟨TL.numL_len (by decide) (by simpa using h), ?_⟩
  rcases Nat.eq_zero_or_pos (TL.numL n).length with e | e
  · exact absurd (List.length_eq_zero_iff.mp e) (TL.numL_ne n)
  · exact e
theorem frL_len {l : List Nat} (h : l.length < 100000) : (frL l).length = l.length + 7 := by
  obtain ⟨h1, h2⟩ := numL5 h
  unfold frL
  simp only [List.length_append, List.length_replicate, List.length_singleton]
  omega
theorem numL_pr (n : Nat) : Pr (TL.numL n) := fun c hc => by
  have := TL.numL_digits n c hc
  omega
theorem frL_pr {l : List Nat} (h : Pr l) : Pr (frL l) := by
  unfold frL
  refine pr_app (pr_app (pr_app (pr_app (fun c hc => ?_) (numL_pr _)) (pr_of (by decide))) h) (pr_of (by decide))
  rw [(List.mem_replicate.mp hc).2]
  omega
/-- str(n).zfill(5) -/
theorem zfill_S {n : Nat} (h : n < 100000) : Txt.zfill (S (TL.numL n)) 5 = S (List.replicate (5 - (TL.numL n).length) 48 ++ TL.numL n) := by
  obtain ⟨h1, h2⟩ := numL5 h
  unfold Txt.zfill
  rw [length_S]
  by_cases h5 : (TL.numL n).length = 5
  · rw [if_pos (by omega), h5]
    rfl
  · rw [if_neg (by omega)]
    have e : (5 : Int).toNat - (TL.numL n).length = 5 - (TL.numL n).length := rfl
    rw [e]
    obtain ⟨c, r, hc⟩ : ∃ c r, TL.numL n = c :: r := by
      cases q : TL.numL n with
      | nil => exact absurd q (TL.numL_ne n)
      | cons c r => exact ⟨c, r, rfl⟩
    have hd := TL.numL_digits n c (by rw [hc]; exact List.mem_cons_self)
    unfold zfilled
    have e0 : (S (TL.numL n)).cps[0]? = some c := by
      rw [hc]
      simp [S]
    rw [e0]
    have pad : Builtin.Str.padded (S (TL.numL n)) (5 - (TL.numL n).length) 0 48 = S (List.replicate (5 - (TL.numL n).length) 48 ++ TL.numL n) := by
      unfold Builtin.Str.padded
      simp [S]
    split
    · rename_i q; cases q; omega
    · rename_i q; cases q; omega
    · exact pad

/-! ### reading frames -/
def digs (l : List Nat) : Bool := l.all fun c => decide (48 ≤ c) && decide (c ≤ 57)
/-- the number of a head -/
def headN (h : List Nat) : Option Nat := if h.length < 6 ∨ h[5]? ≠ some 58 ∨ digs (h.take 5) = false then none else some (digitsVal (h.take 5))
/-- the end of the frame that begins at i -/
def fEnd (l : List Nat) (i : Nat) : Option Nat := match headN ((l.drop i).take 6) with
  | none => none
  | some n => if n ≤ 80000 ∧ (l.drop (i + 6 + n)).take 1 = [59] then some (i + 6 + n + 1) else none
theorem take1 {l : List Nat} {i c : Nat} (h : (l.drop i).take 1 = [c]) : i < l.length ∧ l[i]? = some c := by
  have hl : i < l.length := by
    rcases Nat.lt_or_ge i l.length with q | q
    · exact q
    · rw [List.drop_of_length_le q] at h
      cases h
  rw [List.drop_eq_getElem_cons hl] at h
  have h2 : [l[i]] = [c] := h
  refine ⟨hl, ?_⟩
  rw [List.getElem?_eq_getElem hl]
  cases h2
  rfl
theorem fEnd_bounds {l : List Nat} {i e : Nat} (h : fEnd l i = some e) : i + 7 ≤ e ∧ e ≤ l.length := by
  unfold fEnd at h
  split at h
  · cases h
  · split at h
    · rename_i q
      cases h
      obtain ⟨h1, _⟩ := take1 q.2
      omega
    · cases h
def scan : Nat → List Nat → Nat → List (List Nat) × Nat
  | 0, _, i => ([], i)
  | f + 1, l, i => match fEnd l i with
    | none => ([], i)
    | some e => ((l.drop (i + 6)).take (e - 1 - (i + 6)) :: (scan f l e).1, (scan f l e).2)
theorem scan_stable : ∀ (f f' : Nat) (l : List Nat) (i : Nat), l.length + 1 ≤ i + f → l.length + 1 ≤ i + f' → scan f l i = scan f' l i
  | 0, 0, _, _, _, _ => rfl
  | 0, f' + 1, l, i, h, _ => by
    unfold scan
    cases q : fEnd l i with
    | none => rfl
    | some e => have := fEnd_bounds q; omega
  | f + 1, 0, l, i, _, h => by
    unfold scan
    cases q : fEnd l i with
    | none => rfl
    | some e => have := fEnd_bounds q; omega
  | f + 1, f' + 1, l, i, h, h' => by
    unfold scan
    cases q : fEnd l i with
    | none => rfl
    | some e =>
      have := fEnd_bounds q
      simp only
      rw [scan_stable f f' l e (by omega) (by omega)]
/-- the frames from i on -/
def sc (l : List Nat) (i : Nat) : List (List Nat) × Nat := scan (l.length + 1) l i
theorem sc_none {l : List Nat} {i : Nat} (h : fEnd l i = none) : sc l i = ([], i) := by
  unfold sc scan
  rw [h]
theorem sc_some {l : List Nat} {i e : Nat} (h : fEnd l i = some e) : sc l i = ((l.drop (i + 6)).take (e - 1 - (i + 6)) :: (sc l e).1, (sc l e).2) := by
  have b := fEnd_bounds h
  have e1 : scan l.length l e = scan (l.length + 1) l e := scan_stable _ _ _ _ (by omega) (by omega)
  show scan (l.length + 1) l i = _
  rw [scan, h]
  simp only
  rw [e1]
  rfl
theorem sc_le : ∀ (f : Nat) (l : List Nat) (i : Nat), i ≤ l.length → i ≤ (scan f l i).2 ∧ (scan f l i).2 ≤ l.length ∧ (scan f l i).1.length * 7 + i ≤ (scan f l i).2
  | 0, l, i, h => ⟨Nat.le_refl _, h, by simp [scan]⟩
  | f + 1, l, i, h => by
    unfold scan
    cases q : fEnd l i with
    | none => exact ⟨Nat.le_refl _, h, by simp⟩
    | some e =>
      have b := fEnd_bounds q
      have r := sc_le f l e b.2
      refine ⟨by simp only; omega, r.2.1, ?_⟩
      simp only [List.length_cons]
      omega
theorem sc_bounds {l : List Nat} {i : Nat} (h : i ≤ l.length) : i ≤ (sc l i).2 ∧ (sc l i).2 ≤ l.length ∧ (sc l i).1.length * 7 + i ≤ (sc l i).2 := sc_le _ l i h
theorem digitsVal_lt : ∀ (l : List Nat), digs l = true → digitsVal l < 10 ^ l.length := by
  intro l
  have gen : ∀ (l : List Nat) (a k : Nat), digs l = true → a < 10 ^ k → l.foldl (fun acc c => acc * 10 + (c - 48)) a < 10 ^ (k + l.length) := by
    intro l
    induction l with
    | nil => intro a k _ h; exact h
    | cons c r ih =>
      intro a k hd h
      have hd' : (decide (48 ≤ c) && decide (c ≤ 57) && digs r) = true := hd
      simp only [Bool.and_eq_true, decide_eq_true_eq] at hd'
      rw [List.foldl_cons, List.length_cons]
      have q := ih (a * 10 + (c - 48)) (k + 1) hd'.2 (by rw [Nat.pow_succ]; omega)
      rw [show k + (r.length + 1) = k + 1 + r.length by omega]
      exact q
  intro h
  have q := gen l 0 0 h (by decide)
  simpa [digitsVal] using q
theorem intText_head {h : List Nat} (h5 : h.length = 5) (hd : digs h = true) : intText? (S h) = some ((digitsVal h : Nat) : Int) := int_S hd (fun e => by rw [e] at h5; cases h5) (by omega)

/-! ### texts as data -/
def strsV (ls : List (List Nat)) : List V := (ls.map S).map V.str
theorem strsV_len (ls : List (List Nat)) : (strsV ls).length = ls.length := by simp [strsV]
theorem strsV_app (ls : List (List Nat)) (l : List Nat) : strsV (ls ++ [l]) = strsV ls ++ [.str (S l)] := by simp [strsV]
theorem strsV_at {ls : List (List Nat)} {i : Nat} {x : V} (h : (strsV ls)[i]? = some x) : ∃ l, ls[i]? = some l ∧ x = .str (S l) ∧ l ∈ ls := by
  unfold strsV at h
  rw [List.getElem?_map, List.getElem?_map] at h
  cases e : ls[i]? with
  | none => rw [e] at h; cases h
  | some l =>
    rw [e] at h
    exact ⟨l, rfl, (Option.some.inj h).symm, List.mem_of_getElem? e⟩
def strsD (ls : List (List Nat)) : PyData := .list (ls.map fun l => .str (S l))
theorem dpAll_strs {K : PySem.W.Frag} {H : Hp} : ∀ ls : List (List Nat), DpAll K H (strsV ls) (ls.map fun l => .str (S l))
  | [] => .nil
  | l :: r => .cons (.str (S l)) (dpAll_strs r)
theorem dp_strs {K : PySem.W.Frag} {H : Hp} {a : Addr} {ls : List (List Nat)} (h : SqL K H a (strsV ls)) : Dp K H (.ref a) (strsD ls) := .lst h (dpAll_strs ls)
theorem strOk_S {l : List Nat} (h : Pr l) : PyData.strOk (S l) = true := by
  show (l.toArray.all fun c => decide (c < 0x110000)) = true
  rw [← Array.all_toList, List.all_eq_true]
  intro c hc
  have := h c (by simpa using hc)
  exact decide_eq_true (by omega)
theorem lay_strs : ∀ {ls : List (List Nat)}, (∀ l ∈ ls, Pr l) → PyData.canLayAll0 (ls.map fun l => .str (S l)) = true
  | [], _ => rfl
  | l :: r, h => by
    show (PyData.strOk (S l) && PyData.canLayAll0 (r.map fun l => .str (S l))) = true
    rw [strOk_S (h l List.mem_cons_self), lay_strs fun l hl => h l (List.mem_cons_of_mem _ hl)]
    rfl
theorem depth_strs : ∀ ls : List (List Nat), PyData.depthAll (ls.map fun l => .str (S l)) = 0
  | [] => rfl
  | l :: r => by
    show max 0 (PyData.depthAll (r.map fun l => .str (S l))) = 0
    rw [depth_strs r]
    rfl
theorem shaped_strs {ls : List (List Nat)} (h : ∀ l ∈ ls, Pr l) : SeqAt.shaped (strsD ls) = true := by
  show (PyData.canLayAll0 _ && decide (PyData.depthAll (ls.map fun l => .str (S l)) + 1 ≤ 64)) = true
  rw [lay_strs h, depth_strs]
  rfl
theorem shaped_pair {d : PyData} {i : Int} (h : SeqAt.shaped d = true) (hd : d.depth ≤ 10) : SeqAt.shaped (.tuple [d, .int i]) = true := by
  have h1 : (d.canLay0 && decide (d.depth ≤ 64)) = true := h
  rw [Bool.and_eq_true] at h1
  show ((d.canLay0 && true) && decide (max d.depth (max 0 0) + 1 ≤ 64)) = true
  rw [h1.1]
  simp
  omega
theorem depth_strsD (ls : List (List Nat)) : (strsD ls).depth = 1 := by
  show PyData.depthAll (ls.map fun l => .str (S l)) + 1 = 1
  rw [depth_strs]
theorem sc_pr {l : List Nat} (h : Pr l) : ∀ (f i : Nat), ∀ m ∈ (scan f l i).1, Pr m
  | 0, _, m, hm => by cases hm
  | f + 1, i, m, hm => by
    unfold scan at hm
    cases q : fEnd l i with
    | none => rw [q] at hm; cases hm
    | some e =>
      rw [q] at hm
      rcases List.mem_cons.mp hm with rfl | hm
      · exact pr_take _ (pr_drop _ h)
      · exact sc_pr h f e m hm
theorem eqv_self {d : PyData} (h : SeqAt.shaped d = true) : PyData.eqv d d = true := SeqAt.eqv_refl d (SeqAt.canLay_of_shaped h)
theorem eqv_nil (ds : List PyData) : PyData.eqv (.list ds) (.list []) = ds.isEmpty := by
  rw [PyData.eqv]
  cases ds <;> rfl
def isdig (c : Nat) : Bool := decide (48 ≤ c) && decide (c ≤ 57)
theorem digits_list : ("0123456789" : Str).cps.toList = [48, 49, 50, 51, 52, 53, 54, 55, 56, 57] := by decide +kernel
theorem dig_in (c : Nat) : decide (c ∈ ("0123456789" : Str).cps.toList) = isdig c := by
  rw [digits_list]
  unfold isdig
  rw [Bool.eq_iff_iff]
  simp only [decide_eq_true_eq, Bool.and_eq_true, List.mem_cons, List.not_mem_nil, or_false]
  omega
theorem digs_all (l : List Nat) : digs l = (l.map isdig).all id := by
  unfold digs
  rw [List.all_map]
  rfl
theorem signs_strs (cs : List Nat) : cs.map signV = strsV (cs.map fun c => [c]) := by
  unfold strsV
  rw [List.map_map, List.map_map]
  rfl
theorem pr_one {c : Nat} (h : 32 ≤ c ∧ c ≤ 126) : Pr [c] := pr_cons h pr_nil
theorem digs_filter : ∀ l : List Nat, digs l = (l.filter fun c => !isdig c).isEmpty
  | [] => rfl
  | c :: r => by
    show (isdig c && digs r) = _
    rw [digs_filter r, List.filter_cons]
    cases isdig c <;> rfl
end M9

/-! M11: what is read in a beginning of frames. -/
namespace M9
open PySem PySem.Spec PyProof.Rows L2 Z SX PySem.NumText

theorem digitsVal_zeros (k : Nat) (l : List Nat) : digitsVal (List.replicate k 48 ++ l) = digitsVal l := by
  unfold digitsVal
  rw [List.foldl_append]
  congr 1
  induction k with
  | zero => rfl
  | succ k ih => rw [List.replicate_succ, List.foldl_cons]; exact ih
def figs (n : Nat) : List Nat := List.replicate (5 - (TL.numL n).length) 48 ++ TL.numL n
theorem figs_len {n : Nat} (h : n < 100000) : (figs n).length = 5 := by
  obtain ⟨h1, h2⟩ := numL5 h
  unfold figs
  rw [List.length_append, List.length_replicate]
  omega
theorem figs_val (n : Nat) : digitsVal (figs n) = n := by
  unfold figs
  rw [digitsVal_zeros, TL.numL_val]
theorem figs_digs (n : Nat) : digs (figs n) = true := by
  unfold digs figs
  rw [List.all_eq_true]
  intro c hc
  rcases List.mem_append.mp hc with q | q
  · rw [(List.mem_replicate.mp q).2]
    rfl
  · have := TL.numL_digits n c q
    simpa using this
theorem frL_eq (m : List Nat) : frL m = figs m.length ++ (58 :: (m ++ [59])) := by
  unfold frL figs
  simp [List.append_assoc]
theorem head_fr {m rest : List Nat} (h : m.length ≤ 80000) : headN ((frL m ++ rest).take 6) = some m.length := by
  have h5 := figs_len (n := m.length) (by omega)
  have e : (frL m ++ rest).take 6 = figs m.length ++ [58] := by
    rw [frL_eq, List.append_assoc, List.take_append, h5, List.take_of_length_le (by omega)]
    rfl
  rw [e]
  unfold headN
  rw [if_neg, List.take_append_of_le_length (by omega), List.take_of_length_le (by omega), figs_val]
  rintro (z | z | z)
  · rw [List.length_append, h5] at z
    exact absurd z (by decide)
  · rw [List.getElem?_append_right (by omega), h5] at z
    exact z rfl
  · rw [List.take_append_of_le_length (by omega), List.take_of_length_le (by omega), figs_digs] at z
    cases z
theorem drop_fr {m rest : List Nat} (h : m.length ≤ 80000) : (frL m ++ rest).drop (6 + m.length) = 59 :: rest := by
  have h5 := figs_len (n := m.length) (by omega)
  rw [frL_eq]
  have e : figs m.length ++ (58 :: (m ++ [59])) ++ rest = (figs m.length ++ (58 :: m)) ++ (59 :: rest) := by simp [List.append_assoc]
  rw [e, List.drop_append_of_le_length (by rw [List.length_append, List.length_cons, h5]; omega), List.drop_of_length_le (by rw [List.length_append, List.length_cons, h5]; omega)]
  rfl
theorem body_fr {m rest : List Nat} (h : m.length ≤ 80000) : ((frL m ++ rest).drop 6).take m.length = m := by
  have h5 := figs_len (n := m.length) (by omega)
  rw [frL_eq]
  have e : figs m.length ++ (58 :: (m ++ [59])) ++ rest = (figs m.length ++ [58]) ++ (m ++ (59 :: rest)) := by simp [List.append_assoc]
  rw [e, List.drop_append_of_le_length (by rw [List.length_append, h5]; decide), List.drop_of_length_le (by rw [List.length_append, h5]; decide), List.nil_append, List.take_append_of_le_length (Nat.le_refl _), List.take_length]
theorem fEnd_fr {l m rest : List Nat} {i : Nat} (h : m.length ≤ 80000) (e : l.drop i = frL m ++ rest) : fEnd l i = some (i + m.length + 7) := by
  unfold fEnd
  rw [e, head_fr h]
  simp only
  have d : l.drop (i + 6 + m.length) = 59 :: rest := by
    rw [Nat.add_assoc, ← List.drop_drop, e, drop_fr h]
  rw [d, if_pos ⟨h, rfl⟩]
  congr 1
  omega
theorem fEnd_cut {l m rest : List Nat} {i k : Nat} (h : m.length ≤ 80000) (hk : k < m.length + 7) (e : l.drop i = (frL m ++ rest).take k) : fEnd l i = none := by
  unfold fEnd
  rw [e, List.take_take]
  rcases Nat.lt_or_ge k 6 with q | q
  · have hn : headN ((frL m ++ rest).take (min 6 k)) = none := by
      unfold headN
      rw [if_pos]
      refine .inl ?_
      rw [List.length_take]
      omega
    rw [hn]
  · rw [Nat.min_eq_left q, head_fr h]
    simp only
    have d : l.drop (i + 6 + m.length) = [] := by
      rw [Nat.add_assoc, ← List.drop_drop, e]
      refine List.drop_of_length_le ?_
      rw [List.length_take]
      omega
    rw [d, if_neg]
    rintro ⟨_, z⟩
    cases z
theorem fEnd_nil {l : List Nat} {i : Nat} (e : l.drop i = []) : fEnd l i = none := by
  unfold fEnd
  rw [e]
  rfl
/-- how many frames are whole among the first k signs -/
def cnt : List (List Nat) → Nat → Nat
  | [], _ => 0
  | m :: r, k => if m.length + 7 ≤ k then 1 + cnt r (k - (m.length + 7)) else 0
theorem cnt_le : ∀ (ls : List (List Nat)) (k : Nat), cnt ls k ≤ ls.length
  | [], _ => Nat.le_refl 0
  | m :: r, k => by
    unfold cnt
    have := cnt_le r (k - (m.length + 7))
    rw [List.length_cons]
    split <;> omega
def fl (ls : List (List Nat)) : List Nat := (ls.map frL).flatten
theorem fl_cons (m : List Nat) (r : List (List Nat)) : fl (m :: r) = frL m ++ fl r := by simp [fl]
theorem fl_app (a b : List (List Nat)) : fl (a ++ b) = fl a ++ fl b := by simp [fl]
theorem sc_cut : ∀ (ls : List (List Nat)) (l : List Nat) (i k : Nat), (∀ m ∈ ls, m.length ≤ 80000) → l.drop i = (fl ls).take k → sc l i = (ls.take (cnt ls k), i + (fl (ls.take (cnt ls k))).length)
  | [], l, i, k, _, e => by
    have e' : l.drop i = [] := by rw [e]; simp [fl]
    rw [sc_none (fEnd_nil e')]
    simp [fl]
  | m :: r, l, i, k, h, e => by
    have hm := h m List.mem_cons_self
    have lm := frL_len (l := m) (by omega)
    rw [fl_cons] at e
    unfold cnt
    by_cases hk : m.length + 7 ≤ k
    · rw [if_pos hk]
      have e1 : l.drop i = frL m ++ (fl r).take (k - (m.length + 7)) := by
        rw [e, List.take_append, lm, List.take_of_length_le (by omega)]
      have e2 : l.drop (i + m.length + 7) = (fl r).take (k - (m.length + 7)) := by
        rw [Nat.add_assoc, ← List.drop_drop, e1, List.drop_append_of_le_length (by omega), List.drop_of_length_le (by omega), List.nil_append]
      have ih := sc_cut r l (i + m.length + 7) (k - (m.length + 7)) (fun x hx => h x (List.mem_cons_of_mem _ hx)) e2
      rw [sc_some (fEnd_fr hm e1), ih]
      have e3 : (l.drop (i + 6)).take (i + m.length + 7 - 1 - (i + 6)) = m := by
        rw [← List.drop_drop, e1, show i + m.length + 7 - 1 - (i + 6) = m.length by omega, body_fr hm]
      rw [e3, Nat.add_comm 1, List.take_succ_cons, fl_cons, List.length_append, lm]
      simp only [Prod.mk.injEq, true_and]
      omega
    · rw [if_neg hk, sc_none (fEnd_cut hm (by omega) e)]
      simp [fl]
theorem cnt_full : ∀ (ls : List (List Nat)) (k : Nat), (∀ m ∈ ls, m.length ≤ 80000) → (fl ls).length ≤ k → cnt ls k = ls.length
  | [], _, _, _ => rfl
  | m :: r, k, h, hk => by
    have lm := frL_len (l := m) (by have := h m List.mem_cons_self; omega)
    rw [fl_cons, List.length_append, lm] at hk
    unfold cnt
    rw [if_pos (by omega), cnt_full r _ (fun x hx => h x (List.mem_cons_of_mem _ hx)) (by omega), List.length_cons]
    omega
/-- one sign less: the last one is lost -/
theorem cnt_last : ∀ (ls : List (List Nat)), (∀ m ∈ ls, m.length ≤ 80000) → cnt ls ((fl ls).length - 1) = ls.length - 1
  | [], _ => rfl
  | [m], h => by
    have lm := frL_len (l := m) (by have := h m List.mem_cons_self; omega)
    unfold cnt
    rw [fl_cons, List.length_append, lm, show (fl []).length = 0 from rfl, if_neg (by omega)]
    rfl
  | m :: n :: r, h => by
    have lm := frL_len (l := m) (by have := h m List.mem_cons_self; omega)
    have ln := frL_len (l := n) (by have := h n (List.mem_cons_of_mem _ List.mem_cons_self); omega)
    have ih := cnt_last (n :: r) fun x hx => h x (List.mem_cons_of_mem _ hx)
    have l2 : (fl (n :: r)).length = n.length + 7 + (fl r).length := by rw [fl_cons, List.length_append, ln]
    rw [cnt, fl_cons, List.length_append, lm, if_pos (by omega), show m.length + 7 + (fl (n :: r)).length - 1 - (m.length + 7) = (fl (n :: r)).length - 1 by omega, ih]
    simp only [List.length_cons]
    omega
theorem fl_take {ls : List (List Nat)} (j : Nat) : (fl ls).take (fl (ls.take j)).length = fl (ls.take j) := by
  have e : fl ls = fl (ls.take j) ++ fl (ls.drop j) := by rw [← fl_app, List.take_append_drop]
  rw [e, List.take_append_of_le_length (Nat.le_refl _), List.take_length]
theorem fl_rep (n : Nat) (m : List Nat) : fl (List.replicate n m) = (List.replicate n (frL m)).flatten := by
  unfold fl
  rw [List.map_replicate]
theorem cnt_rep (n : Nat) (m : List Nat) : ∀ k, cnt (List.replicate n m) k = min n (k / (m.length + 7)) := by
  induction n with
  | zero => intro k; simp [cnt]
  | succ n ih =>
    intro k
    rw [List.replicate_succ, cnt]
    by_cases hk : m.length + 7 ≤ k
    · rw [if_pos hk, ih]
      have : k / (m.length + 7) = (k - (m.length + 7)) / (m.length + 7) + 1 := by
        rw [Nat.div_eq, if_pos ⟨by omega, hk⟩]
      omega
    · rw [if_neg hk, Nat.div_eq_of_lt (by omega)]
      simp
/-- the ends of frames -/
def endsL : Nat → List (List Nat) → List Nat
  | _, [] => []
  | a, m :: r => (a + m.length + 7) :: endsL (a + m.length + 7) r
theorem endsL_len : ∀ (a : Nat) (ls : List (List Nat)), (endsL a ls).length = ls.length
  | _, [] => rfl
  | a, m :: r => by rw [endsL, List.length_cons, endsL_len, List.length_cons]
theorem endsL_ge : ∀ (a : Nat) (ls : List (List Nat)), ∀ e ∈ endsL a ls, a + 7 ≤ e
  | _, [], e, h => by cases h
  | a, m :: r, e, h => by
    rcases List.mem_cons.mp h with rfl | h
    · omega
    · have := endsL_ge (a + m.length + 7) r e h
      omega
theorem endsL_cnt : ∀ (ls : List (List Nat)) (a k : Nat), ((endsL a ls).filter fun e => decide (e ≤ a + k)).length = cnt ls k
  | [], _, _ => rfl
  | m :: r, a, k => by
    rw [endsL, cnt, List.filter_cons]
    by_cases hk : m.length + 7 ≤ k
    · rw [if_pos (decide_eq_true (by omega)), if_pos hk, List.length_cons, ← endsL_cnt r (a + m.length + 7) (k - (m.length + 7))]
      have : a + m.length + 7 + (k - (m.length + 7)) = a + k := by omega
      rw [this]
      omega
    · rw [if_neg (by simpa using (by omega : ¬ a + m.length + 7 ≤ a + k)), if_neg hk]
      have : (endsL (a + m.length + 7) r).filter (fun e => decide (e ≤ a + k)) = [] := by
        rw [List.filter_eq_nil_iff]
        intro e he
        have := endsL_ge _ _ e he
        simp only [decide_eq_true_eq]
        omega
      rw [this]
      rfl
theorem endsL_app : ∀ (a : Nat) (ls : List (List Nat)) (m : List Nat), (∀ x ∈ ls, x.length ≤ 80000) → endsL a (ls ++ [m]) = endsL a ls ++ [a + (fl ls).length + m.length + 7]
  | a, [], m, _ => by simp [endsL, fl]
  | a, x :: r, m, h => by
    have lx := frL_len (l := x) (by have := h x List.mem_cons_self; omega)
    rw [List.cons_append, endsL, endsL_app (a + x.length + 7) r m fun y hy => h y (List.mem_cons_of_mem _ hy), endsL, fl_cons, List.length_append, lx, List.cons_append]
    congr 3
    omega
theorem endsL_at : ∀ (ls : List (List Nat)) (a j : Nat), (∀ x ∈ ls, x.length ≤ 80000) → j < ls.length → (endsL a ls)[j]? = some (a + (fl (ls.take (j + 1))).length)
  | m :: r, a, 0, h, _ => by
    have lm := frL_len (l := m) (by have := h m List.mem_cons_self; omega)
    rw [endsL, List.take_succ_cons, fl_cons, List.length_append, lm]
    simp [fl]
    omega
  | m :: r, a, j + 1, h, hj => by
    have lm := frL_len (l := m) (by have := h m List.mem_cons_self; omega)
    rw [endsL, List.getElem?_cons_succ, endsL_at r (a + m.length + 7) j (fun y hy => h y (List.mem_cons_of_mem _ hy)) (by simpa using hj), List.take_succ_cons, fl_cons, List.length_append, lm]
    congr 1
    omega
end M9

/-! M3: items and tokens judged as data. -/
namespace M3
open PySem PySem.Spec PyProof.Rows L2 Z SX M9

def asciiS (x : Str) : Bool := x.cps.toList.all fun c => decide (c < 128)
/-- a text of ASCII signs, or no text; a tuple of such -/
def asc1 : PyData → Bool
  | .str x => asciiS x && decide (x.length ≤ 100000)
  | _ => true
def asc : PyData → Bool
  | .str x => asc1 (.str x)
  | .tuple ds => ds.all asc1
  | _ => true
def intD : PyData → Bool
  | .int _ => true
  | _ => false
def within (d : PyData) (a b : Int) : Bool := match d with
  | .int i => decide (a ≤ i) && decide (i ≤ b)
  | _ => false
def prS (x : Str) : Bool := x.cps.toList.all fun c => decide (32 ≤ c) && decide (c ≤ 126)
def lowS (x : Str) : Bool := x.cps.toList.all fun c => decide (97 ≤ c) && decide (c ≤ 122)
def signsD : PyData → Bool
  | .str x => prS x
  | _ => false
def plainD (n : Nat) : PyData → Bool
  | .str x => prS x && decide (x.length ≤ n)
  | _ => false
def nameD : PyData → Bool
  | .str x => decide (1 ≤ x.length) && decide (x.length ≤ 8) && lowS x
  | _ => false
def tokenD : PyData → Bool
  | .tuple [a, b] => within a 1 999999999999 && within b 1 999999999999
  | _ => false
def itemD : PyData → Bool
  | .tuple [a, b, c, d, e, f] => nameD a && nameD b && plainD 40 c && within d 0 3 && within e 0 50 && within f 0 50
  | _ => false
def kindD : PyData → String
  | .none => "NoneType"
  | .bool _ => "bool"
  | .int _ => "int"
  | .str _ => "str"
  | .list _ => "list"
  | .tuple _ => "tuple"
  | .dict _ => "dict"
theorem Dz.kind {g : Bool} {K : PySem.W.Frag} {H : Hp} {v : V} {d : PyData} (h : Dz g H v d) : KindV K H v (kindD d) := by
  cases h with
  | non => rfl
  | bl b => rfl
  | int i => rfl
  | str x => rfl
  | lst h _ _ => exact .inl ⟨rfl, _, SqL.of h⟩
  | tup h _ => exact .inr (.inl ⟨rfl, _, SqT.of h⟩)
  | dic h _ => exact .inr (.inr ⟨rfl, .inl ⟨_, h⟩⟩)
theorem print_ascii : ∀ c : _root_.Fin 128, Unicode.isPrintable c.val = (decide (32 ≤ c.val) && decide (c.val ≤ 126)) := by decide +kernel
theorem alpha_ascii : ∀ c : _root_.Fin 128, Unicode.isAlpha c.val = ((decide (65 ≤ c.val) && decide (c.val ≤ 90)) || (decide (97 ≤ c.val) && decide (c.val ≤ 122))) := by decide +kernel
theorem lower_ascii : ∀ c : _root_.Fin 128, Unicode.isLower c.val = (decide (97 ≤ c.val) && decide (c.val ≤ 122)) := by decide +kernel
theorem upper_ascii : ∀ c : _root_.Fin 128, (Unicode.isUpper c.val || Unicode.isTitle c.val) = (decide (65 ≤ c.val) && decide (c.val ≤ 90)) := by decide +kernel
theorem all_eq {p q : Nat → Bool} : ∀ {l : List Nat}, (∀ c ∈ l, p c = q c) → l.all p = l.all q
  | [], _ => rfl
  | a :: r, h => by
    rw [List.all_cons, List.all_cons, h a List.mem_cons_self, all_eq fun c hc => h c (List.mem_cons_of_mem _ hc)]
theorem any_eq {p q : Nat → Bool} : ∀ {l : List Nat}, (∀ c ∈ l, p c = q c) → l.any p = l.any q
  | [], _ => rfl
  | a :: r, h => by
    rw [List.any_cons, List.any_cons, h a List.mem_cons_self, any_eq fun c hc => h c (List.mem_cons_of_mem _ hc)]
theorem lt_of_ascii {x : Str} (h : asciiS x = true) {c : Nat} (hc : c ∈ x.cps.toList) : c < 128 := by
  simpa using (List.all_eq_true.mp h) c hc
theorem isascii_D {x : Str} (h : asciiS x = true) : Txt.isascii x = true := by
  show (x.cps.all fun c => decide (c < 128)) = true
  rw [← Array.all_toList]
  exact h
theorem isprintable_D {x : Str} (h : asciiS x = true) : Txt.isprintable x = prS x := by
  show (x.cps.all Unicode.isPrintable) = _
  rw [← Array.all_toList]
  exact all_eq fun c hc => print_ascii ⟨c, lt_of_ascii h hc⟩
theorem isalpha_D {x : Str} (h : asciiS x = true) : Txt.isalpha x = (decide (x.length > 0) && x.cps.toList.all fun c => (decide (65 ≤ c) && decide (c ≤ 90)) || (decide (97 ≤ c) && decide (c ≤ 122))) := by
  show (decide (x.length > 0) && x.cps.all Unicode.isAlpha) = _
  rw [← Array.all_toList]
  congr 1
  exact all_eq fun c hc => alpha_ascii ⟨c, lt_of_ascii h hc⟩
theorem islower_D {x : Str} (h : asciiS x = true) : Txt.islower x = ((x.cps.toList.any fun c => decide (97 ≤ c) && decide (c ≤ 122)) && !(x.cps.toList.any fun c => decide (65 ≤ c) && decide (c ≤ 90))) := by
  show (x.cps.any Unicode.isLower && !x.cps.any fun c => Unicode.isUpper c || Unicode.isTitle c) = _
  rw [← Array.any_toList, ← Array.any_toList]
  congr 1
  · exact any_eq fun c hc => lower_ascii ⟨c, lt_of_ascii h hc⟩
  · congr 1
    exact any_eq fun c hc => upper_ascii ⟨c, lt_of_ascii h hc⟩
/-- the program's test of a name is the law's -/
theorem name_law {x : Str} (h : asciiS x = true) : (prS x && (decide (x.length ≤ 8) && (Txt.isalpha x && Txt.islower x))) = nameD (.str x) := by
  have hl : x.length = x.cps.toList.length := by rw [Array.length_toList]; rfl
  rw [isalpha_D h, islower_D h]
  unfold nameD
  rw [Bool.eq_iff_iff]
  constructor
  · intro e
    simp only [Bool.and_eq_true, decide_eq_true_eq, List.all_eq_true, Bool.or_eq_true, List.any_eq_true, Bool.not_eq_true', List.any_eq_false, lowS, prS] at e ⊢
    obtain ⟨_, h8, ⟨h1, ha⟩, _, hu⟩ := e
    refine ⟨⟨h1, h8⟩, fun c hc => ?_⟩
    rcases ha c hc with z | z
    · exact absurd z (hu c hc)
    · exact z
  · intro e
    simp only [Bool.and_eq_true, decide_eq_true_eq, List.all_eq_true, Bool.or_eq_true, List.any_eq_true, Bool.not_eq_true', List.any_eq_false, lowS, prS] at e ⊢
    obtain ⟨⟨h1, h8⟩, ha⟩ := e
    refine ⟨fun c hc => by have := ha c hc; omega, h8, ⟨h1, fun c hc => .inr (ha c hc)⟩, ?_, fun c hc => by have := ha c hc; omega⟩
    cases e : x.cps.toList with
    | nil => rw [hl, e] at h1; exact absurd h1 (by decide)
    | cons c r => exact ⟨c, List.mem_cons_self, ha c (by rw [e]; exact List.mem_cons_self)⟩
/-- what a filtered text leaves is nothing, if all its signs are good -/
theorem filter_none {p : Nat → Bool} (l : List Nat) : (l.filter fun c => !p c).isEmpty = l.all p := by
  induction l with
  | nil => rfl
  | cons a r ih =>
    rw [List.filter_cons, List.all_cons]
    cases e : p a with
    | true => simpa using ih
    | false => rfl
theorem letters_list : ("abcdefghijklmnopqrstuvwxyz" : Str).cps.toList = [97, 98, 99, 100, 101, 102, 103, 104, 105, 106, 107, 108, 109, 110, 111, 112, 113, 114, 115, 116, 117, 118, 119, 120, 121, 122] := by decide +kernel
def low (c : Nat) : Bool := decide (97 ≤ c) && decide (c ≤ 122)
def prt (c : Nat) : Bool := decide (32 ≤ c) && decide (c ≤ 126)
theorem low_in (c : Nat) : decide (c ∈ ("abcdefghijklmnopqrstuvwxyz" : Str).cps.toList) = low c := by
  rw [letters_list]
  unfold low
  rw [Bool.eq_iff_iff]
  simp only [decide_eq_true_eq, Bool.and_eq_true, List.mem_cons, List.not_mem_nil, or_false]
  omega
theorem one_lt {a b : Nat} : ([a] : List Nat) < [b] ↔ a < b := by
  rw [List.cons_lt_cons_iff]
  constructor
  · rintro (h | ⟨_, h⟩)
    · exact h
    · exact absurd h (by simp)
  · exact .inl
theorem lt_sp {c : Nat} : (⟨#[c]⟩ : Str).cps.toList < (" " : Str).cps.toList ↔ c < 32 := by
  rw [show (" " : Str).cps.toList = [32] by decide +kernel, show (⟨#[c]⟩ : Str).cps.toList = [c] from rfl]
  exact one_lt
theorem gt_tl {c : Nat} : ("~" : Str).cps.toList < (⟨#[c]⟩ : Str).cps.toList ↔ 126 < c := by
  rw [show ("~" : Str).cps.toList = [126] by decide +kernel, show (⟨#[c]⟩ : Str).cps.toList = [c] from rfl]
  exact one_lt
def signsD2 (l : List Nat) : PyData := .list (l.map fun c => .str (S [c]))
theorem signs_none {x : Str} {p : Nat → Bool} : (x.cps.toList.filter fun c => !p c).isEmpty = x.cps.toList.all p := filter_none _
theorem shaped_asc {cs : List Nat} (h : ∀ c ∈ cs, c < 128) : SeqAt.shaped (strsD (cs.map fun c => [c])) = true := by
  have lay : ∀ cs : List Nat, (∀ c ∈ cs, c < 128) → PyData.canLayAll0 ((cs.map fun c => [c]).map fun l => .str (S l)) = true := by
    intro cs
    induction cs with
    | nil => intro _; rfl
    | cons c r ih =>
      intro h
      have hc := h c List.mem_cons_self
      show (PyData.strOk (S [c]) && PyData.canLayAll0 ((r.map fun c => [c]).map fun l => .str (S l))) = true
      rw [ih fun x hx => h x (List.mem_cons_of_mem _ hx), Bool.and_true]
      show ([c].toArray.all fun c => decide (c < 0x110000)) = true
      rw [← Array.all_toList, List.all_eq_true]
      intro x hx
      have : x = c := by simpa using hx
      rw [this]
      exact decide_eq_true (by omega)
  show (PyData.canLayAll0 _ && decide (PyData.depthAll ((cs.map fun c => [c]).map fun l => .str (S l)) + 1 ≤ 64)) = true
  rw [lay cs h, depth_strs]
  rfl
theorem eqv_strs_nil (cs : List Nat) : PyData.eqv (strsD (cs.map fun c => [c])) (strsD []) = cs.isEmpty := by
  unfold strsD
  rw [List.map_nil, eqv_nil]
  cases cs <;> rfl
theorem filter_step {l : List Nat} {p : Nat → Bool} {i c : Nat} (hc : l[i]? = some c) : (l.take (i + 1)).filter (fun c => !p c) = (l.take i).filter (fun c => !p c) ++ (if p c then [] else [c]) := by
  rw [List.take_add_one, hc, List.filter_append]
  cases e : p c <;> simp [e]
/-! ### how long what is shown is -/
theorem piled_shown : ∀ ds : List PyData, piled (PyData.shownAll ds) = (ds.map fun d => d.shown.length + 2).sum
  | [] => rfl
  | d :: r => by
    rw [PyData.shownAll, piled_cons, piled_shown r, List.map_cons, List.sum_cons]
theorem len_tuple (ds : List PyData) : (PyData.tuple ds).shown.length ≤ 4 + (ds.map fun d => d.shown.length + 2).sum := by
  have e : (PyData.tuple ds).shown = tupleText (PyData.shownAll ds) := by rw [PyData.shown]
  rw [e, ← piled_shown]
  unfold tupleText
  rw [strLen_append, strLen_append]
  have h2 : (Str.ofString (if (PyData.shownAll ds).length == 1 then ",)" else ")")).length ≤ 2 := by split <;> decide
  have h1 : ("(" : Str).length = 1 := rfl
  by_cases hn : PyData.shownAll ds = []
  · rw [hn]
    decide
  · have := join_length_add _ hn
    omega
theorem len_from : ∀ (ts : List Str) (k : Nat) (acc : Str), (textFrom k acc ts).length ≤ acc.length + piled ts
  | [], k, acc => Nat.le_add_right _ _
  | t :: r, k, acc => by
    have ih := len_from r (k + 1) (acc ++ (if k > 0 then ", " else "" : String) ++ t)
    have e : (acc ++ (if k > 0 then ", " else "" : String) ++ t).length = acc.length + (if k > 0 then 2 else 0) + t.length := by
      rw [strLen_append, strLen_append]
      split <;> rfl
    rw [piled_cons]
    show (textFrom (k + 1) (acc ++ (if k > 0 then ", " else "" : String) ++ t) r).length ≤ _
    rw [e] at ih
    have hb : (if k > 0 then 2 else 0) ≤ 2 := by split <;> omega
    omega
theorem len_list (ds : List PyData) : (PyData.list ds).shown.length ≤ 4 + (ds.map fun d => d.shown.length + 2).sum := by
  have e : (PyData.list ds).shown = listText (PyData.shownAll ds) := by rw [PyData.shown]
  rw [e, ← piled_shown]
  unfold listText
  rw [strLen_append]
  have := len_from (PyData.shownAll ds) 0 "["
  have h1 : ("[" : Str).length = 1 := rfl
  have h2 : ("]" : Str).length = 1 := rfl
  omega
mutual
/-- no list in it is as long as a box -/
def nobox : PyData → Bool
  | .none | .bool _ | .int _ | .str _ => true
  | .list ds => (ds.length != 4) && noboxAll ds
  | .tuple ds => noboxAll ds
  | .dict kvs => noboxKv kvs
def noboxAll : List PyData → Bool
  | [] => true
  | d :: r => nobox d && noboxAll r
def noboxKv : List (PyData × PyData) → Bool
  | [] => true
  | (_, d) :: r => nobox d && noboxKv r
end
theorem DzAll.len {g : Bool} {H : Hp} : ∀ {xs : List V} {ds : List PyData}, DzAll g H xs ds → xs.length = ds.length
  | _, _, .nil => rfl
  | _, _, .cons _ t => by rw [List.length_cons, List.length_cons, DzAll.len t]
theorem DzAll.take {g : Bool} {H : Hp} : ∀ {xs : List V} {ds : List PyData} (n : Nat), DzAll g H xs ds → DzAll g H (xs.take n) (ds.take n)
  | _, _, 0, _ => by rw [List.take_zero, List.take_zero]; exact .nil
  | _, _, n + 1, .nil => .nil
  | _, _, n + 1, .cons h t => .cons h (DzAll.take n t)
theorem DzAll.drop {g : Bool} {H : Hp} : ∀ {xs : List V} {ds : List PyData} (n : Nat), DzAll g H xs ds → DzAll g H (xs.drop n) (ds.drop n)
  | _, _, 0, h => h
  | _, _, n + 1, .nil => .nil
  | _, _, n + 1, .cons h t => DzAll.drop n t
theorem DzAll.app {g : Bool} {H : Hp} : ∀ {xs ys : List V} {ds es : List PyData}, DzAll g H xs ds → DzAll g H ys es → DzAll g H (xs ++ ys) (ds ++ es)
  | _, _, _, _, .nil, h => h
  | _, _, _, _, .cons h t, h2 => .cons h (DzAll.app t h2)
theorem not4 {ds : List PyData} (h : (ds.length != 4) = true) : ds.length ≠ 4 := by simpa using h
mutual
/-- b is a list of four: what has none is kept where all but b is kept -/
theorem Dz.but {g : Bool} {H H2 : Hp} {b : Addr} {bs : List V} (hb : H b = some (.lst bs)) (h4 : bs.length = 4) (t : But b H H2) : ∀ {v : V} {d : PyData}, Dz g H v d → nobox d = true → Dz g H2 v d
  | _, _, .non, _ => .non
  | _, _, .bl b, _ => .bl b
  | _, _, .int i, _ => .int i
  | _, _, .str x, _ => .str x
  | _, _, .lst (ds := ds) h n a, k => by
    have k : ((ds.length != 4) && noboxAll ds) = true := k
    rw [Bool.and_eq_true] at k
    refine .lst (t _ _ (fun z => ?_) h) n (DzAll.but hb h4 t a k.2)
    rw [z, hb] at h
    have := DzAll.len a
    cases h
    exact not4 k.1 (by omega)
  | _, _, .tup h a, k => .tup (t _ _ (fun z => by rw [z, hb] at h; cases h) h) (DzAll.but hb h4 t a k)
  | _, _, .dic h a, k => .dic (t _ _ (fun z => by rw [z, hb] at h; cases h) h) (DzKv.but hb h4 t a k)
theorem DzAll.but {g : Bool} {H H2 : Hp} {b : Addr} {bs : List V} (hb : H b = some (.lst bs)) (h4 : bs.length = 4) (t : But b H H2) : ∀ {vs : List V} {ds : List PyData}, DzAll g H vs ds → noboxAll ds = true → DzAll g H2 vs ds
  | _, _, .nil, _ => .nil
  | _, _, .cons h r, k => by
    have k := Bool.and_eq_true _ _ ▸ k
    exact .cons (Dz.but hb h4 t h k.1) (DzAll.but hb h4 t r k.2)
theorem DzKv.but {g : Bool} {H H2 : Hp} {b : Addr} {bs : List V} (hb : H b = some (.lst bs)) (h4 : bs.length = 4) (t : But b H H2) : ∀ {kvs : List (Key × V)} {D : List (PyData × PyData)}, DzKv g H kvs D → noboxKv D = true → DzKv g H2 kvs D
  | _, _, .nil, _ => .nil
  | _, _, .cons h r, k => by
    have k := Bool.and_eq_true _ _ ▸ k
    exact .cons (Dz.but hb h4 t h k.1) (DzKv.but hb h4 t r k.2)
end
def oddOk (d : PyData) : Bool := asc1 d && d.showable && decide (d.depth ≤ 3) && decide (d.shown.length ≤ 2000) && nobox d
theorem oddOk_of {d : PyData} (h : oddOk d = true) : asc1 d = true ∧ d.showable = true ∧ d.depth ≤ 3 ∧ d.shown.length ≤ 2000 := by
  unfold oddOk at h
  simp only [Bool.and_eq_true, decide_eq_true_eq] at h
  exact ⟨h.1.1.1.1, h.1.1.1.2, h.1.1.2, h.1.2⟩
theorem odd_nobox {d : PyData} (h : oddOk d = true) : nobox d = true := by
  unfold oddOk at h
  rw [Bool.and_eq_true] at h
  exact h.2
theorem odd_noboxAll : ∀ {ds : List PyData}, (∀ d ∈ ds, oddOk d = true) → noboxAll ds = true
  | [], _ => rfl
  | d :: r, h => by
    show (nobox d && noboxAll r) = true
    rw [odd_nobox (h d List.mem_cons_self), odd_noboxAll fun x hx => h x (List.mem_cons_of_mem _ hx)]
    rfl
/-- a tuple of good parts -/
def Tv (H : Hp) (p : Addr) (xs : List V) (ds : List PyData) : Prop := H p = some (.tup xs) ∧ DzAll true H xs ds ∧ ∀ d ∈ ds, oddOk d = true
theorem Tv.same {H H2 : Hp} {p : Addr} {xs : List V} {ds : List PyData} (h : Tv H p xs ds) (s : Same H H2) : Tv H2 p xs ds := ⟨s _ _ h.1, DzAll.same s h.2.1, h.2.2⟩
theorem addT {K : PySem.W.Frag} {H : Hp} {l b : Addr} {xs zs : List V} {Q : VK} (h1 : H l = some (.tup xs)) (h2 : H b = some (.tup zs)) (hz : xs.length + zs.length ≤ sizeLine) (q : ∀ r H2, Same H H2 → H2 r = some (.tup (xs ++ zs)) → Q (.ref r) H2) : zAdd K (.ref l) (.ref b) H Q :=
  .inr ⟨xs, zs, SqT.of h1, SqT.of h2, hz, (fun e => q b H (Same.refl H) (by rw [e]; exact h2)), (fun _ e => q l H (Same.refl H) (by rw [e, List.append_nil]; exact h1)), fun _ _ p H2 n => q p H2 n.same n.here⟩
theorem cutV_to (xs : List V) (j : Nat) : cutV xs none (some (j : Int)) = xs.take j := by
  unfold cutV
  rw [sIx_pos (by omega), Int.toNat_natCast]
  show ((xs.drop 0).take (min j xs.length - 0)) = _
  rw [List.drop_zero, Nat.sub_zero]
  rcases Nat.le_total j xs.length with h | h
  · rw [Nat.min_eq_left h]
  · rw [Nat.min_eq_right h, List.take_length, List.take_of_length_le h]
theorem cutV_toneg (xs : List V) : cutV xs none (some (-1)) = xs.take (xs.length - 1) := by
  unfold cutV
  show ((xs.drop 0).take ((if (-1 : Int) < 0 then (-1 + (xs.length : Int)).toNat else min (-1 : Int).toNat xs.length) - 0)) = _
  rw [if_pos (by decide), List.drop_zero, Nat.sub_zero, show (-1 + (xs.length : Int)).toNat = xs.length - 1 by omega]
theorem cutV_frneg (xs : List V) : cutV xs (some (-1)) none = xs.drop (xs.length - 1) := by
  unfold cutV
  show ((xs.drop (if (-1 : Int) < 0 then (-1 + (xs.length : Int)).toNat else min (-1 : Int).toNat xs.length)).take (xs.length - (if (-1 : Int) < 0 then (-1 + (xs.length : Int)).toNat else min (-1 : Int).toNat xs.length))) = _
  rw [if_pos (by decide), show (-1 + (xs.length : Int)).toNat = xs.length - 1 by omega, List.take_of_length_le (by rw [List.length_drop]; omega)]
theorem sIx_neg {n d : Nat} : HT.sIx n d (some (-1)) = n - 1 := by
  show (if (-1 : Int) < 0 then (-1 + (n : Int)).toNat else min (-1 : Int).toNat n) = _
  rw [if_pos (by decide)]
  omega
theorem cutV_fr (xs : List V) (j : Nat) : cutV xs (some (j : Int)) none = xs.drop j := by
  unfold cutV
  rw [sIx_pos (by omega), Int.toNat_natCast]
  show ((xs.drop (min j xs.length)).take (xs.length - min j xs.length)) = _
  rcases Nat.le_total j xs.length with h | h
  · rw [Nat.min_eq_left h, List.take_of_length_le (by rw [List.length_drop]; omega)]
  · rw [Nat.min_eq_right h, List.drop_length, List.drop_eq_nil_of_le h, List.take_nil]
theorem sum_odd : ∀ {ds : List PyData}, (∀ d ∈ ds, oddOk d = true) → (ds.map fun d => d.shown.length + 2).sum ≤ ds.length * 2002
  | [], _ => Nat.zero_le _
  | d :: r, h => by
    have h1 := (oddOk_of (h d List.mem_cons_self)).2.2.2
    have h2 := sum_odd fun x hx => h x (List.mem_cons_of_mem _ hx)
    rw [List.map_cons, List.sum_cons, List.length_cons, Nat.succ_mul]
    omega
theorem depth_odd : ∀ {ds : List PyData}, (∀ d ∈ ds, oddOk d = true) → PyData.depthAll ds ≤ 3
  | [], _ => Nat.zero_le _
  | d :: r, h => by
    have h1 := (oddOk_of (h d List.mem_cons_self)).2.2.1
    have h2 := depth_odd fun x hx => h x (List.mem_cons_of_mem _ hx)
    show max d.depth (PyData.depthAll r) ≤ 3
    omega
theorem show_odd : ∀ {ds : List PyData}, (∀ d ∈ ds, oddOk d = true) → PyData.showableAll ds = true
  | [], _ => rfl
  | d :: r, h => by
    have h1 := (oddOk_of (h d List.mem_cons_self)).2.1
    have h2 := show_odd fun x hx => h x (List.mem_cons_of_mem _ hx)
    show (d.showable && PyData.showableAll r) = true
    rw [h1, h2]
    rfl
theorem asc_odd : ∀ {ds : List PyData}, (∀ d ∈ ds, oddOk d = true) → ds.all asc1 = true := fun {ds} h => List.all_eq_true.mpr fun d hd => (oddOk_of (h d hd)).1
theorem odd_int {i : Int} (h : -10000000000000 ≤ i ∧ i ≤ 10000000000000) : oddOk (.int i) = true := by
  have hl : i.natAbs.log2 < 1920 := by
    rcases Nat.eq_zero_or_pos i.natAbs with e | e
    · rw [e]; decide
    · have q : 2 ^ i.natAbs.log2 ≤ i.natAbs := Nat.log2_self_le (by omega)
      have h2 : i.natAbs < 2 ^ 60 := by omega
      have : i.natAbs.log2 < 60 := (Nat.pow_lt_pow_iff_right (by decide : 1 < 2)).mp (Nat.lt_of_le_of_lt q h2)
      omega
  have e : (PyData.int i).shown = Str.ofString (toString i) := by simp only [PyData.shown]
  unfold oddOk
  rw [e, show (PyData.int i).showable = true by simpa only [PyData.showable, decide_eq_true_eq] using hl]
  have := int_text_len_1921 hl
  show (true && true && decide (0 ≤ 3) && decide ((Str.ofString (toString i)).length ≤ 2000) && true) = true
  rw [decide_eq_true (p := (Str.ofString (toString i)).length ≤ 2000) (by omega)]
  rfl
theorem odd_str {l : List Nat} (h : Pr l) (hl : l.length ≤ 100) : oddOk (.str (S l)) = true := by
  have e : (PyData.str (S l)).shown = reprText (S l) := by simp only [PyData.shown]
  have r := PySem.StrLaws.reprText_len (S l) (fun c hc => by
    rw [cps_S] at hc
    have := h c hc
    omega)
  have ls := length_S l
  have a : asciiS (S l) = true := by
    unfold asciiS
    rw [cps_S, List.all_eq_true]
    intro c hc
    have := h c hc
    exact decide_eq_true (by omega)
  have h1 : asc1 (.str (S l)) = true := by
    show (asciiS (S l) && decide ((S l).length ≤ 100000)) = true
    rw [a, length_S, decide_eq_true (by omega)]
    rfl
  unfold oddOk
  rw [e, h1]
  show (true && true && decide (0 ≤ 3) && decide ((reprText (S l)).length ≤ 2000) && true) = true
  rw [decide_eq_true (p := (reprText (S l)).length ≤ 2000) (by omega)]
  rfl
/-- a value that may be judged and shown -/
def Good (H : Hp) (v : V) : Prop := ∃ g d, Dz g H v d ∧ (d.hasDict = true → g = true) ∧ asc d = true ∧ d.showable = true ∧ d.depth ≤ 60 ∧ d.shown.length ≤ 10000000 ∧ nobox d = true
theorem Good.same {H H2 : Hp} {v : V} (h : Good H v) (s : Same H H2) : Good H2 v := by
  obtain ⟨g, d, a, b⟩ := h
  exact ⟨g, d, Dz.same s a, b⟩
theorem good_tup {H : Hp} {p : Addr} {xs : List V} {ds : List PyData} (h : H p = some (.tup xs)) (a : DzAll true H xs ds) (ok : ∀ d ∈ ds, oddOk d = true) (l : ds.length ≤ 20) : Good H (.ref p) := by
  refine ⟨true, .tuple ds, .tup h a, fun _ => rfl, asc_odd ok, show_odd ok, ?_, ?_, odd_noboxAll ok⟩
  · show PyData.depthAll ds + 1 ≤ 60
    have := depth_odd ok
    omega
  · have h1 := len_tuple ds
    have h2 := sum_odd ok
    have h3 : ds.length * 2002 ≤ 20 * 2002 := Nat.mul_le_mul_right _ l
    omega
def atomD : PyData → Bool
  | .none | .bool _ | .int _ | .str _ => true
  | _ => false
theorem atom_dict : ∀ {ds : List PyData}, (∀ d ∈ ds, atomD d = true) → PyData.hasDictAll ds = false
  | [], _ => by simp only [PyData.hasDictAll]
  | d :: r, h => by
    have h1 := h d List.mem_cons_self
    have h2 := atom_dict fun x hx => h x (List.mem_cons_of_mem _ hx)
    have h3 : d.hasDict = false := by cases d <;> first | (simp only [PyData.hasDict]; done) | cases h1
    simp only [PyData.hasDictAll, h3, h2, Bool.or_self]
mutual
theorem Dz.weak {H : Hp} : ∀ {v : V} {d : PyData}, Dz true H v d → Dz false H v d
  | _, _, .non => .non
  | _, _, .bl b => .bl b
  | _, _, .int i => .int i
  | _, _, .str x => .str x
  | _, _, .lst h n a => .lst h (fun z => by cases z) (DzAll.weak a)
  | _, _, .tup h a => .tup h (DzAll.weak a)
  | _, _, .dic h a => .dic h (DzKv.weak a)
theorem DzAll.weak {H : Hp} : ∀ {vs : List V} {ds : List PyData}, DzAll true H vs ds → DzAll false H vs ds
  | _, _, .nil => .nil
  | _, _, .cons h t => .cons (Dz.weak h) (DzAll.weak t)
theorem DzKv.weak {H : Hp} : ∀ {kvs : List (Key × V)} {D : List (PyData × PyData)}, DzKv true H kvs D → DzKv false H kvs D
  | _, _, .nil => .nil
  | _, _, .cons h t => .cons (Dz.weak h) (DzKv.weak t)
end
theorem good_lst {H : Hp} {p : Addr} {xs : List V} {ds : List PyData} (h : H p = some (.lst xs)) (a : DzAll true H xs ds) (ok : ∀ d ∈ ds, oddOk d = true) (at' : ∀ d ∈ ds, atomD d = true) (l : ds.length ≤ 20) (l4 : ds.length ≠ 4) : Good H (.ref p) := by
  refine ⟨false, .list ds, .lst h (fun z => by cases z) (DzAll.weak a), fun z => ?_, rfl, show_odd ok, ?_, ?_, by show ((ds.length != 4) && noboxAll ds) = true; rw [odd_noboxAll ok, Bool.and_true]; simpa using l4⟩
  · have e : (PyData.list ds).hasDict = PyData.hasDictAll ds := by simp only [PyData.hasDict]
    rw [e, atom_dict at'] at z
    cases z
  · show PyData.depthAll ds + 1 ≤ 60
    have := depth_odd ok
    omega
  · have h1 := len_list ds
    have h2 := sum_odd ok
    have h3 : ds.length * 2002 ≤ 20 * 2002 := Nat.mul_le_mul_right _ l
    omega
theorem good_atom {H : Hp} {v : V} {d : PyData} (h : Dz true H v d) (ok : oddOk d = true) (a : atomD d = true) : Good H v := by
  obtain ⟨h1, h2, h3, h4⟩ := oddOk_of ok
  exact ⟨true, d, h, fun _ => rfl, (by cases d <;> first | exact h1 | rfl | cases a), h2, by omega, by omega, odd_nobox ok⟩
theorem Good.but {H H2 : Hp} {b : Addr} {bs : List V} (hb : H b = some (.lst bs)) (h4 : bs.length = 4) (t : But b H H2) {v : V} (h : Good H v) : Good H2 v := by
  obtain ⟨g, d, a, h1, h2, h3, h5, h6, h7⟩ := h
  exact ⟨g, d, Dz.but hb h4 t a h7, h1, h2, h3, h5, h6, h7⟩
/-- a tuple, or a dict, of one tuple -/
theorem good_tup1 {H : Hp} {p r : Addr} {xs : List V} {ds : List PyData} (h : H p = some (.tup xs)) (a : DzAll true H xs ds) (ok : ∀ d ∈ ds, oddOk d = true) (l : ds.length ≤ 20) (hr : H r = some (.tup [.ref p])) : Good H (.ref r) := by
  have h1 := len_tuple ds
  have h2 := sum_odd ok
  have h3 : ds.length * 2002 ≤ 20 * 2002 := Nat.mul_le_mul_right _ l
  have hd := depth_odd ok
  refine ⟨true, .tuple [.tuple ds], .tup hr (.cons (.tup h a) .nil), fun _ => rfl, rfl, ?_, ?_, ?_, by show (noboxAll ds && true) = true; rw [odd_noboxAll ok]; rfl⟩
  · show (PyData.showableAll ds && true) = true
    rw [show_odd ok]
    rfl
  · show max (PyData.depthAll ds + 1) 0 + 1 ≤ 60
    omega
  · have h4 := len_tuple [.tuple ds]
    rw [List.map_cons, List.map_nil, List.sum_cons, List.sum_nil] at h4
    omega
theorem good_dic1 {H : Hp} {p r : Addr} {xs : List V} {ds : List PyData} (h : H p = some (.tup xs)) (a : DzAll true H xs ds) (ok : ∀ d ∈ ds, oddOk d = true) (l : ds.length ≤ 20) (hr : H r = some (.dK [(.inr "a", .ref p)])) : Good H (.ref r) := by
  have h1 := len_tuple ds
  have h2 := sum_odd ok
  have h3 : ds.length * 2002 ≤ 20 * 2002 := Nat.mul_le_mul_right _ l
  have hd := depth_odd ok
  refine ⟨true, .dict [(.str "a", .tuple ds)], .dic hr (.cons (k := .inr "a") (.tup h a) .nil), fun _ => rfl, rfl, ?_, ?_, ?_, by show (noboxAll ds && true) = true; rw [odd_noboxAll ok]; rfl⟩
  · show (PyData.showable (.str "a") && PyData.showableAll ds && true) = true
    rw [show_odd ok]
    rfl
  · show _ ≤ 60
    simp only [PyData.depth, PyData.depthKv]
    omega
  · have e : (PyData.dict [(.str "a", .tuple ds)]).shown = dictText [reprText "a" ++ ": " ++ (PyData.tuple ds).shown] := by
      simp only [PyData.shown, PyData.shownKv]
    rw [e]
    unfold dictText
    rw [strLen_append, strLen_append]
    show _ + (reprText "a" ++ ": " ++ (PyData.tuple ds).shown).length + _ ≤ _
    rw [strLen_append, strLen_append]
    have e1 : ("{" : Str).length = 1 := rfl
    have e2 : ("}" : Str).length = 1 := rfl
    have e3 : (": " : Str).length = 2 := rfl
    have e4 : (reprText "a").length = 3 := by decide +kernel
    omega
end M3

/-! M10: things that are no texts with a frame, and what is shown of them. -/
namespace M10
open PySem PySem.Spec PyProof.Rows L2 Z SX M9 M3

def Vd (H : Hp) (v : V) (d : PyData) : Prop := ∃ g, Dz g H v d
theorem Vd.kind {K : PySem.W.Frag} {H : Hp} {v : V} {d : PyData} (h : Vd H v d) : KindV K H v (kindD d) := by
  obtain ⟨g, h⟩ := h
  exact Dz.kind h
theorem Vd.int {H : Hp} {v : V} {i : Int} (h : Vd H v (.int i)) : v = .int i := by
  obtain ⟨g, h⟩ := h
  cases h
  rfl
theorem Vd.str {H : Hp} {v : V} {x : Str} (h : Vd H v (.str x)) : v = .str x := by
  obtain ⟨g, h⟩ := h
  cases h
  rfl
theorem Vd.same {H H2 : Hp} {v : V} {d : PyData} (h : Vd H v d) (s : Same H H2) : Vd H2 v d := by
  obtain ⟨g, h⟩ := h
  exact ⟨g, Dz.same s h⟩
def txt : PyData → Bool
  | .str x => asciiS x && decide (x.length ≤ 1000000)
  | _ => true
def framD : PyData → Bool
  | .str x => prS x && decide (x.length ≤ 80000)
  | _ => false
def cntD : PyData → Bool
  | .int i => decide (0 ≤ i)
  | _ => false
theorem prS_of {l : List Nat} (h : Pr l) : prS (S l) = true := by
  unfold prS
  rw [cps_S, List.all_eq_true]
  intro c hc
  simpa using h c hc
theorem asc_of {l : List Nat} (h : ∀ c ∈ l, c < 128) : asciiS (S l) = true := by
  unfold asciiS
  rw [cps_S, List.all_eq_true]
  intro c hc
  exact decide_eq_true (h c hc)
theorem lt_pr {l : List Nat} (h : Pr l) : ∀ c ∈ l, c < 128 := fun c hc => by
  have := h c hc
  omega
theorem txt_S {l : List Nat} (h : ∀ c ∈ l, c < 128) (hl : l.length ≤ 1000000) : txt (.str (S l)) = true := by
  show (asciiS (S l) && decide ((S l).length ≤ 1000000)) = true
  rw [asc_of h, length_S, decide_eq_true hl]
  rfl
theorem pr_prS {x : Str} (h : prS x = true) : Pr x.cps.toList := fun c hc => by simpa using (List.all_eq_true.mp h) c hc
theorem S_cps (x : Str) : x = S x.cps.toList := by
  cases x with
  | mk a => rfl
/-- a text with a frame; a thing that has none; a thing of other signs, or no text -/
def OkI (x : V) : Prop := ∃ l, x = .str (S l) ∧ Pr l ∧ l.length ≤ 80000
def BadI (H : Hp) (x : V) : Prop := ∃ d, Vd H x d ∧ txt d = true ∧ framD d = false
def BadS (H : Hp) (x : V) : Prop := ∃ d, Vd H x d ∧ txt d = true ∧ signsD d = false
theorem BadS.i {H : Hp} {x : V} (h : BadS H x) : BadI H x := by
  obtain ⟨d, a, b, c⟩ := h
  refine ⟨d, a, b, ?_⟩
  cases d with
  | str z =>
    have c : prS z = false := c
    show (prS z && _) = false
    rw [c]
    rfl
  | _ => rfl
theorem BadI.same {H H2 : Hp} {x : V} (h : BadI H x) (s : Same H H2) : BadI H2 x := by
  obtain ⟨d, a, b⟩ := h
  exact ⟨d, a.same s, b⟩
theorem BadS.same {H H2 : Hp} {x : V} (h : BadS H x) (s : Same H H2) : BadS H2 x := by
  obtain ⟨d, a, b⟩ := h
  exact ⟨d, a.same s, b⟩
theorem _root_.Z.KindV.same {K : PySem.W.Frag} {H H2 : Hp} {x : V} {k : String} (h : KindV K H x k) (s : Same H H2) : KindV K H2 x k := by
  unfold KindV at h ⊢
  split at h
  · exact h
  · exact h
  · exact h
  · exact h
  · rcases h with ⟨e, xs, h⟩ | ⟨e, xs, h⟩ | ⟨e, ⟨kvs, h⟩ | ⟨kvs, h⟩⟩
    · exact .inl ⟨e, xs, sqL_same s h⟩
    · exact .inr (.inl ⟨e, xs, sqT_same s h⟩)
    · exact .inr (.inr ⟨e, .inl ⟨kvs, s _ _ h⟩⟩)
    · exact .inr (.inr ⟨e, .inr ⟨kvs, s _ _ h⟩⟩)
  · exact h.elim
/-- no list and no tuple -/
def NoL (K : PySem.W.Frag) (H : Hp) (v : V) : Prop := ∃ k, KindV K H v k ∧ (isK k "list" || isK k "tuple") = false
theorem NoL.same {K : PySem.W.Frag} {H H2 : Hp} {v : V} (h : NoL K H v) (s : Same H H2) : NoL K H2 v := by
  obtain ⟨k, a, b⟩ := h
  exact ⟨k, a.same s, b⟩
/-- a list or tuple: good texts, then a thing that has no frame -/
def BadL (K : PySem.W.Frag) (H : Hp) (v x : V) : Prop := ∃ a pre post, v = .ref a ∧ (SqL K H a (strsV pre ++ x :: post) ∨ SqT K H a (strsV pre ++ x :: post)) ∧ (∀ l ∈ pre, Pr l ∧ l.length ≤ 80000) ∧ BadI H x
theorem BadL.same {K : PySem.W.Frag} {H H2 : Hp} {v x : V} (h : BadL K H v x) (s : Same H H2) : BadL K H2 v x := by
  obtain ⟨a, pre, post, e, c, d, b⟩ := h
  exact ⟨a, pre, post, e, c.imp (sqL_same s) (sqT_same s), d, b.same s⟩
/-- .. good texts alone -/
def OkL (K : PySem.W.Frag) (H : Hp) (v : V) (ls : List (List Nat)) : Prop := ∃ a, v = .ref a ∧ (SqL K H a (strsV ls) ∨ SqT K H a (strsV ls)) ∧ ∀ l ∈ ls, Pr l ∧ l.length ≤ 80000
theorem OkL.same {K : PySem.W.Frag} {H H2 : Hp} {v : V} {ls : List (List Nat)} (h : OkL K H v ls) (s : Same H H2) : OkL K H2 v ls := by
  obtain ⟨a, e, c, d⟩ := h
  exact ⟨a, e, c.imp (sqL_same s) (sqT_same s), d⟩
theorem strs_pre {pre : List (List Nat)} {x y : V} {post : List V} {i : Nat} (h : (strsV pre ++ x :: post)[i]? = some y) (hi : i ≤ pre.length) : (i < pre.length ∧ ∃ l ∈ pre, y = .str (S l)) ∨ (i = pre.length ∧ y = x) := by
  rcases Nat.lt_or_ge i pre.length with lt | ge
  · left
    rw [List.getElem?_append_left (by rw [strsV_len]; exact lt)] at h
    obtain ⟨l, _, e, hm⟩ := strsV_at h
    exact ⟨lt, l, hm, e⟩
  · right
    have e : i = pre.length := by omega
    subst e
    rw [List.getElem?_append_right (by rw [strsV_len]; exact Nat.le_refl _), strsV_len, Nat.sub_self] at h
    exact ⟨rfl, (Option.some.inj h).symm⟩

/-! ### things -/
mutual
theorem Dz.atom {g g' : Bool} {H H2 : Hp} : ∀ {v : V} {d : PyData}, Dz g H v d → atomD d = true → Dz g' H2 v d
  | _, _, .non, _ => .non
  | _, _, .bl b, _ => .bl b
  | _, _, .int i, _ => .int i
  | _, _, .str x, _ => .str x
  | _, _, .lst _ _ _, z => by cases z
  | _, _, .tup _ _, z => by cases z
  | _, _, .dic _ _, z => by cases z
theorem DzAll.atom {g g' : Bool} {H H2 : Hp} : ∀ {vs : List V} {ds : List PyData}, DzAll g H vs ds → (∀ d ∈ ds, atomD d = true) → DzAll g' H2 vs ds
  | _, _, .nil, _ => .nil
  | _, _, .cons h t, z => .cons (Dz.atom h (z _ List.mem_cons_self)) (DzAll.atom t fun d hd => z d (List.mem_cons_of_mem _ hd))
end
inductive Tg (H : Hp) : V → PyData → Prop
  | flat {v : V} {d : PyData} : Dz true H v d → atomD d = true → Tg H v d
  | tup {a : Addr} {xs : List V} {ds : List PyData} : H a = some (.tup xs) → DzAll true H xs ds → (∀ d ∈ ds, atomD d = true) → Tg H (.ref a) (.tuple ds)
  | lst {a : Addr} {xs : List V} {ds : List PyData} : H a = some (.lst xs) → a ≠ sysModules → DzAll true H xs ds → (∀ d ∈ ds, atomD d = true) → Tg H (.ref a) (.list ds)
  | dic {a : Addr} : H a = some (.dK []) → Tg H (.ref a) (.dict [])
theorem Tg.dz {H : Hp} {v : V} {d : PyData} (h : Tg H v d) : Dz true H v d := by
  cases h with
  | flat h _ => exact h
  | tup h a _ => exact .tup h a
  | lst h n a _ => exact .lst h (fun _ => n) a
  | dic h => exact .dic h .nil
theorem Tg.vd {H : Hp} {v : V} {d : PyData} (h : Tg H v d) : Vd H v d := ⟨true, h.dz⟩
theorem Tg.same {H H2 : Hp} {v : V} {d : PyData} (h : Tg H v d) (s : Same H H2) : Tg H2 v d := by
  cases h with
  | flat h a => exact .flat (Dz.same s h) a
  | tup h a z => exact .tup (s _ _ h) (DzAll.same s a) z
  | lst h n a z => exact .lst (s _ _ h) n (DzAll.same s a) z
  | dic h => exact .dic (s _ _ h)
theorem Tg.but {H H2 : Hp} {b : Addr} {bs : List V} (hb : H b = some (.lst bs)) (h4 : bs.length = 4) (t : But b H H2) {v : V} {d : PyData} (h : Tg H v d) (k : nobox d = true) : Tg H2 v d := by
  have full := Dz.but hb h4 t h.dz k
  cases h with
  | flat h a => exact .flat full a
  | tup h a z => exact .tup (t _ _ (fun e => by rw [e, hb] at h; cases h) h) (DzAll.atom a z) z
  | @lst p xs ds h n a z =>
    cases full with
    | lst h2 _ a2 =>
      have e : p ≠ b := fun e => by
        have k : ((ds.length != 4) && noboxAll ds) = true := k
        rw [Bool.and_eq_true] at k
        rw [e, hb] at h
        have := DzAll.len a
        cases h
        exact not4 k.1 (by omega)
      exact .lst (t _ _ e h) n (DzAll.atom a z) z
  | dic h => exact .dic (t _ _ (fun e => by rw [e, hb] at h; cases h) h)

/-! ### how long what is shown is -/
structure Sw (k B : Nat) (d : PyData) : Prop where
  sh : d.showable = true
  dp : d.depth ≤ k
  ln : d.shown.length ≤ B
theorem Sw.mono {j k A B : Nat} {d : PyData} (h : Sw j A d) (a : j ≤ k) (b : A ≤ B) : Sw k B d := ⟨h.sh, Nat.le_trans h.dp a, Nat.le_trans h.ln b⟩
theorem sw_odd {d : PyData} (h : oddOk d = true) : Sw 3 2000 d := by
  obtain ⟨_, b, c, e⟩ := oddOk_of h
  exact ⟨b, c, e⟩
theorem sw_all {k B : Nat} : ∀ {ds : List PyData}, (∀ d ∈ ds, Sw k B d) → PyData.showableAll ds = true ∧ PyData.depthAll ds ≤ k ∧ (ds.map fun d => d.shown.length + 2).sum ≤ ds.length * (B + 2)
  | [], _ => ⟨rfl, Nat.zero_le _, Nat.zero_le _⟩
  | d :: r, h => by
    obtain ⟨a, b, c⟩ := sw_all fun x hx => h x (List.mem_cons_of_mem _ hx)
    have e := h d List.mem_cons_self
    refine ⟨?_, ?_, ?_⟩
    · show (d.showable && PyData.showableAll r) = true
      rw [e.sh, a]
      rfl
    · show max d.depth (PyData.depthAll r) ≤ k
      have := e.dp
      omega
    · have := e.ln
      rw [List.map_cons, List.sum_cons, List.length_cons, Nat.succ_mul]
      omega
theorem Sw.list {k B m : Nat} {ds : List PyData} (h : ∀ d ∈ ds, Sw k B d) (hm : ds.length ≤ m) : Sw (k + 1) (4 + m * (B + 2)) (.list ds) := by
  obtain ⟨a, b, c⟩ := sw_all h
  refine ⟨a, ?_, ?_⟩
  · show PyData.depthAll ds + 1 ≤ k + 1
    omega
  · have := len_list ds
    have e : ds.length * (B + 2) ≤ m * (B + 2) := Nat.mul_le_mul_right _ hm
    omega
theorem Sw.tuple {k B m : Nat} {ds : List PyData} (h : ∀ d ∈ ds, Sw k B d) (hm : ds.length ≤ m) : Sw (k + 1) (4 + m * (B + 2)) (.tuple ds) := by
  obtain ⟨a, b, c⟩ := sw_all h
  refine ⟨a, ?_, ?_⟩
  · show PyData.depthAll ds + 1 ≤ k + 1
    omega
  · have := len_tuple ds
    have e : ds.length * (B + 2) ≤ m * (B + 2) := Nat.mul_le_mul_right _ hm
    omega
/-- repr of data -/
theorem show_of {H : Hp} {v : V} {d : PyData} {Q : VK} {k B : Nat} (h : Dz true H v d) (s : Sw k B d) (hk : k ≤ 60) (hB : B ≤ 16000000) (q : Q (.str d.shown) H) : zRepr [v] H Q :=
  ⟨true, d, h, fun _ => rfl, s.sh, Nat.le_trans s.dp hk, sz (Nat.le_trans s.ln hB), q⟩
end M10

/-! W1: errors as things: their class, their fields. -/
namespace Z
open PySem PySem.Spec PyProof.Rows L2

/-- at a stands an error of the class C with this dict, its context None -/
def ErA (H : Hp) (a C : Addr) (d : Option Addr) : Prop := ∃ φ, H a = some (.ext φ) ∧ ∀ h, φ h → ∃ (oe : Obj) (vs : Array Value), h.get? a = some oe ∧ oe.cls = .ref C ∧ oe.dict = d ∧ oe.data = .fields vs ∧ vs[2]? = some .none
theorem ErA.same {H H2 : Hp} {a C : Addr} {d : Option Addr} (h : ErA H a C d) (s : Same H H2) : ErA H2 a C d := by
  obtain ⟨φ, e, q⟩ := h
  exact ⟨φ, s _ _ e, q⟩
theorem ErA.ex {H : Hp} {a C : Addr} {d : Option Addr} (h : ErA H a C d) : ∃ φ, H a = some (.ext φ) := ⟨_, h.choose_spec.1⟩
theorem ErA.at {X : Cx} {pins : List (Addr × Obj)} {σ : L2.St} {H : Hp} {s : Shared} {a C : Addr} {d : Option Addr} (h : ErA H a C d) (I : Inv X pins σ H s) : ∃ (oe : Obj) (vs : Array Value), s.heap.get? a = some oe ∧ oe.cls = .ref C ∧ oe.dict = d ∧ oe.data = .fields vs ∧ vs[2]? = some .none := by
  obtain ⟨φ, e, q⟩ := h
  have x : ObjOk X.prog X.w H s.heap a (.ext φ) := I.hok a _ e
  exact q _ x.1
theorem exo_erA {H : Hp} {a C : Addr} {d : Option Addr} (h : H a = some (exo a C d)) : ErA H a C d := by
  refine ⟨_, h, fun h z => ?_⟩
  obtain ⟨t, z⟩ := z
  exact ⟨_, _, z, rfl, rfl, rfl, rfl⟩
/-- a caught error, as it stands -/
def errH (a C : Addr) (d : Option Addr) : HO := .ext fun h => ∃ (oe : Obj) (vs : Array Value), h.get? a = some oe ∧ oe.cls = .ref C ∧ oe.dict = d ∧ oe.data = .fields vs ∧ vs[2]? = some .none
/-- its fields -/
def XdA (H : Hp) (dx : Addr) (fs : List (Str × V)) : Prop := H dx = some (exd dx fs) ∨ H dx = some (.xd fs)
theorem XdA.same {H H2 : Hp} {dx : Addr} {fs : List (Str × V)} (h : XdA H dx fs) (s : Same H H2) : XdA H2 dx fs := h.imp (s _ _) (s _ _)
theorem XdA.at {X : Cx} {pins : List (Addr × Obj)} {σ : L2.St} {H : Hp} {s : Shared} {dx : Addr} {fs : List (Str × V)} (h : XdA H dx fs) (I : Inv X pins σ H s) : ∃ mA, s.heap.Ns1 dx mA ∧ ∀ f, RelO (fs.lookup f) (mA f) := by
  rcases h with h | h
  · exact exd_at I.hok h
  · exact (show ObjOk X.prog X.w H s.heap dx (.xd fs) from I.hok dx _ h)
/-- an error with its fields -/
def Ert (H : Hp) (a C : Addr) (fs : List (Str × V)) : Prop := (fs = [] ∧ ErA H a C none) ∨ ∃ dx, ErA H a C (some dx) ∧ XdA H dx fs
theorem Ert.same {H H2 : Hp} {a C : Addr} {fs : List (Str × V)} (h : Ert H a C fs) (s : Same H H2) : Ert H2 a C fs := by
  rcases h with ⟨e, h⟩ | ⟨dx, h, x⟩
  · exact .inl ⟨e, h.same s⟩
  · exact .inr ⟨dx, h.same s, x.same s⟩
theorem Ert.era {H : Hp} {a C : Addr} {fs : List (Str × V)} (h : Ert H a C fs) : ∃ d, ErA H a C d := by
  rcases h with ⟨_, h⟩ | ⟨dx, h, _⟩
  · exact ⟨_, h⟩
  · exact ⟨_, h⟩
theorem Ert.inst {X : Cx} {pins : List (Addr × Obj)} {σ : L2.St} {H : Hp} {s : Shared} {a C : Addr} {fs : List (Str × V)} (h : Ert H a C fs) (I : Inv X pins σ H s) : ∃ oe od, PySem.W.InstAt s.heap a oe C od := by
  rcases h with ⟨_, h⟩ | ⟨dx, h, x⟩
  · obtain ⟨oe, vs, e1, e2, e3, e4, _⟩ := h.at I
    exact ⟨oe, none, e1, e2, by unfold PySem.W.notCls; rw [e4] <;> rfl, by rw [e3]; exact True.intro⟩
  · obtain ⟨oe, vs, e1, e2, e3, e4, _⟩ := h.at I
    obtain ⟨mA, ns, _⟩ := x.at I
    obtain ⟨od, ho, _⟩ := lookIn_ns ns
    exact ⟨oe, some od, e1, e2, by unfold PySem.W.notCls; rw [e4] <;> rfl, by rw [e3]; exact ho⟩
/-- isinstance(an error, a class) -/
def zIsE (K : PySem.W.Frag) : List V → Hp → VK → Prop := fun xs H Q => match xs with
  | [.ref a, .ref c] => ∃ C fs b, Ert H a C fs ∧ Es K C ∧ PySem.W.kitOne K (.ref C) (.ref c) = some b ∧ Q (.bl b) H
  | [.ref a, .ty c] => ∃ C fs b, Ert H a C fs ∧ Es K C ∧ PySem.W.kitOne K (.ref C) (.type c) = some b ∧ Q (.bl b) H
  | _ => False
theorem c_isE {X : Cx} : CallR X (.builtin "isinstance") (zIsE X.K) := by
  intro pins s σ H xs us Q I r h
  have go : ∀ {a C : Addr} {fs : List (Str × V)} {cv : Value} {b : Bool}, Ert H a C fs → Es X.K C → PySem.W.kitOne X.K (.ref C) cv = some b → Q (.bl b) H → wpAny (model X.prog X.w) X.A (call (.builtin "isinstance") [.ref a, cv]) (EP X pins σ Q) X.xe s := by
    intro a C fs cv b e S ask q
    obtain ⟨oe, od, J⟩ := e.inst I
    have cl : (PySem.W.clsIn X.K C).isSome = true := by
      obtain ⟨cd, hc, _⟩ := PySem.W.any_some S.xf.hdC
      rw [hc]
      rfl
    exact PySem.W.kia_one (PySem.W.kitx_exc cl S.xf.ga S.xf.gg S.xf.exC S.ha S.hn S.ht S.hm) I.kIn J ask (fun z => nomatch z) fun tk => ⟨.bl b, H, I.tok _, rfl, q⟩
  unfold zIsE at h
  split at h
  · obtain ⟨C, fs, b, e, S, ask, q⟩ := h
    cases r with
    | cons r1 rr =>
      cases rr with
      | cons r2 rr =>
        cases rr
        cases r1
        cases r2
        exact go e S ask q
  · obtain ⟨C, fs, b, e, S, ask, q⟩ := h
    cases r with
    | cons r1 rr =>
      cases rr with
      | cons r2 rr =>
        cases rr
        cases r1
        cases r2
        exact go e S ask q
  · exact h.elim
theorem k_isE {X : Cx} (K : PySem.W.Frag) (hK : X.K = K := by rfl) : CallR X (.builtin "isinstance") (zIsE K) := hK ▸ c_isE
/-- e.f of an error -/
def tXg (K : PySem.W.Frag) (f : Str) (te : TE) : TE := fun σ H Q => te σ H fun x H1 => ∃ a C fs v, x = .ref a ∧ Ert H1 a C fs ∧ XfC K C ∧ PySem.W.findIn K (.ref C) f = some none ∧ fs.lookup f = some v ∧ Q v H1
theorem pe_xg {X : Cx} {e : Expr} {te : TE} {pos : Pos} {n : Str} (he : PE X e te) (hb : attributeBase e n X.env (eval e X.env) = eval e X.env := by rfl) : PE X (.Attribute e n pos) (tXg X.K n te) := by
  refine ⟨fun pins s σ H Q I h => attr_of hb (thn (he.run pins s σ H _ I h) fun u s1 hh => ?_)⟩
  obtain ⟨x, H1, I1, rx, a, C, fs, v, rfl, er, T, hno, l, q⟩ := hh
  obtain rfl : u = Value.ref a := rx
  rcases er with ⟨rfl, _⟩ | ⟨dx, er, xd⟩
  · cases l
  · obtain ⟨oe, vs, e1, e2, e3, e4, _⟩ := er.at I1
    obtain ⟨mA, ns, hr⟩ := xd.at I1
    obtain ⟨od, ho, hl⟩ := lookIn_ns ns
    obtain ⟨u, hu, ru⟩ := RelO.some_of (v := v) (o := mA n) (by rw [← l]; exact hr n)
    have J : PySem.W.InstAt s1.heap a oe C (some od) := ⟨e1, e2, by unfold PySem.W.notCls; rw [e4] <;> rfl, by rw [e3]; exact ho⟩
    exact HandSPX.exc_get I1.kIn J T.ga T.gg T.exC (PySem.W.findObj_own T.hdC hno rfl (by rw [hl, hu])) (handed_of ru) ⟨v, H1, I1.tok _, ru, q⟩
theorem pe_xgK {X : Cx} (K : PySem.W.Frag) {e : Expr} {te : TE} {pos : Pos} {n : Str} (he : PE X e te) (hK : X.K = K := by rfl) (hb : attributeBase e n X.env (eval e X.env) = eval e X.env := by rfl) : PE X (.Attribute e n pos) (tXg K n te) := hK ▸ pe_xg he hb
/-- what the classes say of each other -/
theorem ErrC.sub {K : PySem.W.Frag} {C B : Addr} (T : ErrC K C B) (D : Addr) : PySem.W.subIn K (.ref C) (.ref D) = some (decide (D = C) || decide (D = B)) := by
  obtain ⟨m1, m2, m3, m4, m5, m6, m7, m8, m9, m10, m11, m12, m13, m14, cl⟩ := T.cls
  have kd : PySem.W.clsIn K C = some ⟨m1, m4, mroE C B, m3, m2, true, m5, m6, m7, m8, false⟩ := by
    unfold PySem.W.clsIn
    rw [cl]
    rfl
  show PySem.W.mroIn K C (.ref D) = _
  unfold PySem.W.mroIn
  rw [kd, Option.bind_some]
  show some ((Value.ref C :: Value.ref B :: tailE).contains (.ref D)) = _
  rw [List.contains_cons, List.contains_cons]
  have t : tailE.contains (.ref D) = false := rfl
  rw [t, Bool.or_false]
  have be : ∀ x y : Addr, ((Value.ref x) == (Value.ref y)) = decide (x = y) := fun x y => by
    by_cases z : x = y
    · subst z; simp
    · rw [decide_eq_false z]
      simpa using z
  rw [be, be]
/-- isinstance of one of the package's errors -/
theorem kit_err {K : PySem.W.Frag} {C D B : Addr} (T : ErrC K C B) (hd : PySem.W.hasDictIn K D = true) (ty : PySem.W.typeIn K (.ref D) = some (.type "type")) : PySem.W.kitOne K (.ref C) (.ref D) = some (decide (D = C) || decide (D = B)) :=
  kit_sub (T.sub D) (by rw [T.sub C]; simp) hd ty
end Z

/-! W2: errors made, as values and to be raised; a second field. -/
namespace Z
open PySem PySem.Spec PyProof.Rows L2

section
open PySem.W PySem.Calls PySem.HandSPX Builtin Builtin.ObjectAttr
variable {prog : Program} {w : World} {A : Around} {R : Result → Shared → Prop} {hp : Heap} {g : Array GenState} {d : Drawn} {t : Nat} {os : OsState}
/-- a further field of an error -/
theorem next_field {K : PySem.W.Frag} {nm : Str} {tk : Tok} {v : Value} {x C B dx : Addr} {fv : Array Value} {cd : ClassData} {m0 : Str → Option Value} {nl : List Str} (inK : K.In hp) (here : hp.get? x = some { cls := .ref C, dict := some dx, data := .fields fv })
    (names : hp.Ns1 dx m0) (few : Within m0 nl) (hz : nl.length ≤ 1000) (kd : PySem.W.clsIn K C = some cd) (mro : cd.mro = mroE C B) (has : cd.hasDict = true) (own : PySem.W.findIn K (.ref C) nm = some none)
    (done : ∀ h' tk', (∀ b o, b ≠ dx → hp.get? b = some o → h'.get? b = some o) → h'.Ns1 dx (fun y => if y = nm then some v else m0 y) → R (.ok (.ret .none)) ⟨h', g, d, tk', os⟩) :
    codeAny (model prog w) A (.call (.builtin "object.__setattr__") ⟨[.ref x, .str nm tk, v], []⟩) R ⟨hp, g, d, t, os⟩ := by
  obtain ⟨oD, esD, epD, hoD, hdD, _⟩ := names.count few
  have at0 : PySem.W.InstAt hp x { cls := .ref C, dict := some dx, data := .fields fv } C (some oD) := ⟨here, rfl, rfl, hoD⟩
  have obj : cd.mro.contains (.type "object") = true := by rw [mro, mroE_has]; decide +kernel
  have isObj : PySem.W.Looks (model prog w) hp (isInstance (.ref x) (.type "object")) true :=
    at0.type.andThen (PySem.W.looks_mroIn inK (by unfold PySem.W.mroIn; rw [kd, Option.bind_some, if_neg (by rw [mro]; exact Bool.false_ne_true), obj]))
  have St := PySem.F.store_object
  apply codeAny_call_builtin St.slot.plain St.entry
  apply @PySem.W.check_slot (model prog w) _ _ ⟨hp, g, d, t, os⟩ "object.__setattr__" "object" "__setattr__" (.ref x) [.str nm tk, v] [] _ St.kind St.split isObj (St.args (.ref x) (.str nm tk) v)
  have theMro : PySem.W.Looks (model prog w) hp (mroOf (.ref C)) cd.mro := PySem.W.Looks.andThen (PySem.W.looks_clsIn inK kd) .now
  have noTaker : PySem.W.Looks (model prog w) hp (storeTaker? none) none := .now
  have theCls : PySem.W.Looks (model prog w) hp (classData C) cd := PySem.W.looks_clsIn inK kd
  rw [PySem.W.osa_eq, refuse_eq]
  apply wpAny_bind
  apply wpAny_bind
  apply at0.type.at
  apply wpAny_bind
  apply theMro.at
  rw [mro, mroE_pass]
  apply wpAny_pure
  apply wpAny_bind
  apply at0.type.at
  apply wpAny_bind
  apply PySem.W.Looks.at (PySem.W.looks_findIn inK own)
  apply wpAny_bind
  apply noTaker.at
  show wpAny _ _ (storeInOwnDict (.ref x) (.ref C) (.str nm tk) nm v false) _ _ _
  cases cd with
  | mk n1 n2 n3 n4 n5 n6 n7 n8 n9 n10 n11 =>
    have n6t : n6 = true := has
    subst n6t
    unfold storeInOwnDict ownDictForStores
    repeat (first | with_reducible refine PySem.OEX.store_in_old names few hz ?_ | with_reducible refine wpAny_loadPart_at here ?_ | with_reducible refine theCls.at ?_ | wp_step)
    intro h' tk' hn' but
    exact done h' tk' (fun b o nb ob => (but.2 b nb).trans ob) hn'
end
section
variable {X : Cx} {pins : List (Addr × Obj)} {σ : L2.St} {H : Hp} {s : Shared} {a C B dx : Addr} {E : Value → Shared → Prop} {A : Around} {fs : List (Str × V)}
/-- self.f = y, a further one -/
theorem err_more {f : Str} {y : V} {u : Value} {Q : Unit → Shared → Prop} (T : ErrC X.K C B) (I : Inv X pins σ H s) (e : H a = some (exo a C (some dx))) (ed : H dx = some (exd dx fs)) (few : fs.length ≤ 900) (own : PySem.W.findIn X.K (.ref C) f = some none) (ry : RelV y u)
    (h : ∀ s', Inv X pins σ (upd H dx (exd dx ((f, y) :: fs))) s' → Q () s') : wpAny (model X.prog X.w) A (setAttr (.ref a) f u) Q E s := by
  obtain ⟨m1, m2, m3, m4, m5, m6, m7, m8, m9, m10, m11, m12, m13, m14, cl⟩ := T.cls
  have kd : PySem.W.clsIn X.K C = some ⟨m1, m4, mroE C B, m3, m2, true, m5, m6, m7, m8, false⟩ := by
    unfold PySem.W.clsIn
    rw [cl]
    rfl
  obtain ⟨old, here⟩ := exo_at I.hok e
  obtain ⟨mA, names, rel⟩ := exd_at I.hok ed
  have wi := within_of rel
  cases s with
  | mk hp g d t os =>
    obtain ⟨oD, _, _, hoD, _, _⟩ := names.count wi
    apply PySem.W.set_plain I.kIn (ox := { cls := .ref C, dict := some dx, data := .fields #[.ref old, .none, .none, .none, .bool false, .none] }) (od := some oD) ⟨here, rfl, rfl, hoD⟩ T.sa
    apply next_field I.kIn here names wi (by rw [List.length_map]; omega) kd rfl rfl own
    intro h' tk' keep ns
    have there : ∃ o, h'.get? dx = some o := by
      obtain ⟨o, _, _, q, _⟩ := ns
      exact ⟨o, q⟩
    exact h _ (I.write (t' := tk') (x := dx) (e := dx) (o := exd dx ((f, y) :: fs)) (by rw [ed]; exact True.intro) (Or.inl rfl) keep there (exd_ok ns (relO_put ry rel)))
end
section
variable {X : Cx} {pins : List (Addr × Obj)} {σ : L2.St}
/-- self.f = e, a further field -/
def tErrM (K : PySem.W.Frag) (f : Str) (to te : TE) : TS := fun D σ H => te σ H fun y H1 => to σ H1 fun x H2 => ∃ (a C B dx : Addr) (fs : List (Str × V)), x = .ref a ∧ ErrC K C B ∧ PySem.W.findIn K (.ref C) f = some none ∧ H2 a = some (exo a C (some dx)) ∧ H2 dx = some (exd dx fs) ∧ fs.length ≤ 900 ∧
  D.nx σ (upd H2 dx (exd dx ((f, y) :: fs)))
theorem ps_errM {o e : Expr} {to te : TE} {f : Str} {p' pos : Pos} (ho : PE X o to) (he : PE X e te) (hs : swapsWith e (some (.Attribute o f p')) pos.line X.env = pure false := by rfl) : PS X (.Assign [.Attribute o f p'] e pos) (tErrM X.K f to te) := by
  constructor
  intro pins s σ H D I h
  apply plainObj_wpAny_Assign_Attribute _ hs
  apply thn (he.run pins s σ H _ I h)
  rintro v s1 ⟨y, H1, I1, r1, q1⟩
  apply thn (ho.run pins s1 σ H1 _ I1 q1)
  rintro u s2 ⟨x, H2, I2, r2, a, C, B, dx, fs, rfl, T, own, ea, ed, few, q⟩
  obtain rfl : u = Value.ref a := r2
  exact err_more T I2 ea ed few own r1 fun s' J => ⟨σ, _, J, q⟩
/-- what the __init__ of an error with two fields leaves -/
def spIni2 (C : Addr) (f g : Str) : Sp := sp3 fun u v z H Q _ => ∃ a, u = .ref a ∧ H a = some (exo a C none) ∧ ∀ dx, H dx = none → dx ≠ a → Q .non (upd (upd (upd H dx (exd dx [(f, v)])) a (exo a C (some dx))) dx (exd dx [(g, z), (f, v)]))
/-- behind the making of an error -/
def ErrPost (X : Cx) (pins : List (Addr × Obj)) (σ : L2.St) (s1 : Shared) (H1 : Hp) (C : Addr) (Qf : Addr → Hp → Prop) (u : Value) (s' : Shared) : Prop :=
  ∃ (a : Addr) (s2 : Shared) (H2 : Hp), u = .ref a ∧ s1.heap.objs.size ≤ a ∧ (∀ b o, s1.heap.get? b = some o → s2.heap.get? b = some o) ∧ Inv X pins σ (upd H1 a (exo a C none)) s2 ∧ s'.os = s1.os ∧ s2.os = s1.os ∧ AllBare s'.gens ∧
    Un (frs X.stack) [] (upd H1 a (exo a C none)) H2 s2.heap s'.heap ∧ HOk X.prog X.w H2 s'.heap ∧ Qf a H2
/-- C(..) by place: the call -/
theorem err_call {k : Nat} {fI : Addr} {fd : FuncData} {ps : List Str} {sp : Sp} {C B : Addr} {H1 : Hp} {s1 : Shared} {us : List Value} {vs : List V} {Qf : Addr → Hp → Prop} {R : Value → Shared → Prop} {E : Value → Shared → Prop}
    (T : ErrC X.K C B) (iC : PySem.W.findIn X.K (.ref C) "__init__" = some (some (.ref fI))) (tI : PySem.W.typeIn X.K (.ref fI) = some (.type "function")) (F1 : FnOk X.prog X.w X.K X.mg X.base CX0 k fI fd ps sp) (hr : Room (k + 1) X.A) (hb : Binds X.K fd ps [])
    (I1 : Inv X pins σ H1 s1) (r1 : Vals vs us) (few : vs.length ≤ 1000) (q1 : ∀ a, H1 a = none → sp (.ref a :: vs) (upd H1 a (exo a C none)) (fun v H2 => v = .non ∧ Qf a H2) (fun _ _ _ => False))
    (fin : ∀ u s', ErrPost X pins σ s1 H1 C Qf u s' → R u s') : wpAny (model X.prog X.w) X.A (call (.ref C) us) R E s1 := by
  obtain ⟨_, _, _, _, _, _, _, _, _, _, _, _, _, _, cl⟩ := T.cls
  obtain ⟨hp, g, dr, tk, os⟩ := s1
  have later : hp.objs.size ≤ hp.objs.size + 1 := Nat.le_succ _
  have q2 := q1 _ (I1.hok.fresh later)
  have more : ∀ b o, hp.get? b = some o → ((hp.push (PySem.W.kdv_tup us)).push (PySem.HandSPX.excO C hp.objs.size)).get? b = some o := fun _ _ z => Heap.get?_push_of_some _ (Heap.get?_push_of_some _ z)
  have new : ((hp.push (PySem.W.kdv_tup us)).push (PySem.HandSPX.excO C hp.objs.size)).get? (hp.objs.size + 1) = some (PySem.HandSPX.excO C hp.objs.size) := by heap_get
  have I2 := I1.laid (t' := tk) (o := exo (hp.objs.size + 1) C none) more later (exo_ok new)
  have r2 : Vals (V.ref (hp.objs.size + 1) :: vs) (Value.ref (hp.objs.size + 1) :: us) := .cons rfl r1
  have len : (Value.ref (hp.objs.size + 1) :: us).length = ps.length := r2.length.symm.trans (F1.len _ _ _ _ q2)
  have bind := hb _ (Value.ref (hp.objs.size + 1) :: us) I2.kIn (by simpa using len)
  rw [List.append_nil] at bind
  have fit : us.length ≤ sizeLine := by
    rw [← Paired.length r1, sizeLine_eq]
    omega
  apply wpAny_call
  apply PySem.HandSPX.call_own PySem.F.excBase_Exception (fun Y => by rw [List.contains_cons]; rfl) (I1.kIn _ _ cl) (PySem.W.looks_findIn I1.kIn iC) (fun self => PySem.W.bind_fn I1.kIn self tI) fit
  refine codeAny_mono (F1.run _ X.stack _ _ ⟨Value.ref (hp.objs.size + 1) :: us, []⟩ _ _ _ (fun _ _ _ => False) (hr.make C us []) (I2.env0.make C us []) bind r2 q2) ?_
  intro r s' z
  match r, s', z with
  | .error er, s', z => exact (show False from z).elim
  | .ok (.ret u), ⟨h2, g2, d2, t2, os'⟩, ⟨v, H2, sos, sbare, sun, sok, rv, ev, q3⟩ =>
    subst ev
    exact ⟨rv, fin _ _ ⟨_, _, H2, rfl, later, more, I2, sos, rfl, sbare, sun, sok, q3⟩⟩
  | .ok .next, _, z => exact False.elim z
  | .ok .brk, _, z => exact False.elim z
  | .ok .cont, _, z => exact False.elim z
/-- C(k=..): the call -/
theorem err_callK {k : Nat} {fI : Addr} {fd : FuncData} {ps ks : List Str} {g : {α : Type} → List α → List α} {sp : Sp} {C B : Addr} {H1 : Hp} {s1 : Shared} {us : List Value} {vs : List V} {Qf : Addr → Hp → Prop} {R : Value → Shared → Prop} {E : Value → Shared → Prop}
    (T : ErrC X.K C B) (iC : PySem.W.findIn X.K (.ref C) "__init__" = some (some (.ref fI))) (tI : PySem.W.typeIn X.K (.ref fI) = some (.type "function")) (F1 : FnOk X.prog X.w X.K X.mg X.base CX0 k fI fd ps sp) (hr : Room (k + 1) X.A)
    (hb : ∀ (s : Shared) (self : Value) (ws : List Value), (g ws).length + 1 = ps.length → BindsTo s fd ⟨[self], ks.zip ws⟩ (ps.zip (self :: g ws))) (hrel : ∀ {zs : List V} {ws : List Value}, Vals zs ws → Vals (g zs) (g ws))
    (I1 : Inv X pins σ H1 s1) (r1 : Vals vs us) (q1 : ∀ a, H1 a = none → sp (.ref a :: g vs) (upd H1 a (exo a C none)) (fun v H2 => v = .non ∧ Qf a H2) (fun _ _ _ => False))
    (fin : ∀ u s', ErrPost X pins σ s1 H1 C Qf u s' → R u s') : codeAny (model X.prog X.w) X.A (.call (.ref C) ⟨[], ks.zip us⟩) (fun r s' => match r with | .ok (.ret v) => R v s' | .ok _ => False | .error e => E e s') s1 := by
  obtain ⟨_, _, _, _, _, _, _, _, _, _, _, _, _, _, cl⟩ := T.cls
  obtain ⟨hp, gg, dr, tk, os⟩ := s1
  have later : hp.objs.size ≤ hp.objs.size + 1 := Nat.le_succ _
  have q2 := q1 _ (I1.hok.fresh later)
  have more : ∀ b o, hp.get? b = some o → ((hp.push (PySem.W.kdv_tup [])).push (PySem.HandSPX.excO C hp.objs.size)).get? b = some o := fun _ _ z => Heap.get?_push_of_some _ (Heap.get?_push_of_some _ z)
  have new : ((hp.push (PySem.W.kdv_tup [])).push (PySem.HandSPX.excO C hp.objs.size)).get? (hp.objs.size + 1) = some (PySem.HandSPX.excO C hp.objs.size) := by heap_get
  have I2 := I1.laid (t' := tk) (o := exo (hp.objs.size + 1) C none) more later (exo_ok new)
  have r2 : Vals (V.ref (hp.objs.size + 1) :: g vs) (Value.ref (hp.objs.size + 1) :: g us) := .cons rfl (hrel r1)
  have len : (Value.ref (hp.objs.size + 1) :: g us).length = ps.length := r2.length.symm.trans (F1.len _ _ _ _ q2)
  have bind := hb { heap := (hp.push (PySem.W.kdv_tup [])).push (PySem.HandSPX.excO C hp.objs.size), gens := gg, drawn := dr, toks := tk, os := os } (Value.ref (hp.objs.size + 1)) us len
  apply PySem.HandSPX.call_kw PySem.F.excBase_Exception (fun Y => by rw [List.contains_cons]; rfl) (I1.kIn _ _ cl) (PySem.W.looks_findIn I1.kIn iC) (fun self => PySem.W.bind_fn I1.kIn self tI)
  refine codeAny_mono (F1.run _ X.stack _ _ ⟨[Value.ref (hp.objs.size + 1)], ks.zip us⟩ _ _ _ (fun _ _ _ => False) (hr.make C [] (ks.zip us)) (I2.env0.make C [] (ks.zip us)) bind r2 q2) ?_
  intro r s' z
  match r, s', z with
  | .error er, s', z => exact (show False from z).elim
  | .ok (.ret u), ⟨h2, g2, d2, t2, os'⟩, ⟨v, H2, sos, sbare, sun, sok, rv, ev, q3⟩ =>
    subst ev
    exact ⟨rv, fin _ _ ⟨_, _, H2, rfl, later, more, I2, sos, rfl, sbare, sun, sok, q3⟩⟩
  | .ok .next, _, z => exact False.elim z
  | .ok .brk, _, z => exact False.elim z
  | .ok .cont, _, z => exact False.elim z
/-- it is a value -/
theorem ErrPost.ep {s1 : Shared} {H1 : Hp} {C : Addr} {Q : VK} {u : Value} {s' : Shared} (h : ErrPost X pins σ s1 H1 C (fun a H2 => Q (.ref a) H2) u s') : EP X pins σ Q u s' := by
  obtain ⟨a, s2, H2, rfl, _, _, I2, o1, o2, ba, un, ok, q⟩ := h
  have ho : s'.os = s2.os := o1.trans o2.symm
  exact ⟨.ref a, H2, I2.call' (ch := []) ho un ok ba (fun b z => absurd z (by simp)), rfl, q⟩
/-- it is raised -/
theorem ErrPost.mk {s1 : Shared} {H1 : Hp} {C B : Addr} {Q : XK} {u : Value} {s' : Shared} (T : ErrC X.K C B) (I1 : Inv X pins σ H1 s1)
    (h : ErrPost X pins σ s1 H1 C (fun a H2 => ∃ (d : Addr) (fs : List (Str × V)), H2 a = some (exo a C (some d)) ∧ H2 d = some (exd d fs) ∧ H1 d = none ∧ Q (.ref C) (some d) (upd (del H2 a) d (.xd fs))) u s') : L2N.MkP X pins σ Q u s' := by
  obtain ⟨a, s2, H2, rfl, ha, k, I2, o1, o2, ba, un, ok, d, fs, ea, ed, hd1, q⟩ := h
  obtain ⟨hp, g1, d1, t1, os1⟩ := s1
  obtain ⟨h2, g2, d2, t2, os2⟩ := s'
  obtain ⟨t0, G, J, kG, ge, hoe, na⟩ := mk_end0 (d2 := d2) (t2 := t2) (g2 := g2) (os2 := os2) I1 ha k un ok o1 ba ea ed hd1
  exact ⟨a, _, _, ⟨G, g2, d2, t2, os2⟩, _, .ref C, some d, rfl, J, kG, ge, hoe, ⟨rfl, rfl, fun vs e => by cases e; rfl⟩, rfl, rfl, na, rfl, ba, raises_own T.exC T.tyC, q⟩
/-! ### one field -/
theorem ert1 {H1 : Hp} {a C dx : Addr} {f : Str} {v : V} (na : H1 a = none) (nd : (upd H1 a (exo a C none)) dx = none) (ne : dx ≠ a) :
    Same H1 (upd (upd (upd H1 a (exo a C none)) dx (exd dx [(f, v)])) a (exo a C (some dx))) ∧ Ert (upd (upd (upd H1 a (exo a C none)) dx (exd dx [(f, v)])) a (exo a C (some dx))) a C [(f, v)] := by
  rw [upd_ne ne] at nd
  refine ⟨fun b o e => ?_, .inr ⟨dx, exo_erA upd_same, .inl ?_⟩⟩
  · rw [upd_ne (ne_of_none e na), upd_ne (ne_of_none e nd), upd_ne (ne_of_none e na)]
    exact e
  · rw [upd_ne ne, upd_same]
theorem raise1 {H1 : Hp} {a C dx : Addr} {f : Str} {v : V} {Q : XK} (na : H1 a = none) (nd : (upd H1 a (exo a C none)) dx = none) (ne : dx ≠ a) (q : Q (.ref C) (some dx) (upd H1 dx (.xd [(f, v)]))) :
    ∃ (d : Addr) (fs : List (Str × V)), (upd (upd (upd H1 a (exo a C none)) dx (exd dx [(f, v)])) a (exo a C (some dx))) a = some (exo a C (some d)) ∧ (upd (upd (upd H1 a (exo a C none)) dx (exd dx [(f, v)])) a (exo a C (some dx))) d = some (exd d fs) ∧ H1 d = none ∧
      Q (.ref C) (some d) (upd (del (upd (upd (upd H1 a (exo a C none)) dx (exd dx [(f, v)])) a (exo a C (some dx))) a) d (.xd fs)) := by
  rw [upd_ne ne] at nd
  refine ⟨dx, [(f, v)], upd_same, by rw [upd_ne ne, upd_same], nd, ?_⟩
  have e : upd (del (upd (upd (upd H1 a (exo a C none)) dx (exd dx [(f, v)])) a (exo a C (some dx))) a) dx (.xd [(f, v)]) = upd H1 dx (.xd [(f, v)]) := by
    funext b
    by_cases z : b = dx
    · rw [z, upd_same, upd_same]
    · rw [upd_ne z, upd_ne z]
      by_cases y : b = a
      · rw [y, del_same, na]
      · rw [del_ne y, upd_ne y, upd_ne z, upd_ne y]
  rw [e]
  exact q
def tE1 (C : Addr) (f : Str) (t : TA) : TE := fun σ H Q => t σ H fun vs H1 => match vs with
  | [v] => ∀ a H2, Same H1 H2 → H1 a = none → Ert H2 a C [(f, v)] → Q (.ref a) H2
  | _ => False
theorem pe_e1 {k : Nat} {x f : Str} {C : Addr} {e : Expr} {t : TA} {p pos : Pos} (R : Er X.prog X.w X.K X.mg X.base k x f C) (hr : Room (k + 1) X.A) (ha : PA X [e] t) (hg : Gl X x := by rfl) (hdb : (x == ("__debug__" : Str)) = false := by decide)
    (he : starEach [e] X.env = (false, eval e X.env) :: starEach [] X.env := by rfl) (hpl : (backTo pos (starEach [] X.env)).any (·.1) = false := by rfl) : PE X (.Call (.Name x p) [e] [] pos) (tE1 C f t) := by
  obtain ⟨B, fI, fd, ps, T, iC, tI, F, hb⟩ := R.ex
  refine ⟨fun pins s σ H Q I h => wpAny_Call_Name_kw (ld_glob I hg R.name (PySem.W.callWith_K (h₀ := X.base) I.ok.mod.kin T.kC (thn (ha.run pos pins s σ H _ I h) fun us s1 ⟨vs, H1, I1, r1, q1⟩ => ⟨I1.kIn, ?_⟩) he hpl) hdb)⟩
  unfold tE1 at h
  dsimp only at q1
  split at q1
  · rename_i v
    exact err_call (Qf := fun a H2 => Q (.ref a) H2) T iC tI F hr hb I1 r1 (by show 1 ≤ 1000; decide) (fun a na => ⟨a, rfl, upd_same, fun dx nd ne => ⟨rfl, by
      obtain ⟨z1, z2⟩ := ert1 (f := f) (v := v) na nd ne
      exact q1 a _ z1 na z2⟩⟩) fun u s' z => z.ep
  · exact q1.elim
/-- an error's class, made by names -/
structure ErK (P : Program) (w : World) (K : PySem.W.Frag) (mg : Str → Option Value) (base : Heap) (k : Nat) (x : Str) (ks : List Str) (g : {α : Type} → List α → List α) (C : Addr) (sp : Sp) : Prop where
  name : mg x = some (.ref C)
  ex : ∃ (B fI : Addr) (fd : FuncData) (ps : List Str), ErrC K C B ∧ PySem.W.findIn K (.ref C) "__init__" = some (some (.ref fI)) ∧ PySem.W.typeIn K (.ref fI) = some (.type "function") ∧ FnOk P w K mg base CX0 k fI fd ps sp ∧
    (∀ (s : Shared) (self : Value) (ws : List Value), (g ws).length + 1 = ps.length → BindsTo s fd ⟨[self], ks.zip ws⟩ (ps.zip (self :: g ws))) ∧ (∀ {zs : List V} {ws : List Value}, Vals zs ws → Vals (g zs) (g ws))
theorem pe_e1K {k : Nat} {x f : Str} {ks : List Str} {C : Addr} {kws : List Keyword} {t : TA} {p pos : Pos} (R : ErK X.prog X.w X.K X.mg X.base k x ks (fun l => l) C (spIni C f)) (hr : Room (k + 1) X.A) (hkw : PK X kws t) (hg : Gl X x := by rfl)
    (hall : (backToKw pos (keywordEach kws X.env)).all (·.1.isSome) = true := by rfl) (hks : (backToKw pos (keywordEach kws X.env)).filterMap (·.1) = ks := by rfl)
    (hdb : (x == ("__debug__" : Str)) = false := by decide) (hpl : ((backTo pos (starEach [] X.env)).any (·.1) || (backToKw pos (keywordEach kws X.env)).any (·.1.isNone)) = false := by rfl) : PE X (.Call (.Name x p) [] kws pos) (tE1 C f t) := by
  obtain ⟨B, fI, fd, ps, T, iC, tI, F, hb, hrel⟩ := R.ex
  refine ⟨fun pins s σ H Q I h => wpAny_Call_Name_kw (ld_glob I hg R.name (PySem.W.callWith_KW0 (h₀ := X.base) I.ok.mod.kin T.kC hall (thn (hkw.run pos pins s σ H _ I h) fun us s1 ⟨vs, H1, I1, r1, q1⟩ => ⟨I1.kIn, ?_⟩) hpl) hdb)⟩
  rw [hks]
  dsimp only at q1
  split at q1
  · rename_i v
    exact wpAny_call (err_callK (g := fun l => l) (Qf := fun a H2 => Q (.ref a) H2) T iC tI F hr hb hrel I1 r1 (fun a na => ⟨a, rfl, upd_same, fun dx nd ne => ⟨rfl, by
      obtain ⟨z1, z2⟩ := ert1 (f := f) (v := v) na nd ne
      exact q1 a _ z1 na z2⟩⟩) fun u s' z => z.ep)
  · exact q1.elim
/-- raise C(e), where nothing is handled -/
def tMk1 (C : Addr) (f : Str) (t : TA) : L2.St → Hp → XK → Prop := fun σ H Q => t σ H fun vs H1 => match vs with
  | [v] => ∀ d H2, Nw H1 d (.xd [(f, v)]) H2 → Q (.ref C) (some d) H2
  | _ => False
theorem pmk1 {k : Nat} {x f : Str} {C : Addr} {e : Expr} {t : TA} {p pos : Pos} (R : Er X.prog X.w X.K X.mg X.base k x f C) (hr : Room (k + 1) X.A) (ha : PA X [e] t) (hg : Gl X x := by rfl) (hdb : (x == ("__debug__" : Str)) = false := by decide)
    (he : starEach [e] X.env = (false, eval e X.env) :: starEach [] X.env := by rfl) (hpl : (backTo pos (starEach [] X.env)).any (·.1) = false := by rfl) : L2N.PMk X (.Call (.Name x p) [e] [] pos) (tMk1 C f t) := by
  obtain ⟨B, fI, fd, ps, T, iC, tI, F, hb⟩ := R.ex
  intro pins s σ H Q I h
  refine wpAny_Call_Name_kw (ld_glob I hg R.name (PySem.W.callWith_K (h₀ := X.base) I.ok.mod.kin T.kC (thn (ha.run pos pins s σ H _ I h) fun us s1 ⟨vs, H1, I1, r1, q1⟩ => ⟨I1.kIn, ?_⟩) he hpl) hdb)
  dsimp only at q1
  split at q1
  · rename_i v
    exact err_call T iC tI F hr hb I1 r1 (by show 1 ≤ 1000; decide) (fun a na => ⟨a, rfl, upd_same, fun dx nd ne => ⟨rfl, raise1 na nd ne (q1 dx _ (nw (by rw [upd_ne ne] at nd; exact nd)))⟩⟩) fun u s' z => z.mk T I1
  · exact q1.elim
theorem pmk1K {k : Nat} {x f : Str} {ks : List Str} {C : Addr} {kws : List Keyword} {t : TA} {p pos : Pos} (R : ErK X.prog X.w X.K X.mg X.base k x ks (fun l => l) C (spIni C f)) (hr : Room (k + 1) X.A) (hkw : PK X kws t) (hg : Gl X x := by rfl)
    (hall : (backToKw pos (keywordEach kws X.env)).all (·.1.isSome) = true := by rfl) (hks : (backToKw pos (keywordEach kws X.env)).filterMap (·.1) = ks := by rfl)
    (hdb : (x == ("__debug__" : Str)) = false := by decide) (hpl : ((backTo pos (starEach [] X.env)).any (·.1) || (backToKw pos (keywordEach kws X.env)).any (·.1.isNone)) = false := by rfl) : L2N.PMk X (.Call (.Name x p) [] kws pos) (tMk1 C f t) := by
  obtain ⟨B, fI, fd, ps, T, iC, tI, F, hb, hrel⟩ := R.ex
  intro pins s σ H Q I h
  refine wpAny_Call_Name_kw (ld_glob I hg R.name (PySem.W.callWith_KW0 (h₀ := X.base) I.ok.mod.kin T.kC hall (thn (hkw.run pos pins s σ H _ I h) fun us s1 ⟨vs, H1, I1, r1, q1⟩ => ⟨I1.kIn, ?_⟩) hpl) hdb)
  rw [hks]
  dsimp only at q1
  split at q1
  · rename_i v
    exact wpAny_call (err_callK (g := fun l => l) T iC tI F hr hb hrel I1 r1 (fun a na => ⟨a, rfl, upd_same, fun dx nd ne => ⟨rfl, raise1 na nd ne (q1 dx _ (nw (by rw [upd_ne ne] at nd; exact nd)))⟩⟩) fun u s' z => z.mk T I1)
  · exact q1.elim
/-! ### two fields -/
theorem two_eq {H1 : Hp} {a C dx : Addr} {f g : Str} {v z : V} (ne : dx ≠ a) : upd (upd (upd (upd H1 a (exo a C none)) dx (exd dx [(f, v)])) a (exo a C (some dx))) dx (exd dx [(g, z), (f, v)]) = upd (upd H1 a (exo a C (some dx))) dx (exd dx [(g, z), (f, v)]) := by
  funext b
  by_cases y : b = dx
  · rw [y, upd_same, upd_same]
  · rw [upd_ne y, upd_ne y]
    by_cases y2 : b = a
    · rw [y2, upd_same, upd_same]
    · rw [upd_ne y2, upd_ne y, upd_ne y2, upd_ne y2]
theorem ert2 {H1 : Hp} {a C dx : Addr} {f g : Str} {v z : V} (na : H1 a = none) (nd : (upd H1 a (exo a C none)) dx = none) (ne : dx ≠ a) :
    Same H1 (upd (upd (upd (upd H1 a (exo a C none)) dx (exd dx [(f, v)])) a (exo a C (some dx))) dx (exd dx [(g, z), (f, v)])) ∧ Ert (upd (upd (upd (upd H1 a (exo a C none)) dx (exd dx [(f, v)])) a (exo a C (some dx))) dx (exd dx [(g, z), (f, v)])) a C [(g, z), (f, v)] := by
  rw [upd_ne ne] at nd
  rw [two_eq ne]
  refine ⟨fun b o e => ?_, .inr ⟨dx, exo_erA (by rw [upd_ne ne.symm, upd_same]), .inl upd_same⟩⟩
  rw [upd_ne (ne_of_none e nd), upd_ne (ne_of_none e na)]
  exact e
theorem raise2 {H1 : Hp} {a C dx : Addr} {f g : Str} {v z : V} {Q : XK} (na : H1 a = none) (nd : (upd H1 a (exo a C none)) dx = none) (ne : dx ≠ a) (q : Q (.ref C) (some dx) (upd H1 dx (.xd [(g, z), (f, v)]))) :
    ∃ (d : Addr) (fs : List (Str × V)), (upd (upd (upd (upd H1 a (exo a C none)) dx (exd dx [(f, v)])) a (exo a C (some dx))) dx (exd dx [(g, z), (f, v)])) a = some (exo a C (some d)) ∧ (upd (upd (upd (upd H1 a (exo a C none)) dx (exd dx [(f, v)])) a (exo a C (some dx))) dx (exd dx [(g, z), (f, v)])) d = some (exd d fs) ∧ H1 d = none ∧
      Q (.ref C) (some d) (upd (del (upd (upd (upd (upd H1 a (exo a C none)) dx (exd dx [(f, v)])) a (exo a C (some dx))) dx (exd dx [(g, z), (f, v)])) a) d (.xd fs)) := by
  rw [upd_ne ne] at nd
  rw [two_eq ne]
  refine ⟨dx, [(g, z), (f, v)], by rw [upd_ne ne.symm, upd_same], upd_same, nd, ?_⟩
  have e : upd (del (upd (upd H1 a (exo a C (some dx))) dx (exd dx [(g, z), (f, v)])) a) dx (.xd [(g, z), (f, v)]) = upd H1 dx (.xd [(g, z), (f, v)]) := by
    funext b
    by_cases y : b = dx
    · rw [y, upd_same, upd_same]
    · rw [upd_ne y, upd_ne y]
      by_cases y2 : b = a
      · rw [y2, del_same, na]
      · rw [del_ne y2, upd_ne y, upd_ne y2]
  rw [e]
  exact q
/-- an error's class of two fields, under its name -/
structure Er2 (P : Program) (w : World) (K : PySem.W.Frag) (mg : Str → Option Value) (base : Heap) (k : Nat) (x f g : Str) (C : Addr) : Prop where
  name : mg x = some (.ref C)
  ex : ∃ (B fI : Addr) (fd : FuncData) (ps : List Str), ErrC K C B ∧ PySem.W.findIn K (.ref C) "__init__" = some (some (.ref fI)) ∧ PySem.W.typeIn K (.ref fI) = some (.type "function") ∧ FnOk P w K mg base CX0 k fI fd ps (spIni2 C f g) ∧ Binds K fd ps []
def tE2 (C : Addr) (f g : Str) (h : {α : Type} → List α → List α) (t : TA) : TE := fun σ H Q => t σ H fun vs H1 => match h vs with
  | [v, z] => ∀ a H2, Same H1 H2 → H1 a = none → Ert H2 a C [(g, z), (f, v)] → Q (.ref a) H2
  | _ => False
theorem pe_e2 {k : Nat} {x f g : Str} {C : Addr} {e e2 : Expr} {t : TA} {p pos : Pos} (R : Er2 X.prog X.w X.K X.mg X.base k x f g C) (hr : Room (k + 1) X.A) (ha : PA X [e, e2] t) (hg : Gl X x := by rfl) (hdb : (x == ("__debug__" : Str)) = false := by decide)
    (he : starEach [e, e2] X.env = (false, eval e X.env) :: starEach [e2] X.env := by rfl) (hpl : (backTo pos (starEach [e2] X.env)).any (·.1) = false := by rfl) : PE X (.Call (.Name x p) [e, e2] [] pos) (tE2 C f g (fun l => l) t) := by
  obtain ⟨B, fI, fd, ps, T, iC, tI, F, hb⟩ := R.ex
  refine ⟨fun pins s σ H Q I h => wpAny_Call_Name_kw (ld_glob I hg R.name (PySem.W.callWith_K (h₀ := X.base) I.ok.mod.kin T.kC (thn (ha.run pos pins s σ H _ I h) fun us s1 ⟨vs, H1, I1, r1, q1⟩ => ⟨I1.kIn, ?_⟩) he hpl) hdb)⟩
  dsimp only at q1
  split at q1
  · rename_i v z
    exact err_call (Qf := fun a H2 => Q (.ref a) H2) T iC tI F hr hb I1 r1 (by show 2 ≤ 1000; decide) (fun a na => ⟨a, rfl, upd_same, fun dx nd ne => ⟨rfl, by
      obtain ⟨z1, z2⟩ := ert2 (f := f) (g := g) (v := v) (z := z) na nd ne
      exact q1 a _ z1 na z2⟩⟩) fun u s' z => z.ep
  · exact q1.elim
theorem pe_e2K {k : Nat} {x f g : Str} {ks : List Str} {h : {α : Type} → List α → List α} {C : Addr} {kws : List Keyword} {t : TA} {p pos : Pos} (R : ErK X.prog X.w X.K X.mg X.base k x ks h C (spIni2 C f g)) (hr : Room (k + 1) X.A) (hkw : PK X kws t) (hg : Gl X x := by rfl)
    (hall : (backToKw pos (keywordEach kws X.env)).all (·.1.isSome) = true := by rfl) (hks : (backToKw pos (keywordEach kws X.env)).filterMap (·.1) = ks := by rfl)
    (hdb : (x == ("__debug__" : Str)) = false := by decide) (hpl : ((backTo pos (starEach [] X.env)).any (·.1) || (backToKw pos (keywordEach kws X.env)).any (·.1.isNone)) = false := by rfl) : PE X (.Call (.Name x p) [] kws pos) (tE2 C f g h t) := by
  obtain ⟨B, fI, fd, ps, T, iC, tI, F, hb, hrel⟩ := R.ex
  refine ⟨fun pins s σ H Q I hh => wpAny_Call_Name_kw (ld_glob I hg R.name (PySem.W.callWith_KW0 (h₀ := X.base) I.ok.mod.kin T.kC hall (thn (hkw.run pos pins s σ H _ I hh) fun us s1 ⟨vs, H1, I1, r1, q1⟩ => ⟨I1.kIn, ?_⟩) hpl) hdb)⟩
  rw [hks]
  dsimp only at q1
  split at q1
  · rename_i v z ev
    refine wpAny_call (err_callK (g := h) (Qf := fun a H2 => Q (.ref a) H2) T iC tI F hr hb hrel I1 r1 (fun a na => ?_) fun u s' z => z.ep)
    rw [ev]
    refine ⟨a, rfl, upd_same, fun dx nd ne => ⟨rfl, ?_⟩⟩
    obtain ⟨z1, z2⟩ := ert2 (f := f) (g := g) (v := v) (z := z) na nd ne
    exact q1 a _ z1 na z2
  · exact q1.elim
def tMk2 (C : Addr) (f g : Str) (h : {α : Type} → List α → List α) (t : TA) : L2.St → Hp → XK → Prop := fun σ H Q => t σ H fun vs H1 => match h vs with
  | [v, z] => ∀ d H2, Nw H1 d (.xd [(g, z), (f, v)]) H2 → Q (.ref C) (some d) H2
  | _ => False
theorem pmk2K {k : Nat} {x f g : Str} {ks : List Str} {h : {α : Type} → List α → List α} {C : Addr} {kws : List Keyword} {t : TA} {p pos : Pos} (R : ErK X.prog X.w X.K X.mg X.base k x ks h C (spIni2 C f g)) (hr : Room (k + 1) X.A) (hkw : PK X kws t) (hg : Gl X x := by rfl)
    (hall : (backToKw pos (keywordEach kws X.env)).all (·.1.isSome) = true := by rfl) (hks : (backToKw pos (keywordEach kws X.env)).filterMap (·.1) = ks := by rfl)
    (hdb : (x == ("__debug__" : Str)) = false := by decide) (hpl : ((backTo pos (starEach [] X.env)).any (·.1) || (backToKw pos (keywordEach kws X.env)).any (·.1.isNone)) = false := by rfl) : L2N.PMk X (.Call (.Name x p) [] kws pos) (tMk2 C f g h t) := by
  obtain ⟨B, fI, fd, ps, T, iC, tI, F, hb, hrel⟩ := R.ex
  intro pins s σ H Q I hh
  refine wpAny_Call_Name_kw (ld_glob I hg R.name (PySem.W.callWith_KW0 (h₀ := X.base) I.ok.mod.kin T.kC hall (thn (hkw.run pos pins s σ H _ I hh) fun us s1 ⟨vs, H1, I1, r1, q1⟩ => ⟨I1.kIn, ?_⟩) hpl) hdb)
  rw [hks]
  dsimp only at q1
  split at q1
  · rename_i v z ev
    refine wpAny_call (err_callK (g := h) T iC tI F hr hb hrel I1 r1 (fun a na => ?_) fun u s' z => z.mk T I1)
    rw [ev]
    exact ⟨a, rfl, upd_same, fun dx nd ne => ⟨rfl, raise2 na nd ne (q1 dx _ (nw (by rw [upd_ne ne] at nd; exact nd)))⟩⟩
  · exact q1.elim
/-! ### none -/
def tE0 (C : Addr) : TE := fun _ H Q => ∀ a H2, Same H H2 → H a = none → Ert H2 a C [] → Q (.ref a) H2
theorem pe_e0 {x : Str} {C : Addr} {p pos : Pos} (R : Er0 X.K X.mg x C) (hg : Gl X x := by rfl) (hdb : (x == ("__debug__" : Str)) = false := by decide) : PE X (.Call (.Name x p) [] [] pos) (tE0 C) := by
  refine ⟨fun pins s σ H Q I h => ?_⟩
  refine wpAny_Call_Name_kw (ld_glob I hg R.name ?_ hdb)
  refine PySem.W.callWith_K0 (first := []) I.kIn R.kC ?_
  obtain ⟨hp, g, d, t, os⟩ := s
  show wpAny _ _ (call (.ref C) []) _ _ _
  obtain ⟨bm, N, nm, qn, bs, hdct, sn, sub, ab, col, dd, k0, k1, k2, k3, k5, mN, hC, hN, hni, T⟩ := exc_obj I.kIn R.q
  refine wpAny_call_exc_subT PySem.F.excBase_Exception T hC hN hni (fun h' e hm => ?_) (by show 0 ≤ sizeLine; exact Nat.zero_le _)
  obtain ⟨t1, he, _, _⟩ := hm.there
  have na : H e = none := I.hok.gone hm.new
  exact ⟨.ref e, _, I.laidN (t' := t) (o := exo e C none) hm.keeps hm.new na (exo_ok he), rfl, h e _ (nw na).same na (.inl ⟨rfl, exo_erA upd_same⟩)⟩
theorem pmk0 {x : Str} {C : Addr} {p pos : Pos} (R : Er0 X.K X.mg x C) (hg : Gl X x := by rfl) (hdb : (x == ("__debug__" : Str)) = false := by decide) : L2N.PMk X (.Call (.Name x p) [] [] pos) (fun _ H Q => Q (.ref C) none H) := by
  intro pins s σ H Q I h
  refine wpAny_Call_Name_kw (ld_glob I hg R.name ?_ hdb)
  refine PySem.W.callWith_K0 (first := []) I.kIn R.kC ?_
  obtain ⟨hp, g, d, t, os⟩ := s
  show wpAny _ _ (call (.ref C) []) _ _ _
  obtain ⟨bm, N, nm, qn, bs, hdct, sn, sub, ab, col, dd, k0, k1, k2, k3, k5, mN, hC, hN, hni, T⟩ := exc_obj I.kIn R.q
  refine wpAny_call_exc_subT PySem.F.excBase_Exception T hC hN hni (fun h' e hm => ?_) (by show 0 ≤ sizeLine; exact Nat.zero_le _)
  exact L2N.mk_of I hm (raises_own R.exC R.tyC) h (I.hok.gone hm.new)
/-- raise of what is made there -/
theorem ps_rN {W : WX} {e : Expr} {t : L2.St → Hp → XK → Prop} {pos : Pos} (hc : X.calm = true) (tk : L2N.Takes X W) (he : L2N.PMk X e t) : PS X (.Raise (some e) none pos) (fun _ σ H => t σ H fun cls d H' => W cls d σ H') := L2N.ps_raise hc tk he
end
end Z

/-! W3: defs called where an error may be handled. -/
namespace Z
open PySem PySem.Spec PyProof.Rows L2

/-- nothing is handled, or an error that stands in H -/
def Warm (A : Around) (H : Hp) : Prop := A.handled = none ∨ ∃ a C d, A.handled = some (.ref a) ∧ ErA H a C d
theorem Warm.same {A : Around} {H H2 : Hp} (h : Warm A H) (s : Same H H2) : Warm A H2 := by
  rcases h with h | ⟨a, C, d, e, q⟩
  · exact .inl h
  · exact .inr ⟨a, C, d, e, q.same s⟩
theorem Warm.hot {X : Cx} {pins : List (Addr × Obj)} {σ : L2.St} {H : Hp} {s : Shared} {A : Around} (h : Warm A H) (I : Inv X pins σ H s) : A.handled = none ∨ ∃ x1, HotX.HotAt A x1 s.heap := by
  rcases h with h | ⟨a, C, d, e, q⟩
  · exact .inl h
  · obtain ⟨oe, vs, e1, _, _, e4, e5⟩ := q.at I
    exact .inr ⟨a, e, oe, vs, e1, e4, e5⟩
structure RoomW (k : Nat) (A : Around) : Prop where
  room : L2H.RoomH k A
  free : A.guards = some []
theorem RoomW.mono {j k : Nat} {A : Around} (r : RoomW k A) (h : j ≤ k) : RoomW j A := ⟨r.room.mono h, r.free⟩
theorem RoomW.down {k : Nat} {A : Around} (r : RoomW (k + 1) A) (env : Env) : RoomW k (A.deeper env) := ⟨r.room.deeper env, r.free⟩
theorem RoomW.units {k : Nat} {A : Around} (r : RoomW k A) : A.units + 64 < cLine := by have := r.room.un; omega
theorem RoomG.w {k : Nat} {A : Around} (r : RoomG k A) : RoomW k A := ⟨L2H.roomH_of r.room, r.free⟩
theorem RoomG.wm {k : Nat} {A : Around} (r : RoomG k A) (h : Option Value) : RoomW k (A.mark h) := ⟨⟨r.room.dp, r.room.un⟩, r.free⟩
/-- the context of such a def's body -/
abbrev cxW (P : Program) (w : World) (K : PySem.W.Frag) (mg : Str → Option Value) (base : Heap) (N : List Str) (qual : Str) (scope : Scope) (f : Addr) (cd : Value) (A : Around) (outer : List Env) (s : Shared) (H : Hp) (E : XK) (p : Addr × Obj) : Cx :=
  { cxOf CX0 P w K mg base N qual scope f cd A outer s H E with calm := false, pn := [p] }
/-- a def's promise there -/
structure FnW (P : Program) (w : World) (K : PySem.W.Frag) (mg : Str → Option Value) (base : Heap) (k : Nat) (f : Addr) (fd : FuncData) (ps : List Str) (sp : Sp) : Prop where
  many : ∀ vs H Q E, sp vs H Q E → vs.length = ps.length
  call : ∀ (A : Around) (outer : List Env) (s : Shared) (H : Hp) (args : Args) (us : List Value) (vs : List V) (Q : VK) (E : XK), RoomW k A → Warm A H → Env0 P w K mg base A outer s H → BindsTo s fd args (ps.zip us) → Vals vs us → sp vs H Q E →
    codeAny (model P w) A (.call (.ref f) args) (CR CX0 outer P w H s Q E) s
structure Cw (P : Program) (w : World) (K : PySem.W.Frag) (mg : Str → Option Value) (base : Heap) (k : Nat) (x : Str) (ps : List Str) (sp : Sp) : Prop where
  ex : ∃ f fd, mg x = some (.ref f) ∧ PySem.W.keepIn K (.ref f) = true ∧ Binds K fd ps [] ∧ FnW P w K mg base k f fd ps sp ∧ ∃ oc od osl, K.lookup f = some ⟨oc, od, .func fd, osl⟩
/-- where nothing is handled -/
theorem Cw.g {P : Program} {w : World} {K : PySem.W.Frag} {mg : Str → Option Value} {base : Heap} {k : Nat} {x : Str} {ps : List Str} {sp : Sp} (C : Cw P w K mg base k x ps sp) : Cg P w K mg base CX0 k x ps sp := by
  obtain ⟨f, fd, a, b, c, F, d⟩ := C.ex
  exact ⟨f, fd, a, b, c, ⟨F.many, fun A outer s H args us vs Q E r => F.call A outer s H args us vs Q E r.w (.inl r.room.hd)⟩, d⟩
section
variable {P : Program} {w : World} {K : PySem.W.Frag} {mg : Str → Option Value} {base : Heap}
theorem fnw {x : Str} {st : Stmt} {f : Addr} {fd : FuncData} {N ps : List Str} {k : Nat} {sp : Sp} (F : Fun K x x st f fd) (S : FnScope N ps (defScope st)) (len : ∀ vs H Q E, sp vs H Q E → vs.length = ps.length)
    (body : ∀ (cdv : Value) (A : Around) (outer : List Env) (s : Shared) (H : Hp) (vs : List V) (Q : VK) (E : XK) (p : Addr × Obj), RoomW k (A.deeper (envOfC x (defScope st) s.heap.objs.size f cdv)) → Warm (A.deeper (envOfC x (defScope st) s.heap.objs.size f cdv)) H → sp vs H Q E →
      ∃ t, PSs (cxW P w K mg base N x (defScope st) f cdv A outer s H E p) (defBody st) t ∧ t { nx := fun _ H' => Q .non H', rt := Q } (start N vs) H) : FnW P w K mg base (k + 1) f fd ps sp := by
  refine ⟨len, fun A outer s H args us vs Q E hr wm e0 hb r h => ?_⟩
  obtain ⟨oc, od, kV, doc, pm, an, cdv, ct, osl, e, lk, hcd⟩ := F.ex
  subst e
  have hl := len _ _ _ _ h
  have grow : ∀ b o, base.get? b = some o → s.heap.get? b = some o := fun b o q => (e0.bs b o q).1
  have inK := e0.mod.kin.keeps grow
  have there := e0.mod.kin _ _ lk
  have hpin : L2H.PinOk outer H s (f, ⟨oc, od, .func (PySem.W.fnOf x x (defArgs st) (defBody st) (defScope st) .none kV doc pm an cdv ct), osl⟩) :=
    ⟨(e0.bs _ _ there).1, (e0.bs _ _ there).2, (fun hm => by
      have := (e0.funs.mem hm).1
      rw [there] at this
      cases this), (fun v z => by cases z)⟩
  obtain ⟨t, ht, hq⟩ := body cdv A outer s H vs Q E _ (hr.down _) wm h
  have seen : ∀ y ∈ ps.zip us, (defScope st).names.lookup y.1 = some .local ∨ ((defScope st).names.lookup y.1 = some .cell ∧ ((cellsFrom (s.heap.objs.size + 1) (defScope st).names []).lookup y.1).isSome = true) := by
    intro y hy
    exact (S.par y.1 (List.of_mem_zip (a := y.1) (b := y.2) hy).1).imp_right fun q => ⟨q, PySem.W.cellsFrom_some _ _ _ (.inl q)⟩
  apply codeAny_call_function hr.room.depth (inK _ _ lk) rfl S.co S.gen rfl (PySem.W.codeRec_of inK hcd)
  apply hb
  apply wpAny_newFunctionEnv_cells S.kind seen
  rintro env rfl s1 x1
  refine And.intro ((e0.mod.nolimit.keeps grow).keeps x1.toInCall.keep) (codeAny_func ?_)
  have I : Inv (cxW P w K mg base N x (defScope st) f cdv A outer s H E _) [] (start N vs) H s1 := L2H.inv_startH (CX := CX0) (E := E) S hpin e0 hl r x1
  refine wpAny_mono (ht.run [] s1 (start N vs) H _ I hq) ?_ (fun _ _ z => z)
  have out : ∀ (s' : Shared) (σ' : L2.St) (H' : Hp) (v : V) (u : Value), Inv (cxW P w K mg base N x (defScope st) f cdv A outer s H E (f, ⟨oc, od, .func (PySem.W.fnOf x x (defArgs st) (defBody st) (defScope st) .none kV doc pm an cdv ct), osl⟩)) [] σ' H' s' → RelV v u → Q v H' → CE outer P w H s Q u s' :=
    fun s' σ' H' v u J rv z => ⟨v, H', J.os, J.bare, J.base, J.hok, rv, z⟩
  intro fl s' hs
  match fl, hs with
  | .ret u, ⟨v, σ', H', J, rv, z⟩ => exact out s' σ' H' v u J rv z
  | .next, ⟨σ', H', J, z⟩ => exact out s' σ' H' .non .none J rfl z
  | .brk, ⟨_, _, _, z⟩ => exact z.elim
  | .cont, ⟨_, _, _, z⟩ => exact z.elim
theorem cw1 {x : Str} {st : Stmt} {a : Str} {N : List Str} {k : Nat} {p : V → Hp → VK → XK → Prop} (D : Df K mg x st [a]) (S : FnScope N [a] (defScope st))
    (body : ∀ (f : Addr) (cdv : Value) (A : Around) (outer : List Env) (s : Shared) (H : Hp) (u : V) (Q : VK) (E : XK) (pp : Addr × Obj), RoomW k (A.deeper (envOfC x (defScope st) s.heap.objs.size f cdv)) → Warm (A.deeper (envOfC x (defScope st) s.heap.objs.size f cdv)) H → p u H Q E →
      ∃ t, PSs (cxW P w K mg base N x (defScope st) f cdv A outer s H E pp).nox (defBody st) t ∧ t { nx := fun _ H' => Q .non H', rt := Q } (start N [u]) H) : Cw P w K mg base (k + 1) x [a] (sp1 p) := by
  obtain ⟨f, fd, F, hm, hb⟩ := D.ex
  refine ⟨f, fd, hm, F.kp, hb, fnw F S (fun vs H Q E h => ?_) (fun cdv A outer s H vs Q E pp hr wm h => ?_), fun_at F⟩
  · obtain ⟨u, rfl, _⟩ := sp1_of h
    rfl
  · obtain ⟨u, rfl, h⟩ := sp1_of h
    obtain ⟨t, a, b⟩ := body f cdv A outer s H u Q E pp hr wm h
    exact ⟨t, a.nox, b⟩
theorem cw2 {x : Str} {st : Stmt} {a b : Str} {N : List Str} {k : Nat} {p : V → V → Hp → VK → XK → Prop} (D : Df K mg x st [a, b]) (S : FnScope N [a, b] (defScope st))
    (body : ∀ (f : Addr) (cdv : Value) (A : Around) (outer : List Env) (s : Shared) (H : Hp) (u v : V) (Q : VK) (E : XK) (pp : Addr × Obj), RoomW k (A.deeper (envOfC x (defScope st) s.heap.objs.size f cdv)) → Warm (A.deeper (envOfC x (defScope st) s.heap.objs.size f cdv)) H → p u v H Q E →
      ∃ t, PSs (cxW P w K mg base N x (defScope st) f cdv A outer s H E pp).nox (defBody st) t ∧ t { nx := fun _ H' => Q .non H', rt := Q } (start N [u, v]) H) : Cw P w K mg base (k + 1) x [a, b] (sp2 p) := by
  obtain ⟨f, fd, F, hm, hb⟩ := D.ex
  refine ⟨f, fd, hm, F.kp, hb, fnw F S (fun vs H Q E h => ?_) (fun cdv A outer s H vs Q E pp hr wm h => ?_), fun_at F⟩
  · obtain ⟨u, v, rfl, _⟩ := sp2_of h
    rfl
  · obtain ⟨u, v, rfl, h⟩ := sp2_of h
    obtain ⟨t, a, b⟩ := body f cdv A outer s H u v Q E pp hr wm h
    exact ⟨t, a.nox, b⟩
end
section
variable {X : Cx} {k : Nat} {x : Str} {ps : List Str} {sp : Sp} {p pos : Pos} {e : Expr} {es : List Expr} {t : TA}
/-- a call of such a def -/
def tCw (A : Around) (sp : Sp) (t : TA) : TE := fun σ H Q => t σ H fun vs H1 => Warm A H1 ∧ sp vs H1 Q (fun _ _ _ => False)
theorem pe_cw (C : Cw X.prog X.w X.K X.mg X.base k x ps sp) (hr : RoomW k X.A) (ha : PA X (e :: es) t) (hg : Gl X x := by rfl)
    (hdb : (x == ("__debug__" : Str)) = false := by decide)
    (he : starEach (e :: es) X.env = (false, eval e X.env) :: starEach es X.env := by rfl) (hpl : (backTo pos (starEach es X.env)).any (·.1) = false := by rfl) : PE X (.Call (.Name x p) (e :: es) [] pos) (tCw X.A sp t) := by
  obtain ⟨f, fd, hm, hk, hb, F, _⟩ := C.ex
  refine ⟨fun pins s σ H Q I h => wpAny_Call_Name_kw (ld_glob I hg hm (PySem.W.callWith_K (h₀ := X.base) I.ok.mod.kin hk (thn (ha.run pos pins s σ H _ I h) fun us s1 ⟨vs, H1, I1, r, wm, q⟩ => ⟨I1.kIn, ?_⟩) he hpl) hdb)⟩
  have hl : us.length = ps.length := r.length.symm.trans (F.many _ _ _ _ q)
  have b := hb s1 us I1.kIn (by simpa using hl)
  rw [List.append_nil] at b
  refine wpAny_call (codeAny_mono (F.call X.A X.stack s1 H1 ⟨us, []⟩ us vs Q (fun _ _ _ => False) hr wm I1.env0 b r q) ?_)
  intro r s' hq
  match r, hq with
  | .error e, hq => exact (show False from hq).elim
  | .ok (.ret u), hq => exact I1.after hq
  | .ok .next, hq => exact False.elim hq
  | .ok .brk, hq => exact False.elim hq
  | .ok .cont, hq => exact False.elim hq
end
end Z

/-! W4: a comprehension over a range where an error may be handled; repr there; try over what was raised where nothing was handled. -/
namespace Z
open PySem PySem.Spec PyProof.Rows L2
section
variable {X : Cx}
/-- the range's end is reached -/
theorem range_over {A : Around} {it : Addr} {x left step : Int} {s : Shared} {Q : Option Value → Shared → Prop} {E : Value → Shared → Prop} {prog : Program} {w : World} (warm : A.handled = none ∨ ∃ x1, HotX.HotAt A x1 s.heap) (hit : IsRangeIter s.heap it x left step) (hl : left ≤ 0)
    (hQ : ∀ h', (∀ b o, b ≠ it → s.heap.get? b = some o → h'.get? b = some o) → Q none { s with heap := h' }) : wpAny (model prog w) A (pyNext (.ref it)) Q E s := by
  rcases warm with hh | ⟨x1, hot⟩
  · exact wpAny_pyNext_range_end hh hit hl fun h' eb => hQ h' fun b o nb e => eb b o nb e
  · exact HotX.pyNext_range_end_hot hot hit hl fun h' kp => hQ h' fun b o _ e => kp b o e
/-- [elt for tg in range(a) if ..] -/
def tLcR (A : Around) (ta : TA) (g : TG) (tt : TT) (te : TE) (vs : List Nat) : TE := fun σ H Q => ta σ H fun xs H1 => ∃ n : Nat, xs = [.int n] ∧ (n : Int) < 2 ^ 62 ∧ ∀ D, H1 D = none → ∃ W : Nat → List V → Hp → Prop, W 0 [] (upd H1 D (.lst [])) ∧ (∀ i acc H2, W i acc H2 → Warm A H2 ∧ H2 D = some (.lst acc) ∧ acc.length < sizeLine) ∧
  (∀ i acc H2, i < n → W i acc H2 → g (.int i) (wipe σ vs) H2 fun σ2 H3 => wipe σ2 vs = wipe σ vs ∧ tt σ2 H3 fun b H4 => if b = true then te σ2 H4 fun y H5 => H5 D = some (.lst acc) ∧ W (i + 1) (acc ++ [y]) (upd H5 D (.lst (acc ++ [y]))) else W (i + 1) acc H4) ∧ ∀ acc H2, W n acc H2 → Q (.ref D) H2
theorem pe_lcR {elt tg a : Expr} {ifs : List Expr} {scope : Scope} {own : List (Str × Nat)} {pos p p2 : Pos} {ta : TA} {g : TG} {tt : TT} {te : TE} (hN : X.N.Nodup) (hgl : Gl X "range") (hm : X.mg "range" = none) (ha : PA X [a] ta) (ok : BlkOk X.N X.env.scope scope own)
    (hg : ∀ (s : Shared) (H : Hp) (C : Addr) (cl : List (Str × Addr)) (fp : List Addr), PG (X.blk s H scope (compEnvC scope cl C X.env) fp) tg g) (ht : ∀ (s : Shared) (H : Hp) (C : Addr) (cl : List (Str × Addr)) (fp : List Addr), PTs (X.blk s H scope (compEnvC scope cl C X.env) fp) ifs tt)
    (he : ∀ (s : Shared) (H : Hp) (C : Addr) (cl : List (Str × Addr)) (fp : List Addr), PE (X.blk s H scope (compEnvC scope cl C X.env) fp) elt te) (hst : starEach [a] X.env = [(false, eval a X.env)] := by rfl)
    (hs : ∀ x, foldedSetIterable (.Call (.Name "range" p) [a] [] p2) X.env x = pure x := by intro _; rfl) :
    PE X (.ListComp elt [⟨tg, .Call (.Name "range" p) [a] [] p2, ifs, 0⟩] scope pos) (tLcR X.A ta g tt te (own.map (·.2))) := by
  constructor
  intro pins s σ H Q I h
  rw [eval_ListComp]
  have caught : ∀ y ∈ scope.names, y.2 = .free → ∃ c, X.env.cells.lookup y.1 = some c := fun y hy e => (ok.free y hy e).elim (fun k => I.ok.has _ (.inl k)) fun k => I.ok.has _ (.inr k)
  refine wpAny_comprehension_free (use := none) rfl hs (closure_ok caught) ok.kind (fun y hy e => by rw [ok.uniq y hy, e]) ?_
  refine Call_ (ld_blt I hgl hm boot_range (PyProof.Rows.callWith_type1 (thn (ha.run p2 pins s σ H _ I h) ?_) hst rfl))
  rintro us s1 ⟨vs, H1, I1, r1, n, rfl, hn, q⟩
  obtain ⟨u1, rfl, t1, rfl⟩ : ∃ u1, us = [u1] ∧ RelV (.int n) u1 := by
    cases r1 with
    | cons r rr => cases rr; exact ⟨_, rfl, r⟩
  refine call_range_1 ?_
  -- the range, its iterator
  have I1a : Inv X pins σ H1 { s1 with heap := s1.heap.push { cls := .type "range", data := .fields #[.int 0 s1.toks, .int n t1, .int 1 (s1.toks + 1)] }, toks := s1.toks + 1 + 1 } := I1.kept fun b o e => Heap.get?_push_of_some _ e
  refine wpAny_pyIter_range (IsRange.new ..) (small_one (by omega) (by omega) (by omega) hn) ?_
  generalize hsa : ({ s1 with heap := s1.heap.push { cls := .type "range", data := .fields #[.int 0 s1.toks, .int n t1, .int 1 (s1.toks + 1)] }, toks := s1.toks + 1 + 1 } : Shared) = sa at I1a ⊢
  have rs : Builtin.Range.rangeSize 0 (n : Int) 1 = (n : Int) := by rw [rangeSize_one]; split <;> omega
  rw [rs]
  have I2 : Inv X pins σ H1 { sa with heap := sa.heap.push { cls := .type "range_iterator", data := .fields #[rawInt 0, rawInt (n : Int), rawInt 1] } } := I1a.kept (t' := sa.toks) fun b o e => Heap.get?_push_of_some _ e
  have st2 : IsRangeIter (sa.heap.push { cls := .type "range_iterator", data := .fields #[rawInt 0, rawInt (n : Int), rawInt 1] }) sa.heap.objs.size 0 (n : Int) 1 := Heap.get?_push_size _ rfl
  have fIt : FpOk X pins H1 sa.heap.objs.size := I1a.fpOk (Nat.le_refl _) (I1a.hok.fresh (Nat.le_refl _))
  have lt2 : sa.heap.objs.size < (sa.heap.push { cls := .type "range_iterator", data := .fields #[rawInt 0, rawInt (n : Int), rawInt 1] }).objs.size := by rw [Heap.size_push]; omega
  generalize hit : sa.heap.objs.size = it at st2 fIt lt2 ⊢
  generalize hs2 : ({ sa with heap := sa.heap.push { cls := .type "range_iterator", data := .fields #[rawInt 0, rawInt (n : Int), rawInt 1] } } : Shared) = s2 at I2 ⊢
  rw [show sa.heap.push { cls := .type "range_iterator", data := .fields #[rawInt 0, rawInt (n : Int), rawInt 1] } = s2.heap by rw [← hs2]] at st2 lt2
  -- the new list
  refine wpAny_newObj_type (newEnv_comp ?_) (by show 0 ≤ sizeLine; decide)
  have free2 : H1 s2.heap.objs.size = none := I2.hok.fresh (Nat.le_refl _)
  obtain ⟨W, w0, facts, turn, done⟩ := q _ free2
  have I3 : Inv X pins σ (upd H1 s2.heap.objs.size (.lst [])) { s2 with heap := s2.heap.push { cls := .type "list", data := .seq ([] : List Value).toArray } } :=
    I2.laid (t' := s2.toks) (fun b o e => Heap.get?_push_of_some _ e) (Nat.le_refl _) ⟨Nat.zero_le _, [], 0, .nil, Heap.get?_push_size _ rfl⟩
  have nD : it ≠ s2.heap.objs.size := Nat.ne_of_lt lt2
  have f3 : FpOk X pins (upd H1 s2.heap.objs.size (.lst [])) it := ⟨by rw [upd_ne nD]; exact fIt.1, fIt.2⟩
  have lt3 : it < (s2.heap.push { cls := .type "list", data := .seq ([] : List Value).toArray }).objs.size := by rw [Heap.size_push]; omega
  have st3 : IsRangeIter (s2.heap.push { cls := .type "list", data := .seq ([] : List Value).toArray }) it 0 (n : Int) 1 := Heap.get?_push_of_some _ st2
  generalize s2.heap.objs.size = D at w0 facts turn done I3 nD f3 ⊢
  generalize hs3 : ({ s2 with heap := s2.heap.push { cls := .type "list", data := .seq ([] : List Value).toArray } } : Shared) = s3 at I3 ⊢
  have h3 : s2.heap.push { cls := .type "list", data := .seq ([] : List Value).toArray } = s3.heap := by rw [← hs3]
  rw [h3] at lt3 st3
  generalize upd H1 D (.lst []) = H3 at w0 I3 f3
  have one : ∀ b ∈ [it], FpOk X pins H3 b ∧ b < s3.heap.objs.size := fun b hb => by rw [List.mem_singleton.mp hb]; exact ⟨f3, lt3⟩
  have I4 := block_start I3 ok hN one
  have pg := hg s3 H3 s3.heap.objs.size (cellsFrom (s3.heap.objs.size + 1) scope.names (cloFrom X.env.cells scope.names [])) [it]
  have pt := ht s3 H3 s3.heap.objs.size (cellsFrom (s3.heap.objs.size + 1) scope.names (cloFrom X.env.cells scope.names [])) [it]
  have pe := he s3 H3 s3.heap.objs.size (cellsFrom (s3.heap.objs.size + 1) scope.names (cloFrom X.env.cells scope.names [])) [it]
  show codeAny _ _ (.compStart (.ListComp elt [⟨tg, .Call (.Name "range" p) [a] [] p2, ifs, 0⟩] scope pos) 0 (.ref it) (.ref D) (compEnvC scope (cellsFrom (s3.heap.objs.size + 1) scope.names (cloFrom X.env.cells scope.names [])) s3.heap.objs.size X.env)) (compPost (model X.prog X.w) X.A X.xe none (EP X pins σ Q) (.ref D) s3.heap.objs.size) { s3 with heap := pushCells (s3.heap.push { cls := .type "dict", data := .dict #[] }) scope.names }
  generalize hce : compEnvC scope (cellsFrom (s3.heap.objs.size + 1) scope.names (cloFrom X.env.cells scope.names [])) s3.heap.objs.size X.env = ce at I4 pg pt pe ⊢
  have cL : ce.locals = s3.heap.objs.size := by subst hce; rfl
  have st4 : IsRangeIter (pushCells (s3.heap.push { cls := .type "dict", data := .dict #[] }) scope.names) it 0 (n : Int) 1 := pushCells_keeps _ _ _ _ (Heap.get?_push_of_some _ st3)
  generalize hs4 : ({ s3 with heap := pushCells (s3.heap.push { cls := .type "dict", data := .dict #[] }) scope.names } : Shared) = s4 at I4 ⊢
  have st4 : IsRangeIter s4.heap it 0 (n : Int) 1 := by rw [← hs4]; exact st4
  have apart : ∀ {pins' : List (Addr × Obj)} {σ' : L2.St} {H' : Hp} {s' : Shared}, Inv (X.blk s3 H3 scope ce [it]) pins' σ' H' s' → it ≠ (X.blk s3 H3 scope ce [it]).env.locals ∧ it ∉ (X.blk s3 H3 scope ce [it]).fs ∧ (∀ x c, (X.blk s3 H3 scope ce [it]).env.cells.lookup x = some c → c ≠ it) := fun {pins' σ' H' s'} J =>
    ⟨(J.ok.exf it (List.mem_singleton.mpr rfl)).1, J.ok.exfs it (List.mem_singleton.mpr rfl), (J.ok.exf it (List.mem_singleton.mpr rfl)).2⟩
  have loop : codeAny (model X.prog X.w) X.A (.compLoop (.ListComp elt [⟨tg, .Call (.Name "range" p) [a] [] p2, ifs, 0⟩] scope pos) 0 (.ref it) (.ref D) ce) (compPost (model X.prog X.w) X.A X.xe none (EP X pins σ Q) (.ref D) s3.heap.objs.size) s4 := by
    refine compLoop_any (fun m s' => ∃ i acc H', m = n - i ∧ i ≤ n ∧ Inv (X.blk s3 H3 scope ce [it]) [] (wipe σ (own.map (·.2))) H' s' ∧ IsRangeIter s'.heap it (i : Int) ((n : Int) - i) 1 ∧ H' it = none ∧ W i acc H') ?_ n ⟨0, [], H3, by omega, Nat.zero_le _, I4, by simpa using st4, f3.1, w0⟩
    rintro m s5 ⟨i, acc, H5, rfl, hi, I5, st5, n5, w5⟩
    obtain ⟨a1, a2, a3⟩ := apart I5
    obtain ⟨wm, hD5, hz5⟩ := facts i acc H5 w5
    have noPins : ∀ p ∈ (X.blk s3 H3 scope ce [it]).pn ++ ([] : List (Addr × Obj)), p.1 ≠ it := fun p hp => by cases hp
    by_cases hlt : i < n
    · refine thnF (wpAny_pyNext_range_item st5 (by omega) fun h' st' sb => ?_) fun r s6 z => z
      have I6 : Inv (X.blk s3 H3 scope ce [it]) [] (wipe σ (own.map (·.2))) H5 { s5 with heap := h', toks := s5.toks + 1 } := I5.turned (fun b o nb e => (sb.2 b nb).trans e) n5 a1 (.inl (List.mem_singleton.mpr rfl)) a3 noPins
      have st6 : IsRangeIter h' it ((i + 1 : Nat) : Int) ((n : Int) - ((i + 1 : Nat) : Int)) 1 := by
        rw [show ((i + 1 : Nat) : Int) = (i : Int) + 1 by omega, show (n : Int) - ((i : Int) + 1) = (n : Int) - i - 1 by omega]
        exact st'
      refine thnF (go_of (s := { s5 with heap := h', toks := s5.toks + 1 }) (n := "range_iterator") st6 rfl rfl (by decide) ?_) fun _ s7 z => z
      have pinIt : ∀ p ∈ [(it, ({ cls := .type "range_iterator", data := .fields #[rawInt ((i + 1 : Nat) : Int), rawInt ((n : Int) - ((i + 1 : Nat) : Int)), rawInt 1] } : Obj))], h'.get? p.1 = some p.2 ∧ H5 p.1 = none ∧ p.1 ≠ (X.blk s3 H3 scope ce [it]).env.locals ∧ p.1 ∉ (X.blk s3 H3 scope ce [it]).fs ∧ ∀ v, p.2.data ≠ .cell v := fun p hp => by
        rw [List.mem_singleton.mp hp]
        exact ⟨st6, n5, a1, a2, fun v z => by cases z⟩
      have I7 := I6.pins_of pinIt
      -- the turn's end
      have fin : ∀ {s' : Shared} {H' : Hp} {σ' : L2.St} {acc' : List V}, Inv (X.blk s3 H3 scope ce [it]) [(it, ({ cls := .type "range_iterator", data := .fields #[rawInt ((i + 1 : Nat) : Int), rawInt ((n : Int) - ((i + 1 : Nat) : Int)), rawInt 1] } : Obj))] σ' H' s' → wipe σ' (own.map (·.2)) = wipe σ (own.map (·.2)) → W (i + 1) acc' H' →
          ∃ m, m < n - i ∧ ∃ i acc H', m = n - i ∧ i ≤ n ∧ Inv (X.blk s3 H3 scope ce [it]) [] (wipe σ (own.map (·.2))) H' s' ∧ IsRangeIter s'.heap it (i : Int) ((n : Int) - i) 1 ∧ H' it = none ∧ W i acc H' := fun {s' H' σ' acc'} J hw wz => by
        obtain ⟨p1, p2, _⟩ := J.pin _ (List.mem_append_right _ (List.mem_singleton.mpr rfl))
        have J0 : Inv (X.blk s3 H3 scope ce [it]) [] σ' H' s' := J.pins_of fun p hp => by cases hp
        have hl : (wipe σ (own.map (·.2))).length = σ'.length := by rw [← hw, wipe_length]
        exact ⟨n - (i + 1), by omega, i + 1, acc', H', rfl, hlt, J0.weak hl (fun j v e => by rw [← hw] at e; exact (wipe_some e).1), p1, p2, wz⟩
      refine thnF (pg.run _ _ _ H5 (.int i) _ _ I7 ⟨_, rfl⟩ (turn i acc H5 hlt w5)) fun _ s8 ⟨σ8, H8, I8, hw8, q8⟩ => ?_
      refine thnF (pt.run _ s8 σ8 H8 _ I8 q8) fun b s9 ⟨H9, I9, q9⟩ => ?_
      cases b with
      | false =>
        simp only [Bool.false_eq_true, if_false] at q9 ⊢
        exact fin I9 hw8 q9
      | true =>
        simp only [if_true] at q9 ⊢
        refine thnF (pe.run _ s9 σ8 H9 _ I9 q9) fun z s10 ⟨yv, H10, I10, r10, hD10, nx⟩ => ?_
        exact app_ok (X := X.blk s3 H3 scope ce [it]) I10 hD10 hz5 r10 fun s11 I11 => fin I11 hw8 nx
    · have ei : i = n := by omega
      subst ei
      refine thnF (range_over (wm.hot I5) st5 (by omega) fun h' kp => ?_) fun r s6 z => z
      have I6 : Inv (X.blk s3 H3 scope ce [it]) [] (wipe σ (own.map (·.2))) H5 { s5 with heap := h' } := I5.turned (t' := s5.toks) kp n5 a1 (.inl (List.mem_singleton.mpr rfl)) a3 noPins
      have I7 : Inv X pins σ H5 { s5 with heap := h' } := I3.call' (ch := [it]) I6.os I6.base I6.hok I6.bare fun b hb => by
        rw [List.mem_singleton.mp hb]
        exact ⟨f3.2.2.2.1, f3.2.1, f3.2.2.2.2.1, f3.2.2.2.2.2⟩
      have nC : H5 s3.heap.objs.size = none := by
        have z : H5 ce.locals = none := I6.free
        rw [cL] at z
        exact z
      obtain ⟨m, ns, _⟩ := I6.loc
      have ns : Heap.Ns h' ce.locals m := ns
      rw [cL] at ns
      refine ⟨m, ns, fun h'' sb => ?_⟩
      obtain ⟨g0, g1, g2, g3, g4, g5⟩ := I3.fpOk (Nat.le_refl _) nC
      exact ⟨.ref D, H5, I7.turned (t' := s5.toks) (fun b o hb e => (sb.2 b hb).trans e) g0 g1 g3 g4 g5, rfl, done acc H5 w5⟩
  exact codeAny_compStart_list loop (wpAny_pyIter_rangeiter st4 loop)
end
/-! ### try -/
section
variable {X : Cx} {pins : List (Addr × Obj)} {σ : L2.St} {H : Hp} {sI s' : Shared} {G : Heap}
/-- back on the ground, the error seen -/
theorem landedE {a C : Addr} {d : Option Addr} {oe : Obj} {vs : Array Value} (I : Inv X pins σ H sI) (apart : ∀ b o, sI.heap.get? b = some o → b ∉ frs X.stack → G.get? b = some o) (st : G.StaysIn s'.heap) (up : sI.heap.UpToSlots s'.heap) (os : s'.os = sI.os) (ag : AllBare s'.gens)
    (na : H a = none) (off : sI.heap.get? a = none) (e1 : s'.heap.get? a = some oe) (e2 : oe.cls = .ref C) (e3 : oe.dict = d) (e4 : oe.data = .fields vs) (e5 : vs[2]? = some .none) : Inv X pins σ (upd H a (errH a C d)) s' := by
  have frame : ∀ b ∈ frs X.stack, ∀ o, sI.heap.get? b = some o → ∃ sl, s'.heap.get? b = some { o with slots := sl } := by
    intro b hb o e
    obtain ⟨_, o', e', hd⟩ := I.stack.mem hb
    rw [e] at e'
    cases e'
    exact up b o e hd
  have other : ∀ {b : Addr} {o : Obj}, sI.heap.get? b = some o → b ≠ a := fun e z => by rw [z, off] at e; cases e
  have ok0 : HOk X.prog X.w H s'.heap := (I.inGround apart).kept st
  have new : ObjOk X.prog X.w (upd H a (errH a C d)) s'.heap a (errH a C d) := by
    refine ⟨⟨oe, vs, e1, e2, e3, e4, e5⟩, ⟨oe, e1⟩, fun h1 h2 z k => ?_⟩
    obtain ⟨o2, v2, z1, z2⟩ := z
    exact ⟨o2, v2, k _ z1, z2⟩
  have J := I.call (ch := []) (h' := s'.heap) (g' := s'.gens) (t' := s'.toks) (d' := s'.drawn) (H' := upd H a (errH a C d))
    ⟨fun b o e _ hb _ => st b o (apart b o e hb), fun b o e _ hb _ => frame b hb o e, fun b o e n _ => by rw [upd_ne (other e)]; exact n, fun b o e _ => by
      by_cases hb : b ∈ frs X.stack
      · obtain ⟨sl, q⟩ := frame b hb o e
        exact ⟨_, q⟩
      · exact ⟨o, st b o (apart b o e hb)⟩, fun b xs e => by rw [upd_ne (ne_of_none e na)]; exact e, fun b o u e => by rw [upd_ne (ne_of_none e na)]; exact e, fun b ps e => ⟨#[], by rw [upd_ne (ne_of_none e na), e]; simp⟩⟩
    (ok0.laidN (fun _ _ e => e) na new) ag (fun _ z => nomatch z)
  obtain ⟨a1, a2, a3, a4, a5⟩ := s'
  obtain rfl : a5 = sI.os := os
  exact J
end
/-- the context of a suite, the error among what is seen -/
theorem Inv_suiteE {X : Cx} {pins : List (Addr × Obj)} {σ : L2.St} {H : Hp} {s : Shared} (I : Inv X pins σ H s) (a : Addr) : Inv (X.suite a (X.pn ++ pins)) [] σ H s :=
  ⟨I.ok.suite _ _, I.os, I.bare, I.base, I.loc, I.cell, I.free, I.freeC, fun p hp => I.pin p (by rw [List.append_nil] at hp; exact hp), I.hok, I.len⟩
theorem Inv_unsuiteE {X : Cx} {pins pn' : List (Addr × Obj)} {σ : L2.St} {H : Hp} {s : Shared} {a : Addr} (I : Inv (X.suite a (X.pn ++ pins)) pn' σ H s) (ok : X.Ok) : Inv X pins σ H s :=
  ⟨ok, I.os, I.bare, I.base, I.loc, I.cell, I.free, I.freeC, fun p hp => I.pin p (List.mem_append_left _ hp), I.hok, I.len⟩
/-- what the clause wishes -/
def wErr (K : PySem.W.Frag) (c : Value) (i : Nat) (ts : Addr → Addr → Option Addr → TS) (Wout : WX) (D : Ends) : WX := fun cls d σ H => ∃ b, PySem.W.exmOne K cls c = some b ∧
  (b = true → ∃ C, cls = .ref C ∧ ∀ a, H a = none → ts a C d (gone i D) (σ.set i (some (.ref a))) (upd H a (errH a C d))) ∧ (b = false → Wout cls d σ H)
theorem ps_tryE {X : Cx} {x n : Str} {c : Value} {i : Nat} {body more : List Stmt} {first : Stmt} {np hpos pos : Pos} {tb : WX → TS} {ts : Addr → Addr → Option Addr → TS} {Wout : WX} (hs : X.stack = X.env :: X.outer) (hf : X.env.frame = some X.env.locals) (hN : X.N.Nodup) (slot : X.N[i]? = some n) (loc : X.env.kindOf n = some .local)
    (names : Names X x c) (tk : L2N.Takes X Wout) (hb : ∀ (W : WX) (pn : List (Addr × Obj)) (xe : Value → Shared → Prop), L2N.Takes (X.tr pn xe) W → PassesOwn (model X.prog X.w) X.A X.env xe → PSs (X.tr pn xe) body (tb W))
    (suite : ∀ (a C : Addr) (d : Option Addr) (pn : List (Addr × Obj)), PSs (X.suite a pn) (first :: more) (ts a C d)) :
    PS X (.Try body [.ExceptHandler (some (.Name x np)) (some n) (first :: more) hpos] [] [] pos) (fun D σ H => tb (wErr X.K c i ts Wout D) D σ H) := by
  constructor
  intro pins s σ H D I h
  have ok := I.ok
  have frames : X.A.frames = some (X.env :: X.outer) := by rw [ok.frames, hs]
  apply wpAny_Try_except
  refine wpAny_mono ((hb (wErr X.K c i ts Wout D) (X.pn ++ pins) (fun e z1 => wpAny (model X.prog X.w) X.A (noteFrame e X.env) (fun _ z2 => wpAny (model X.prog X.w) X.A (setFlight e none) (fun _ z3 =>
    wpAny (model X.prog X.w) X.A (handleBy e X.env [.ExceptHandler (some (.Name x np)) (some n) (first :: more) hpos]) (SP X pins D) X.xe z3) X.xe z2) X.xe z1) ?_ PassesOwn.looking).run [] s σ H D (I.toTry _) h) ?_ (fun _ _ z => z)
  · rintro u s' ⟨a, G, sI, pins', σ1, Ha, cls, d, rfl, Jt, apart, up, sky, na, os, ag, b, ask, yes, no⟩
    have J : Inv X pins σ1 Ha sI := Jt.ofTry ok
    rw [show (X.tr (X.pn ++ pins) _).stack = X.stack from rfl, hs] at sky
    show wpAny (model X.prog X.w) X.A (noteFrame (.ref a) X.env) _ _ _
    apply L2N.Sky.land L2N.Zn.steady frames hf sky
    intro hp fly upp
    have Jh : Inv X pins σ1 Ha { s' with heap := hp } := J.landed apart fly.1 (up.trans upp) os ag
    obtain ⟨oe, fv, here, hz, hd⟩ := fly.there
    have noFrame : a ∉ frs (X.env :: X.outer) := by
      intro m
      obtain ⟨_, o', e', nf⟩ := fly.2.2.1.mem m
      rw [here] at e'
      cases e'
      exact nf _ hd
    have offL : a ≠ X.env.locals := by
      intro z
      apply noFrame
      apply List.mem_filterMap.mpr
      exact ⟨X.env, List.mem_cons_self, by rw [hf, z]⟩
    have offF : a ∉ X.fs := by
      intro m
      obtain ⟨e, he, q⟩ := List.mem_filterMap.mp m
      exact noFrame (List.mem_filterMap.mpr ⟨e, List.mem_cons_of_mem _ he, q⟩)
    have offI : sI.heap.get? a = none := by
      cases e : sI.heap.get? a with
      | none => rfl
      | some o =>
        have q := apart a o e (by show a ∉ frs X.stack; rw [hs]; exact noFrame)
        rw [fly.2.1] at q
        cases q
    have Js := Jh.suite here hd na offL offF
    apply wpAny_handleBy_cons _ (by intro q; cases q)
    apply codeAny_handlers_test
    have looks : PySem.W.Looks (model X.prog X.w) hp (typeOf (.ref a)) cls := fun A Q E z k q => wpAny_typeOf_ref (k _ _ here) (by rw [hz.1]; exact q)
    have named : ∀ {Q : Value → Shared → Prop} {E : Value → Shared → Prop}, Q c { s' with heap := hp } → wpAny (model X.prog X.w) (X.A.mark (some (.ref a))) (eval (.Name x np) X.env) Q E { s' with heap := hp } := by
      intro Q E q
      obtain ⟨hg, hdb, hm | ⟨hm, hv, hnn⟩⟩ := names
      · exact ld_glob (X := X.suite a ((a, oe) :: (X.pn ++ pins))) Js hg hm q hdb
      · exact ld_blt (X := X.suite a ((a, oe) :: (X.pn ++ pins))) Js hg hm hv q hnn hdb
    apply named
    apply (PySem.W.exm_one (M := model X.prog X.w) Jh.kIn looks ask).here
    cases b with
    | false =>
      show wpAny _ X.A (handleBy (.ref a) X.env []) _ _ _
      apply wpAny_handleBy_nil
      obtain ⟨_, _, _, _, _, T, _, _, there, _, dd, one, _⟩ := id fly
      unfold PySem.passOn
      apply wpAny_bind
      apply wpAny_field there dd one
      rw [if_neg (show ¬ ((Value.ref T == Value.none) = true) by simp)]
      have fin : wpAny (model X.prog X.w) X.A (setFlight (.ref a) X.env.frame) (fun _ z => wpAny (model X.prog X.w) X.A (throw (.ref a) : Sem Flow) (SP X pins D) X.xe z) X.xe { s' with heap := hp } := by
        rw [hf]
        apply HandSPX.setFlight_upZ fly
        intro h4 held upq
        apply wpAny_throw
        apply tk
        exact ⟨a, G, sI, pins, σ1, Ha, cls, d, rfl, J, apart, (up.trans upp).trans upq, .inr (.inr (by rw [hs]; exact held)), na, os, ag, no rfl⟩
      first
        | exact wpAny_bind (wpAny_pure (wpAny_bind fin))
        | exact wpAny_bind fin
    | true =>
      apply codeAny_handlers_suite_as
      apply HandSPX.lands_againZ fly
      intro h4 fly4 up4
      obtain ⟨C, rfl, go⟩ := yes rfl
      obtain ⟨oe4, fv4, here4, hz4, hd4⟩ := fly4.there
      have S4 : Inv X pins σ1 (upd Ha a (errH a C d)) { s' with heap := h4 } := landedE J apart fly4.1 ((up.trans upp).trans up4) os ag na offI here4 hz4.1 hz4.2.1 hd4 (hz4.2.2 _ hd4)
      refine store_ok (X := X.suite a (X.pn ++ pins)) (v := .ref a) (Inv_suiteE S4 a) hN slot (.inl loc) rfl ?_ (.inr loc)
      intro s5 S5
      have fin : ∀ {σ6 : L2.St} {H6 : Hp} {s6 : Shared} {Q : Shared → Prop}, Inv (X.suite a (X.pn ++ pins)) [] σ6 H6 s6 → (∀ s7, Inv X pins (σ6.set i none) H6 s7 → Q s7) →
          wpAny (model X.prog X.w) X.A (do bindName X.env n .none; unbindBehindTheSuite X.env n hpos) (fun _ s7 => Q s7) X.xe s6 := fun S6 hq => gone_ok (Inv_unsuiteE S6 ok) hN slot loc hq
      refine wpAny_mono ((suite a C d (X.pn ++ pins)).run [] s5 _ _ _ S5 (go a na)) ?_ (fun _ _ z => False.elim z)
      intro f s6 out
      cases f with
      | next =>
        obtain ⟨_, _, S6, q⟩ := out
        exact fin S6 fun _ J7 => ⟨_, _, J7, q⟩
      | brk =>
        obtain ⟨_, _, S6, q⟩ := out
        exact fin S6 fun _ J7 => ⟨_, _, J7, q⟩
      | cont =>
        obtain ⟨_, _, S6, q⟩ := out
        exact fin S6 fun _ J7 => ⟨_, _, J7, q⟩
      | ret u =>
        obtain ⟨_, _, _, S6, rv, q⟩ := out
        exact fin S6 fun _ J7 => ⟨_, _, _, J7, rv, q⟩
  · intro f s1 out
    cases f with
    | next =>
      obtain ⟨_, _, Jt, q⟩ := out
      exact wpAny_execs_nil ⟨_, _, Jt.ofTry ok, q⟩
    | brk =>
      obtain ⟨_, _, Jt, q⟩ := out
      exact ⟨_, _, Jt.ofTry ok, q⟩
    | cont =>
      obtain ⟨_, _, Jt, q⟩ := out
      exact ⟨_, _, Jt.ofTry ok, q⟩
    | ret u =>
      obtain ⟨_, _, _, Jt, rv, q⟩ := out
      exact ⟨_, _, _, Jt.ofTry ok, rv, q⟩
/-- repr(x), where an error may be handled -/
theorem c_reprW {X : Cx} {k : Nat} (hr : RoomW k X.A) : CallR X (.builtin "repr") zRepr := by
  intro pins s σ H xs us Q I r h
  unfold zRepr at h
  split at h
  · obtain ⟨g, d, hd, hg, hs, hp, hz, q⟩ := h
    obtain ⟨u, rfl, ru⟩ := vals1 r
    have un := hr.room.un
    obtain ⟨as, rd, w⟩ := Dz.reads I u hd ru
    have keep : ∀ {t : Nat} {h' : Heap}, (∀ b o, s.heap.get? b = some o → h'.get? b = some o) → ∀ t', EP X pins σ Q (.str d.shown t') { s with heap := h', toks := t } := fun hk t' => ⟨.str d.shown, H, I.kept hk, ⟨_, rfl⟩, q⟩
    cases rd with
    | none => exact PySem.P.repr_of_none ⟨.str _, H, I.tok _, ⟨_, rfl⟩, q⟩
    | bool b => exact PySem.P.repr_of_bool ⟨.str _, H, I.tok _, ⟨_, rfl⟩, by cases b <;> exact q⟩
    | int i t => exact PySem.P.repr_of_int (by simpa [PyData.showable] using hs) ⟨.str _, H, I.tok _, ⟨_, rfl⟩, q⟩
    | str x t => exact PySem.P.repr_of_str ⟨.str _, H, I.tok _, ⟨_, rfl⟩, q⟩ hz
    | list a b c e => exact repr_of_reads' (Reads.list a b c e) hs (fun z => w (hg z)) hr.free (by omega) (fun _ _ z => z) (fun h' u tk hk => keep hk _) hz
    | tuple a b c e => exact repr_of_reads' (Reads.tuple a b c e) hs (fun z => w (hg z)) hr.free (by omega) (fun _ _ z => z) (fun h' u tk hk => keep hk _) hz
    | dict a b c e f => exact repr_of_reads' (Reads.dict a b c e f) hs (fun z => w (hg z)) hr.free (by omega) (fun _ _ z => z) (fun h' u tk hk => keep hk _) hz
  · exact h.elim
end Z

/-! W5: what the printed derivations of errors' laws lean on. -/
namespace Z
open PySem PySem.Spec PyProof.Rows L2
theorem ini3 {P : Program} {w : World} {K : PySem.W.Frag} {mg : Str → Option Value} {base : Heap} {q : Str} {st : Stmt} {f : Addr} {fd : FuncData} {a b c : Str} {N : List Str} {k : Nat} {p : V → V → V → Hp → VK → XK → Prop} (F : Fun K "__init__" q st f fd) (S : FnScope N [a, b, c] (defScope st))
    (body : ∀ (cdv : Value) (A : Around) (outer : List Env) (s : Shared) (H : Hp) (u v z : V) (Q : VK) (E : XK), Room k (A.deeper (envOfC q (defScope st) s.heap.objs.size f cdv)) → p u v z H Q E →
      ∃ t, PSs (cxOf CX0 P w K mg base N q (defScope st) f cdv A outer s H E).nox (defBody st) t ∧ t { nx := fun _ H' => Q .non H', rt := Q } (start N [u, v, z]) H) : FnOk P w K mg base CX0 (k + 1) f fd [a, b, c] (sp3 p) := by
  refine F.ok S ?_ ?_
  · intro vs H Q E h
    obtain ⟨u, v, z, rfl, _⟩ := sp3_of h
    rfl
  · intro cdv A outer s H vs Q E hr h
    obtain ⟨u, v, z, rfl, h⟩ := sp3_of h
    exact body cdv A outer s H u v z Q E hr h
theorem takesN {X : Cx} : L2N.Takes X (fun _ _ _ _ => False) := fun _ _ ⟨_, _, _, _, _, _, _, _, _, _, _, _, _, _, _, _, w⟩ => w.elim
/-- each is an Exception -/
theorem kit_exc {K : PySem.W.Frag} {C B : Addr} (T : ErrC K C B) : PySem.W.kitOne K (.ref C) (.type "Exception") = some true := by
  obtain ⟨m1, m2, m3, m4, m5, m6, m7, m8, m9, m10, m11, m12, m13, m14, cl⟩ := T.cls
  have kd : PySem.W.clsIn K C = some ⟨m1, m4, mroE C B, m3, m2, true, m5, m6, m7, m8, false⟩ := by
    unfold PySem.W.clsIn
    rw [cl]
    rfl
  have sub : PySem.W.subIn K (.ref C) (.type "Exception") = some true := by
    show PySem.W.mroIn K C (.type "Exception") = _
    unfold PySem.W.mroIn
    rw [kd, Option.bind_some]
    show some ((mroE C B).contains (.type "Exception")) = _
    rw [mroE_has]
    rfl
  unfold PySem.W.kitOne
  rw [if_neg (by simp)]
  show (if PySem.W.kitMeta "Exception" = true then PySem.W.subIn K (.ref C) (.type "Exception") else none) = _
  rw [if_pos (by decide +kernel), sub]
/-- the parent of all -/
theorem exm_base {K : PySem.W.Frag} {C B : Addr} (T : ErrC K C B) (h1 : PySem.W.subIn K (.ref B) (.type "BaseException") = some true) (h2 : PySem.W.hasDictIn K B = true) (h3 : PySem.W.typeIn K (.ref B) = some (.type "type")) : PySem.W.exmOne K (.ref C) (.ref B) = some true :=
  PySem.W.exm_ref h1 h2 h3 (by rw [T.sub B]; simp)
theorem pe_cwA {X : Cx} (A : Around) {k : Nat} {x : Str} {ps : List Str} {sp : Sp} {p pos : Pos} {e : Expr} {es : List Expr} {t : TA} (C : Cw X.prog X.w X.K X.mg X.base k x ps sp) (hr : RoomW k A) (ha : PA X (e :: es) t) (hA : X.A = A := by rfl) (hg : Gl X x := by rfl)
    (hdb : (x == ("__debug__" : Str)) = false := by decide)
    (he : starEach (e :: es) X.env = (false, eval e X.env) :: starEach es X.env := by rfl) (hpl : (backTo pos (starEach es X.env)).any (·.1) = false := by rfl) : PE X (.Call (.Name x p) (e :: es) [] pos) (tCw A sp t) := by
  subst hA
  exact pe_cw C hr ha hg hdb he hpl
end Z

/-! T1: dicts with tuple keys, sorted of data, min, sorted of ints, an error with two fields raised. -/
namespace Z
open PySem PySem.Spec PyProof.Rows L2

/-! ### d[k], d[k] = v, k in d, del d[k]: tuple keys -/
section
variable {X : Cx} {o i : Expr} {td ty : TE} {pos : Pos}
def zInT (neg : Bool) : R2 := fun x y H Q => match x, y with
  | .ref b, .ref a => ∃ kvs k, H a = some (.dT kvs) ∧ H b = some (.tup (k.map kV)) ∧ Q (.bl (neg ^^ (valV kvs k).isSome)) H
  | _, _ => False
theorem o_inT (hu : X.A.units + 1 < cLine) : OpR X (compareOp .In) (zInT false) := by
  intro pins s σ H x y v u Q I rx ry h
  unfold zInT at h
  split at h
  · obtain ⟨kvs, k, e, eb, q⟩ := h
    cases ry
    exact d_in hu I (DGet.t e eb) rx fun s' J => ⟨.bl _, H, J, rfl, by simpa using q⟩
  · exact h.elim
theorem o_ninT (hu : X.A.units + 1 < cLine) : OpR X (compareOp .NotIn) (zInT true) := by
  intro pins s σ H x y v u Q I rx ry h
  unfold zInT at h
  split at h
  · obtain ⟨kvs, k, e, eb, q⟩ := h
    cases ry
    exact d_notIn hu I (DGet.t e eb) rx fun s' J => ⟨.bl _, H, J, rfl, by simpa using q⟩
  · exact h.elim
def tDGT (td ty : TE) : TE := fun σ H Q => td σ H fun x H1 => match x with
  | .ref a => (∃ kvs, H1 a = some (.dT kvs)) ∧ ty σ H1 fun y H2 => ∃ kvs k b v, H2 a = some (.dT kvs) ∧ y = .ref b ∧ H2 b = some (.tup (k.map kV)) ∧ valV kvs k = some v ∧ Q v H2
  | _ => False
theorem pe_dgT (hu : X.A.units + 1 < cLine) (ho : PE X o td) (hi : PE X i ty) (hs : NoSl i) : PE X (.Subscript o i pos) (tDGT td ty) :=
  pe_w (pe_dget hu (pe_mon ho) (pe_mon hi) hs) fun σ H Q h => ⟨_, h, fun x H1 h1 => by
    split at h1
    · obtain ⟨⟨kvs, e⟩, q⟩ := h1
      exact ⟨_, q, fun y H2 q2 => by
        obtain ⟨kvs2, k, b, v, e2, rfl, eb, hv, q2⟩ := q2
        exact ⟨_, v, rfl, hv ▸ DGet.t e2 eb, q2⟩⟩
    · exact h1.elim⟩
def zSetT : V → V → V → Hp → (Hp → Prop) → Prop := fun o i v H Q => match o, i with
  | .ref a, .ref b => ∃ kvs k, H a = some (.dT kvs) ∧ H b = some (.tup (k.map kV)) ∧ kvs.length < sizeLine ∧ ∀ H2, Wr H a (.dT (putK kvs k v)) H2 → Q H2
  | _, _ => False
theorem s_dictT {X : Cx} (hu : X.A.units + 1 < cLine) : PSet X zSetT := by
  intro pins s σ H o i v ov iv u Q I ro ri rv h
  unfold zSetT at h
  split at h
  · obtain ⟨kvs, k, ea, eb, hl, q⟩ := h
    cases ro
    exact d_setItem hu I (DPut.t ea eb hl) ri rv fun s' J => ⟨_, J, q _ wr⟩
  · exact h.elim
end
section
variable {X : Cx} {pins : List (Addr × Obj)} {σ : L2.St} {H : Hp} {s : Shared} {a b : Addr} {kvs : List (List Key × V)} {k : List Key} {A : Around} {E : Value → Shared → Prop}
/-- del d[k], a tuple key -/
theorem d_delItemT {Q : Unit → Shared → Prop} (hu : A.units + 1 < cLine) (I : Inv X pins σ H s) (e : H a = some (.dT kvs)) (eb : H b = some (.tup (k.map kV))) (l : (valV kvs k).isSome = true) (h : ∀ s', Inv X pins σ (upd H a (.dT (dropK kvs k))) s' → Q () s') :
    wpAny (model X.prog X.w) A (delItem (.ref a) (.ref b)) Q E s := by
  obtain ⟨z, hd, xs, rel, dd⟩ := dt_of I.hok e
  have hz : xs.length ≤ sizeLine := by rw [← Paired.length rel]; exact z
  have q := (rel.val k).isSome_eq
  rw [Option.isSome_map, l] at q
  obtain ⟨p, hp⟩ := Option.isSome_iff_exists.mp q.symm
  refine wpAny_delItem_heap (hsz := hz) (tupleKind_room_in1 hu) (key_of I.hok eb) hd dd hp fun h' dd' hs => h _ ?_
  have rel' : KT H (dropK kvs k) (withoutH xs k) := L2.DX.KT_drop k rel
  obtain ⟨o, es, ep, hq, h2, h3, h4, _, h5⟩ := dd'
  have hl : (dropK kvs k).length ≤ sizeLine := Nat.le_trans (dropK_le kvs k) z
  refine d_write I (by rw [e]; exact True.intro) hs ⟨o, hq⟩ ⟨hl, hd, _, rel'.keeps fun c ys ec => ?_, o, es, ep, hq, h2, h3, h4, h5⟩
  rw [upd_ne (ne_of ec e (fun z => nomatch z))]
  exact ec
end
section
variable {X : Cx} {o i : Expr} {td ty : TE} {pos tpos : Pos}
def sDDelT (td ty : TE) : TS := fun D σ H => td σ H fun x H1 => ty σ H1 fun y H2 => match x, y with
  | .ref a, .ref b => ∃ kvs k, H2 a = some (.dT kvs) ∧ H2 b = some (.tup (k.map kV)) ∧ (valV kvs k).isSome = true ∧ ∀ H3, Wr H2 a (.dT (dropK kvs k)) H3 → D.nx σ H3
  | _, _ => False
theorem ps_ddelT (hu : X.A.units + 1 < cLine) (ho : PE X o td) (hi : PE X i ty) : PS X (.Delete [.Subscript o i tpos] pos) (sDDelT td ty) := by
  refine ⟨fun pins s σ H D I h => ?_⟩
  refine wpAny_Delete (wpAny_deleteEach_cons (wpAny_delete_Subscript (thn (ho.run pins s σ H _ I h) fun u s1 ⟨x, H1, I1, rx, q1⟩ => thn (hi.run pins s1 σ H1 _ I1 q1) fun iv s2 ⟨y, H2, I2, ry, q⟩ => ?_)))
  dsimp only at q
  split at q
  · obtain ⟨kvs, k, e, eb, l, q⟩ := q
    cases rx
    cases ry
    exact d_delItemT hu I2 e eb l fun s3 I3 => wpAny_deleteEach_nil ⟨σ, _, I3, q _ wr⟩
  · exact q.elim
end
/-! ### for .. in d, d.items(): tuple keys -/
section
variable {X : Cx} {pins : List (Addr × Obj)} {σ : L2.St} {H : Hp} {s : Shared} {d : Addr} {o : Obj}
theorem frzT2 {kvs : List (List Key × V)} (I : Inv X pins σ H s) (h : H d = some (.frz o (.dT kvs))) :
    (d == sysModules) = false ∧ s.heap.get? d = some o ∧ o.ExactDict ∧ ∃ (es : Array DictEntry) (ep : Nat), o.data = .dict es ep ∧ es.size = kvs.length ∧
      ∀ (i : Nat) (k : List Key) (v : V), kvs[i]? = some (k, v) → ∃ (en : DictEntry) (q : Addr), es[i]? = some en ∧ en.key = .ref q ∧ H q = some (.tup (k.map kV)) ∧ RelV v en.val := by
  obtain ⟨hd, z, hs, xs, pr, o', es, ep, ho, hx, hdt, he, _⟩ := I.hok d _ h
  rw [hd] at ho
  cases ho
  refine ⟨hs, hd, hx, es, ep, hdt, ?_, fun i k v e => ?_⟩
  · have l1 : es.size = xs.length := size_of_entries he
    have l2 : kvs.length = xs.length := Paired.length pr
    omega
  · obtain ⟨b, hb, e1, e2, e3⟩ := paired_get pr e
    have q := entry_at he i
    rw [hb] at q
    exact ⟨_, b.2.1, q, rfl, e2, e3⟩
end
/-- the pairs, each a new tuple, the key its own tuple -/
def ItiT (d : Addr) (o : Obj) (kvs : List (List Key × V)) : It :=
  ⟨fun i H => H d = some (.frz o (.dT kvs)) ∧ i < kvs.length, fun i H x H' => ∃ T k v q, kvs[i]? = some (k, v) ∧ H q = some (.tup (k.map kV)) ∧ x = .ref T ∧ H T = none ∧ H' = upd H T (.tup [.ref q, v]), fun i H => H d = some (.frz o (.dT kvs)) ∧ kvs.length ≤ i⟩
section
variable {P : Program} {w : World} {K : PySem.W.Frag} {d : Addr} {o : Obj} {es : Array DictEntry} {ep : Nat}
theorem turn_itemsT {kvs : List (List Key × V)} {elts : List Expr} {kk : Nat} {tpos : Pos} (it : Addr) (hod : o.data = .dict es ep) :
    Turn P w K (.Tuple elts kk tpos) (ItiT d o kvs) [it] it (fun i h => ∃ ok ov, IsItemIter h it d i kvs.length ep ok ov) where
  mem := by simp
  obj := fun i h st b hb => by
    have e : b = it := by simpa using hb
    subst e
    obtain ⟨ok, ov, e⟩ := st
    exact ⟨_, e, fun v z => nomatch z⟩
  keep := fun i h h' st k => let ⟨ok, ov, e⟩ := st; ⟨ok, ov, k it (by simp) _ e⟩
  item := by
    intro X hP hw hK hc i pins s σ H E I hf st hg
    subst hP hw hK
    obtain ⟨hd, hi⟩ := hg
    obtain ⟨hs, hgd, hx, es', ep', hdt, hsz, ent⟩ := frzT2 I hd
    obtain ⟨rfl, rfl⟩ := dict_ep hod hdt
    obtain ⟨⟨k, v⟩, hkv⟩ : ∃ p, kvs[i]? = some p := ⟨kvs[i], List.getElem?_eq_getElem hi⟩
    obtain ⟨en, q, hen, hkey, hq, rv⟩ := ent i k v hkv
    obtain ⟨ok, ov, he⟩ := st
    rw [← hsz] at he
    have hi' : i < es'.size := by omega
    have een : es'[i] = en := by
      rw [Array.getElem?_eq_getElem hi'] at hen
      exact Option.some.inj hen
    have hlt : it < s.heap.objs.size := Heap.lt_size he
    refine DT.nextI he ⟨o, hgd, hx, hdt⟩ hi' fun h' ho hT hz hk => ?_
    refine ⟨_, rfl, wpAny_letOwnedTupleGo_items (s := { s with heap := h' }) ho fun h'' he' sb => ?_⟩
    have hT2 : h''.get? s.heap.objs.size = some { cls := .type "tuple", data := .seq #[es'[i].key, es'[i].val] } := (sb.2 _ (Nat.ne_of_gt hlt)).trans hT
    have rk : RelV (.ref q) es'[i].key := by rw [een, hkey]; rfl
    have rv' : RelV v es'[i].val := by rw [een]; exact rv
    have new : ObjOk X.prog X.w (upd H s.heap.objs.size (.tup [.ref q, v])) h'' s.heap.objs.size (.tup [.ref q, v]) :=
      ⟨by show 2 ≤ sizeLine; decide, [es'[i].key, es'[i].val], .cons rk (.cons rv' .nil), ⟨_, hT2, rfl, _, rfl⟩⟩
    have I1 : Inv X pins σ (upd H s.heap.objs.size (.tup [.ref q, v])) { s with heap := h'' } :=
      I.turnedNew (t' := s.toks) (ch := [it]) (fun b ob hb e => (sb.2 b (by simpa using hb)).trans (hk b ob (by simpa using hb) e)) hf (Nat.le_refl _) new
    refine ⟨.ref s.heap.objs.size, _, I1, rfl, ⟨_, k, v, q, hkv, hq, rfl, I.hok.fresh (Nat.le_refl _), rfl⟩, ⟨es'[i].key, es'[i].val, ?_⟩, fun b hb => ?_⟩
    · rw [← hsz]; exact he'
    · have e : b = it := by simpa using hb
      rw [e, upd_ne (Nat.ne_of_lt hlt)]
      exact (hf it (by simp)).1
  done := by
    intro X hP hw hK hc i pins s σ H E I hf st hg
    subst hP hw hK
    obtain ⟨hd, hi⟩ := hg
    obtain ⟨f0, f1, f2, f3, f4, f5⟩ := hf it (by simp)
    obtain ⟨hs, hgd, hx, es', ep', hdt, hsz, ent⟩ := frzT2 I hd
    obtain ⟨rfl, rfl⟩ := dict_ep hod hdt
    obtain ⟨ok, ov, he⟩ := st
    rw [← hsz] at he
    exact DT.endI (I.ok.hd hc) he ⟨o, hgd, hx, hdt⟩ (by omega) fun h' eb => ⟨rfl, I.turned (t' := s.toks) (fun b ob hb e => eb b ob hb e) f0 f1 f3 f4 f5⟩
  self := fun A i s Q E st h => let ⟨_, _, e⟩ := st; PySem.W.kcp_self e h
end
section
variable {X : Cx} {tg e : Expr} {td : TE} {apos cpos : Pos}
/-- for .. in d.items(), the dict locked -/
def iItT (td : TE) : TI := fun σ H R => td σ H fun x H1 => match x with
  | .ref d => ∃ o kvs, H1 d = some (.frz o (.dT kvs)) ∧ R (ItiT d o kvs) H1
  | _ => False
theorem pi_itT {elts : List Expr} {kk : Nat} {tpos : Pos} (he : PE X e td) (hbase : attributeBase e "items" X.env (eval e X.env) = eval e X.env := by rfl) (hline : (apos.endLine == cpos.line) = true := by rfl) :
    PI X (.Tuple elts kk tpos) (.Call (.Attribute e "items" apos) [] [] cpos) (iItT td) := by
  refine ⟨fun pins s σ H R I h => ?_⟩
  refine wpAny_Call_method (T := "dict") (id := "dict.items") hbase rfl hline F.plainAttrs_dict F.slot_dict_items F.type_dict_items (thn (he.run pins s σ H _ I h) fun u s1 ⟨x, H1, I1, rx, q⟩ => ?_)
  dsimp only at q
  split at q
  · rename_i d
    obtain ⟨o, kvs, hd, q⟩ := q
    obtain rfl : u = Value.ref d := rx
    obtain ⟨hs, hgd, hx, es, ep, hdt, hsz, ent⟩ := frzT2 I1 hd
    have raw : DT.Raw s1.heap d es ep := ⟨o, hgd, hx, hdt⟩
    refine ⟨raw.typeIs, (fun b z => by cases z; exact ⟨o, hgd, hx.2.1⟩), ?_⟩
    have I2 : Inv X pins σ H1 { s1 with heap := s1.heap.push { cls := .type "dict_items", data := .fields #[.ref d] } } := I1.kept (t' := s1.toks) fun b ob q => Heap.get?_push_of_some _ q
    have fin : wpAny (model X.prog X.w) X.A (pyIter (.ref s1.heap.objs.size)) (PIE X pins σ (.Tuple elts kk tpos) R) X.xe { s1 with heap := s1.heap.push { cls := .type "dict_items", data := .fields #[.ref d] } } := by
      refine DT.iterI (d := d) (es := es) (ep := ep) ⟨_, Heap.get?_push_size _ rfl, rfl, rfl⟩ (raw.push _) (pi_one (tk := s1.toks) I2 _ (turn_itemsT _ hdt) ⟨.none, .none, ?_⟩ q)
      rw [← hsz]
      exact Heap.get?_push_size _ rfl
    show wpAny _ _ (callWith cpos (.builtin "dict.items") [.ref d] [] []) _ X.xe s1
    exact method_meetsIn F.slot_dict_items F.entry_dict_items rfl (PySem.evalArgs_none ⟨rfl, raw.typeIs, F.args_dict_items_1 _, _, DT.meetsItems (es := es) (ep := ep) hs, raw, fin⟩)
  · exact q.elim
def iKtz (td : TE) : TI := fun σ H R => td σ H fun x H1 => match x with
  | .ref d => ∃ o kvs, H1 d = some (.frz o (.dT kvs)) ∧ R (Itkt d o kvs) H1
  | _ => False
theorem pi_ktz (he : PE X e td) : PI X tg e (iKtz td) := pi_w (pi_keys (pe_mon he)) fun σ H R h => ⟨_, h, fun x H1 h1 => by
  split at h1
  · obtain ⟨o, kvs, e, q⟩ := h1
    exact ⟨_, o, rfl, .inr ⟨kvs, e, q⟩⟩
  · exact h1.elim⟩
end
/-! ### loops over what is told turn by turn -/
/-- n turns; Y says what a turn yields -/
structure Wy (J : It) (n : Nat) (S : Hp → Prop) (Y : Nat → V → Hp → Hp → Prop) : Prop where
  go : ∀ i H, S H → i < n → J.go i H
  stop : ∀ H, S H → J.stop n H
  yld : ∀ i H x H', S H → i < n → J.yld i H x H' → Y i x H H'
theorem wy_kT {d : Addr} {o : Obj} (kvs : List (List Key × V)) : Wy (Itkt d o kvs) kvs.length (fun H => H d = some (.frz o (.dT kvs))) (fun i x H H' => H' = H ∧ ∃ k v q, kvs[i]? = some (k, v) ∧ x = .ref q ∧ H q = some (.tup (k.map kV))) :=
  ⟨fun i H s h => ⟨s, h⟩, fun H s => ⟨s, Nat.le_refl _⟩, fun i H x H' s h y => y⟩
theorem wy_iT {d : Addr} {o : Obj} (kvs : List (List Key × V)) : Wy (ItiT d o kvs) kvs.length (fun H => H d = some (.frz o (.dT kvs))) (fun i x H H' => ∃ T k v q, kvs[i]? = some (k, v) ∧ H q = some (.tup (k.map kV)) ∧ x = .ref T ∧ Nw H T (.tup [.ref q, v]) H') :=
  ⟨fun i H s h => ⟨s, h⟩, fun H s => ⟨s, Nat.le_refl _⟩, fun i H x H' s h y => by
    obtain ⟨T, k, v, q, h1, h2, h3, h4, rfl⟩ := y
    exact ⟨T, k, v, q, h1, h2, h3, nw h4⟩⟩
theorem for_y {J : It} {n : Nat} {S : Hp → Prop} {Y : Nat → V → Hp → Hp → Prop} (wk : Wy J n S Y) {g : TG} {tb : TS} {D : Ends} {σ : L2.St} {H : Hp} (Pv : Nat → L2.St → Hp → Prop) (h0 : Pv 0 σ H) (hS : ∀ i σ H, Pv i σ H → S H)
    (hs : ∀ i x σ H H', i < n → Pv i σ H → Y i x H H' → g x σ H' fun σ2 H2 => tb { D with nx := Pv (i + 1), ct := Pv (i + 1), bk := D.nx } σ2 H2) (hd : ∀ σ H, Pv n σ H → D.nx σ H) :
    ∃ W : Nat → Nat → L2.St → Hp → Prop, (∃ m, W 0 m σ H) ∧ ∀ i m σ H, W i m σ H →
      (J.stop i H ∧ D.nx σ H) ∨ (J.go i H ∧ ∃ N : L2.St → Hp → Prop, (∀ σ' H', N σ' H' → ∃ m', m' < m ∧ W (i + 1) m' σ' H') ∧ ∀ x H', J.yld i H x H' → g x σ H' fun σ2 H2 => tb { D with nx := N, ct := N, bk := D.nx } σ2 H2) := by
  refine ⟨fun i m σ H => m = n - i ∧ i ≤ n ∧ Pv i σ H, ⟨_, rfl, Nat.zero_le _, h0⟩, ?_⟩
  rintro i m σ H ⟨rfl, hi, p⟩
  have s := hS i σ H p
  rcases Nat.lt_or_ge i n with hlt | hge
  · exact .inr ⟨wk.go i H s hlt, Pv (i + 1), fun σ' H' p' => ⟨n - (i + 1), by omega, rfl, hlt, p'⟩, fun x H' y => hs i x σ H H' hlt p (wk.yld i H x H' s hlt y)⟩
  · have e : i = n := Nat.le_antisymm hi hge
    subst e
    exact .inl ⟨wk.stop H s, hd σ H p⟩
theorem lc_y {J : It} {n : Nat} {S : Hp → Prop} {Y : Nat → V → Hp → Hp → Prop} (wk : Wy J n S Y) (hz : n ≤ 1000000) {g : TG} {tt : TT} {te : TE} {vs : List Nat} {σ : L2.St} {H1 : Hp} {D : Addr} {Qd : Hp → Prop} (Pv : Nat → List V → Hp → Prop) (h0 : ∀ H2, Nw H1 D (.lst []) H2 → Pv 0 [] H2)
    (hS : ∀ i acc H, Pv i acc H → S H) (hL : ∀ i acc H, Pv i acc H → acc.length ≤ i)
    (hs : ∀ i x acc H H', i < n → H D = some (.lst acc) → Pv i acc H → Y i x H H' → g x (wipe σ vs) H' fun σ2 H2 => wipe σ2 vs = wipe σ vs ∧ tt σ2 H2 fun b H3 =>
      if b = true then te σ2 H3 fun y H4 => H4 D = some (.lst acc) ∧ ∀ H5, Wr H4 D (.lst (acc ++ [y])) H5 → Pv (i + 1) (acc ++ [y]) H5 else H3 D = some (.lst acc) ∧ Pv (i + 1) acc H3)
    (hd : ∀ acc H, acc.length ≤ n → H D = some (.lst acc) → Pv n acc H → Qd H) :
    ∃ W : Nat → Nat → List V → Hp → Prop, (∃ m, ∀ H2, Nw H1 D (.lst []) H2 → W 0 m [] H2) ∧
  ∀ i m acc H, H D = some (.lst acc) → W i m acc H → (J.stop i H ∧ Qd H) ∨
    (acc.length < sizeLine ∧ J.go i H ∧ ∃ Nx : List V → Hp → Prop, (∀ a' H', Nx a' H' → ∃ m', m' < m ∧ W (i + 1) m' a' H') ∧ ∀ x H', J.yld i H x H' → g x (wipe σ vs) H' fun σ2 H2 => wipe σ2 vs = wipe σ vs ∧ tt σ2 H2 fun b H3 =>
      if b = true then te σ2 H3 fun y H4 => H4 D = some (.lst acc) ∧ ∀ H5, Wr H4 D (.lst (acc ++ [y])) H5 → Nx (acc ++ [y]) H5 else H3 D = some (.lst acc) ∧ Nx acc H3) := by
  have hs1 : 1000000 < sizeLine := by decide
  refine ⟨fun i m acc H => m = n - i ∧ i ≤ n ∧ Pv i acc H, ⟨n, fun H2 w => ⟨by omega, Nat.zero_le _, h0 H2 w⟩⟩, ?_⟩
  rintro i m acc H hacc ⟨rfl, hi, p⟩
  have hl := hL i acc H p
  have s := hS i acc H p
  rcases Nat.lt_or_ge i n with hlt | hge
  · exact .inr ⟨by omega, wk.go i H s hlt, Pv (i + 1), fun a' H' p' => ⟨n - (i + 1), by omega, rfl, hlt, p'⟩, fun x H' y => hs i x acc H H' hlt hacc p (wk.yld i H x H' s hlt y)⟩
  · have e : i = n := Nat.le_antisymm hi hge
    subst e
    exact .inl ⟨wk.stop H s, hd acc H hl hacc p⟩
/-! ### sorted, min -/
/-- the pairs (thing, its data), sorted by the data -/
def srt (ps : List (V × PyData)) : List (V × PyData) := ps.mergeSort (PySem.W.dataLe false Prod.snd)
def zSortD (K : PySem.W.Frag) : List V → Hp → VK → Prop := fun vs H Q => match vs with
  | [.ref a] => ∃ ps : List (V × PyData), SqL K H a (ps.map (·.1)) ∧ (∀ p ∈ ps, Dz false H p.1 p.2) ∧ PySem.W.AllAlike (ps.map (·.2)) ∧ PySem.W.Sortable (ps.map (·.2)) ∧ (∀ p ∈ ps, p.2.depth ≤ 50) ∧ ∀ q H2, Nw H q (.lst ((srt ps).map (·.1))) H2 → Q (.ref q) H2
  | _ => False
theorem c_sortD {X : Cx} (hu : X.A.units + 64 < cLine) : CallR X (.builtin "sorted") (zSortD X.K) := by
  intro pins s σ H vs us Q I r h
  unfold zSortD at h
  split at h
  · rename_i a
    obtain ⟨ps, hs, hd, al, so, dp, q⟩ := h
    obtain ⟨its, rv, hl, hz⟩ := I.list hs
    rw [Vals.ref1 r]
    rw [List.length_map] at hz
    have each : ∀ {ps : List (V × PyData)} {its : List Value}, Vals (ps.map (·.1)) its → PySem.W.EachIs (fun (u : Value) (p : V × PyData) => RelV p.1 u) its ps := by
      intro ps
      induction ps with
      | nil =>
        intro its r
        cases r
        exact .nil
      | cons p ps ih =>
        intro its r
        cases r with
        | cons a b => exact .cons a (ih b)
    have back : ∀ {ps : List (V × PyData)} {its : List Value}, PySem.W.EachIs (fun (u : Value) (p : V × PyData) => RelV p.1 u) its ps → Vals (ps.map (·.1)) its := by
      intro ps its e
      induction e with
      | nil => exact .nil
      | cons a _ ih => exact .cons a ih
    have e := each rv
    have er : ∀ {qs : List (V × PyData)} {us : List Value}, (∀ p ∈ qs, Dz false H p.1 p.2) → PySem.W.EachIs (fun (u : Value) (p : V × PyData) => RelV p.1 u) us qs → PySem.W.EachIs (fun (u : Value) (p : V × PyData) => ∃ as, Reads s.heap u p.2 as) us qs := by
      intro qs us hd e
      induction e with
      | nil => exact .nil
      | cons a _ ih =>
        obtain ⟨as, rd, _⟩ := Dz.reads I _ (hd _ List.mem_cons_self) a
        exact .cons ⟨as, rd⟩ (ih fun p hp => hd p (List.mem_cons_of_mem _ hp))
    refine PySem.W.sorted_data (enc := Prod.snd) hl.isList e (er hd e) al so hz (fun b hb => by have := dp b hb; omega) fun out ho eo => ?_
    obtain ⟨ep, he'⟩ := PyProof.Rows.sortedAll_at s.heap its (List.toArray out)
    have hlen : ((srt ps).map (·.1)).length ≤ sizeLine := by
      rw [List.length_map]
      unfold srt
      rw [List.length_mergeSort]
      exact hz
    have ve : Vals ((srt ps).map (·.1)) out := back eo
    exact ⟨.ref _, upd H (s.heap.objs.size + 1) (.lst ((srt ps).map (·.1))), I.laid (t' := s.toks) (fun _ _ => PyProof.Rows.sortedAll_old) (Nat.le_succ _) ⟨hlen, out, ep, ve, he'⟩, rfl, q _ _ (nw (I.hok.fresh (Nat.le_succ _)))⟩
  · exact h.elim
theorem k_sortD {X : Cx} (K : PySem.W.Frag) (hu : X.A.units + 64 < cLine) (hK : X.K = K := by rfl) : CallR X (.builtin "sorted") (zSortD K) := hK ▸ c_sortD hu
def zSortI (K : PySem.W.Frag) : List V → Hp → VK → Prop := fun vs H Q => match vs with
  | [.ref a] => ∃ ns : List Int, SqL K H a (ns.map V.int) ∧ ∀ (ms : List Int) p H2, ms.Perm ns → ms.Pairwise (· ≤ ·) → Nw H p (.lst (ms.map V.int)) H2 → Q (.ref p) H2
  | _ => False
theorem k_sortI {X : Cx} (K : PySem.W.Frag) (hK : X.K = K := by rfl) : CallR X (.builtin "sorted") (zSortI K) := hK ▸ callr_w cr_sortedI fun vs H Q h => by
  unfold zSortI at h
  split at h
  · obtain ⟨ns, e, q⟩ := h
    exact ⟨_, ns, rfl, e, fun ms p a b hp => q ms p _ a b (nw hp)⟩
  · exact h.elim
def zMinI (K : PySem.W.Frag) : List V → Hp → VK → Prop := fun vs H Q => match vs with
  | [.ref a] => ∃ ns : List Int, SqL K H a (ns.map V.int) ∧ 0 < ns.length ∧ ∀ m, m ∈ ns → (∀ y, y ∈ ns → m ≤ y) → Q (.int m) H
  | _ => False
theorem k_minI {X : Cx} (K : PySem.W.Frag) (hc : X.calm = true) (hK : X.K = K := by rfl) : CallR X (.builtin "min") (zMinI K) := hK ▸ callr_w (cr_min hc) fun vs H Q h => by
  unfold zMinI at h
  split at h
  · obtain ⟨ns, e, l, q⟩ := h
    exact ⟨_, ns, rfl, e, l, q⟩
  · exact h.elim
/-! ### an error with two fields raised -/
section
variable {X : Cx}
def tRz2 (C : Addr) (f g : Str) (t : TA) (W : WX) : TS := fun _ σ H => t σ H fun vs H1 => match vs with
  | [v, z] => ∀ d H2, Nw H1 d (.xd [(g, z), (f, v)]) H2 → W (.ref C) (some d) σ H2
  | _ => False
theorem ps_rz2 {W : WX} {k : Nat} {x f g : Str} {C : Addr} {e e2 : Expr} {t : TA} {p p2 pos : Pos} (hc : X.calm = true) (tk : Takes X W) (R : Er2 X.prog X.w X.K X.mg X.base k x f g C) (hr : Room (k + 1) X.A) (ha : PA X [e, e2] t) (hg : Gl X x := by rfl) (hdb : (x == ("__debug__" : Str)) = false := by decide)
    (he : starEach [e, e2] X.env = (false, eval e X.env) :: starEach [e2] X.env := by rfl) (hpl : (backTo p2 (starEach [e2] X.env)).any (·.1) = false := by rfl) : PS X (.Raise (some (.Call (.Name x p) [e, e2] [] p2)) none pos) (tRz2 C f g t W) := by
  obtain ⟨B, fI, fd, ps, T, iC, tI, F, hb⟩ := R.ex
  refine ps_w (ps_raise hc tk (pmk_err T iC tI F hr hb pass0 R.name (pa_mon ha) hg hdb he hpl)) ?_
  intro D σ H h
  refine ⟨_, h, ?_⟩
  intro vs H1 h1
  split at h1
  · rename_i v z
    refine ⟨by show 2 ≤ 1000; decide, fun a na => ?_⟩
    exact ⟨a, rfl, upd_same, fun dx nd ne => ⟨rfl, raise2 (f := f) (g := g) (v := v) (z := z) (Q := fun cls d H2 => W cls d σ H2) na nd ne (h1 dx _ (nw (by rw [upd_ne ne] at nd; exact nd)))⟩⟩
  · exact h1.elim
end
/-! ### == and != of a thing with itself -/
def zSelf (K : PySem.W.Frag) (neg : Bool) : R2 := fun x y H Q => y = x ∧ ((scal x x = true) ∨ (∃ d, Dp K H x d ∧ SeqAt.shaped d = true) ∨ (∃ a, x = .ref a ∧ (H a = some (.dK []) ∨ ∃ k v, H a = some (.dK [(k, v)]) ∧ flatB v = true))) ∧ Q (.bl (!neg)) H
section
variable {X : Cx}
theorem zEq_self {K : PySem.W.Frag} {neg : Bool} {x : V} {H : Hp} {Q : VK} (h : scal x x = true ∨ ∃ d, Dp K H x d ∧ SeqAt.shaped d = true) (q : Q (.bl (!neg)) H) : zEq K neg x x H Q := by
  unfold zEq
  have e : (neg ^^ true) = !neg := by cases neg <;> rfl
  cases sc : scal x x with
  | true =>
    show Q (.bl (neg ^^ decide (x = x))) H
    rw [decide_eq_true rfl, e]
    exact q
  | false =>
    rcases h with h | ⟨d, hd, sh⟩
    · rw [sc] at h; cases h
    · exact ⟨d, d, hd, hd, sh, sh, by rw [SeqAt.eqv_refl d (SeqAt.canLay_of_shaped sh), e]; exact q⟩
theorem k_eqSelf (K : PySem.W.Frag) (hu : X.A.units + 64 < cLine) (hK : X.K = K := by rfl) : OpR X (compareOp .Eq) (zSelf K false) := by
  subst hK
  intro pins s σ H x y v u Q I rx ry h
  obtain ⟨rfl, h, q⟩ := h
  rcases h with h | h | ⟨a, rfl, h⟩
  · exact o_eq hu pins s σ H _ _ v u Q I rx ry (zEq_self (.inl h) q)
  · exact o_eq hu pins s σ H _ _ v u Q I rx ry (zEq_self (.inr h) q)
  · refine op_eqV hu pins s σ H _ _ v u Q I rx ry ⟨5, by decide, .inr ?_, q⟩
    rcases h with e | ⟨k, v, e, f⟩
    · exact ⟨a, a, [], [], rfl, rfl, e, e, rfl, fun p hp => by cases hp⟩
    · refine ⟨a, a, _, _, rfl, rfl, e, e, rfl, fun p hp => ?_⟩
      obtain rfl := List.mem_singleton.mp hp
      refine ⟨v, ?_, .inl ⟨rfl, f⟩⟩
      show valV [(k, v)] k = some v
      unfold valV
      simp
theorem k_neSelf (K : PySem.W.Frag) (hu : X.A.units + 64 < cLine) (hK : X.K = K := by rfl) : OpR X (compareOp .NotEq) (zSelf K true) := by
  subst hK
  intro pins s σ H x y v u Q I rx ry h
  obtain ⟨rfl, h, q⟩ := h
  rcases h with h | h | ⟨a, rfl, h⟩
  · exact o_ne hu pins s σ H _ _ v u Q I rx ry (zEq_self (.inl h) q)
  · exact o_ne hu pins s σ H _ _ v u Q I rx ry (zEq_self (.inr h) q)
  · refine o_neDD hu pins s σ H _ _ v u Q I rx ry ?_
    rcases h with e | ⟨k, v, e, f⟩
    · exact ⟨[], [], e, e, rfl, fun p hp => (by cases hp), q⟩
    · refine ⟨_, _, e, e, rfl, fun p hp => ?_, q⟩
      obtain rfl := List.mem_singleton.mp hp
      refine ⟨v, ?_, .inl ⟨rfl, f⟩⟩
      show valV [(k, v)] k = some v
      unfold valV
      simp
end
/-! ### more parameters -/
section
variable {P : Program} {w : World} {K : PySem.W.Frag} {mg : Str → Option Value} {base : Heap} {C : Addr} {m qual : Str} {st : Stmt}
theorem mt3 {a b c : Str} {N : List Str} {k : Nat} {p : V → V → V → Hp → VK → XK → Prop} (D : Dm K C m qual st [a, b, c]) (S : FnScope N [a, b, c] (defScope st))
    (body : ∀ (f : Addr) (cdv : Value) (A : Around) (outer : List Env) (s : Shared) (H : Hp) (u v y : V) (Q : VK) (E : XK), Room k (A.deeper (envOfC qual (defScope st) s.heap.objs.size f cdv)) → p u v y H Q E →
      ∃ t, PSs (cxOf CX0 P w K mg base N qual (defScope st) f cdv A outer s H E).nox (defBody st) t ∧ t { nx := fun _ H' => Q .non H', rt := Q } (start N [u, v, y]) H) : Mt P w K mg base CX0 (k + 1) C m [a, b, c] (sp3 p) :=
  mt_of D S len3 fun f cdv A outer s H vs Q E hr h => by
    obtain ⟨u, v, y, rfl, h⟩ := sp3_of h
    exact body f cdv A outer s H u v y Q E hr h
def sp6 (p : V → V → V → V → V → V → Hp → VK → XK → Prop) : Sp := fun vs H Q E => match vs with
  | [a, b, c, d, e, f] => p a b c d e f H Q E
  | _ => False
theorem sp6_of {p : V → V → V → V → V → V → Hp → VK → XK → Prop} {vs : List V} {H : Hp} {Q : VK} {E : XK} (h : sp6 p vs H Q E) : ∃ a b c d e f, vs = [a, b, c, d, e, f] ∧ p a b c d e f H Q E := by
  unfold sp6 at h
  split at h
  · exact ⟨_, _, _, _, _, _, rfl, h⟩
  · exact h.elim
theorem mx6 {a b c d e g : Str} {N : List Str} {k : Nat} {p : V → V → V → V → V → V → Hp → VK → XK → Prop} (D : Dm K C m qual st [a, b, c, d, e, g]) (S : FnScope N [a, b, c, d, e, g] (defScope st))
    (body : ∀ (f : Addr) (cdv : Value) (A : Around) (outer : List Env) (s : Shared) (H : Hp) (u v y x z t : V) (Q : VK) (E : XK), Room k (A.deeper (envOfC qual (defScope st) s.heap.objs.size f cdv)) → p u v y x z t H Q E →
      ∃ r, PSs (cxOf (L2.CX P w) P w K mg base N qual (defScope st) f cdv A outer s H E) (defBody st) r ∧ r { nx := fun _ H' => Q .non H', rt := Q } (start N [u, v, y, x, z, t]) H) : Mt P w K mg base (L2.CX P w) (k + 1) C m [a, b, c, d, e, g] (sp6 p) :=
  mx_of D S (fun vs H Q E h => by
    obtain ⟨_, _, _, _, _, _, rfl, _⟩ := sp6_of h
    rfl) fun f cdv A outer s H vs Q E hr h => by
    obtain ⟨u, v, y, x, z, t, rfl, h⟩ := sp6_of h
    exact body f cdv A outer s H u v y x z t Q E hr h
end
/-! ### defs called anywhere, whatever is handled -/
theorem _root_.L2H.RoomH.units {k : Nat} {A : Around} (r : L2H.RoomH k A) : A.units + 64 < cLine := by have := r.un; omega
theorem hu_ofN {k : Nat} {A : Around} (r : L2H.RoomH k A) : A.units + 1 < cLine := by have := r.un; omega
theorem roomN {k : Nat} {A : Around} (r : Room k A) (h : Option Value) : L2H.RoomH k (A.mark h) := ⟨r.dp, r.un⟩
structure FnN (P : Program) (w : World) (K : PySem.W.Frag) (mg : Str → Option Value) (base : Heap) (k : Nat) (f : Addr) (fd : FuncData) (ps : List Str) (sp : Sp) : Prop where
  many : ∀ vs H Q E, sp vs H Q E → vs.length = ps.length
  call : ∀ (A : Around) (outer : List Env) (s : Shared) (H : Hp) (args : Args) (us : List Value) (vs : List V) (Q : VK) (E : XK), L2H.RoomH k A → Env0 P w K mg base A outer s H → BindsTo s fd args (ps.zip us) → Vals vs us → sp vs H Q E →
    codeAny (model P w) A (.call (.ref f) args) (CR CX0 outer P w H s Q E) s
structure Cn (P : Program) (w : World) (K : PySem.W.Frag) (mg : Str → Option Value) (base : Heap) (k : Nat) (x : Str) (ps : List Str) (sp : Sp) : Prop where
  ex : ∃ f fd, mg x = some (.ref f) ∧ PySem.W.keepIn K (.ref f) = true ∧ Binds K fd ps [] ∧ FnN P w K mg base k f fd ps sp ∧ ∃ oc od osl, K.lookup f = some ⟨oc, od, .func fd, osl⟩
theorem Cn.t {P : Program} {w : World} {K : PySem.W.Frag} {mg : Str → Option Value} {base : Heap} {k : Nat} {x : Str} {ps : List Str} {sp : Sp} (C : Cn P w K mg base k x ps sp) : Ct P w K mg base CX0 k x ps sp := by
  obtain ⟨f, fd, a, b, c, F, d⟩ := C.ex
  exact ⟨f, fd, a, b, c, ⟨F.many, fun A outer s H args us vs Q E r => F.call A outer s H args us vs Q E (L2H.roomH_of r)⟩, d⟩
section
variable {P : Program} {w : World} {K : PySem.W.Frag} {mg : Str → Option Value} {base : Heap}
theorem cn2 {x : Str} {st : Stmt} {a b : Str} {N : List Str} {k : Nat} {p : V → V → Hp → VK → XK → Prop} (D : Df K mg x st [a, b]) (S : FnScope N [a, b] (defScope st))
    (body : ∀ (f : Addr) (cdv : Value) (A : Around) (outer : List Env) (s : Shared) (H : Hp) (u v : V) (Q : VK) (E : XK) (pp : Addr × Obj), L2H.RoomH k (A.deeper (envOfC x (defScope st) s.heap.objs.size f cdv)) → p u v H Q E →
      ∃ t, PSs (cxW P w K mg base N x (defScope st) f cdv A outer s H E pp).nox (defBody st) t ∧ t { nx := fun _ H' => Q .non H', rt := Q } (start N [u, v]) H) : Cn P w K mg base (k + 1) x [a, b] (sp2 p) := by
  obtain ⟨f, fd, F, hm, hb⟩ := D.ex
  have len : ∀ vs H Q E, sp2 p vs H Q E → vs.length = [a, b].length := fun vs H Q E h => len2 vs H Q E h
  refine ⟨f, fd, hm, F.kp, hb, ⟨len, fun A outer s H args us vs Q E hr e0 hb r h => ?_⟩, fun_at F⟩
  obtain ⟨oc, od, kV, doc, pm, an, cdv, ct, osl, e, lk, hcd⟩ := F.ex
  subst e
  have hl := len _ _ _ _ h
  have grow : ∀ b o, base.get? b = some o → s.heap.get? b = some o := fun b o q => (e0.bs b o q).1
  have inK := e0.mod.kin.keeps grow
  have there := e0.mod.kin _ _ lk
  have hpin : L2H.PinOk outer H s (f, ⟨oc, od, .func (PySem.W.fnOf x x (defArgs st) (defBody st) (defScope st) .none kV doc pm an cdv ct), osl⟩) :=
    ⟨(e0.bs _ _ there).1, (e0.bs _ _ there).2, (fun hm => by
      have := (e0.funs.mem hm).1
      rw [there] at this
      cases this), (fun v z => by cases z)⟩
  obtain ⟨u, v, rfl, h⟩ := sp2_of h
  obtain ⟨t, ht, hq⟩ := body f cdv A outer s H u v Q E (f, ⟨oc, od, .func (PySem.W.fnOf x x (defArgs st) (defBody st) (defScope st) .none kV doc pm an cdv ct), osl⟩) (hr.deeper _) h
  have seen : ∀ y ∈ [a, b].zip us, (defScope st).names.lookup y.1 = some .local ∨ ((defScope st).names.lookup y.1 = some .cell ∧ ((cellsFrom (s.heap.objs.size + 1) (defScope st).names []).lookup y.1).isSome = true) := by
    intro y hy
    exact (S.par y.1 (List.of_mem_zip (a := y.1) (b := y.2) hy).1).imp_right fun q => ⟨q, PySem.W.cellsFrom_some _ _ _ (.inl q)⟩
  apply codeAny_call_function hr.depth (inK _ _ lk) rfl S.co S.gen rfl (PySem.W.codeRec_of inK hcd)
  apply hb
  apply wpAny_newFunctionEnv_cells S.kind seen
  rintro env rfl s1 x1
  refine And.intro ((e0.mod.nolimit.keeps grow).keeps x1.toInCall.keep) (codeAny_func ?_)
  have I : Inv (cxW P w K mg base N x (defScope st) f cdv A outer s H E _) [] (start N [u, v]) H s1 := L2H.inv_startH (CX := CX0) (E := E) S hpin e0 hl r x1
  refine wpAny_mono (ht.nox.run [] s1 (start N [u, v]) H _ I hq) ?_ (fun _ _ z => z)
  have out : ∀ (s' : Shared) (σ' : L2.St) (H' : Hp) (v : V) (u : Value), Inv (cxW P w K mg base N x (defScope st) f cdv A outer s H E (f, ⟨oc, od, .func (PySem.W.fnOf x x (defArgs st) (defBody st) (defScope st) .none kV doc pm an cdv ct), osl⟩)) [] σ' H' s' → RelV v u → Q v H' → CE outer P w H s Q u s' :=
    fun s' σ' H' v u J rv z => ⟨v, H', J.os, J.bare, J.base, J.hok, rv, z⟩
  intro fl s' hs
  match fl, hs with
  | .ret u, ⟨v, σ', H', J, rv, z⟩ => exact out s' σ' H' v u J rv z
  | .next, ⟨σ', H', J, z⟩ => exact out s' σ' H' .non .none J rfl z
  | .brk, ⟨_, _, _, z⟩ => exact z.elim
  | .cont, ⟨_, _, _, z⟩ => exact z.elim
end
section
variable {X : Cx} {k : Nat} {x : Str} {ps : List Str} {sp : Sp} {p pos : Pos} {e : Expr} {es : List Expr} {t : TA}
/-- a call of such a def -/
theorem pe_cn (C : Cn X.prog X.w X.K X.mg X.base k x ps sp) (hr : L2H.RoomH k X.A) (ha : PA X (e :: es) t) (hg : Gl X x := by rfl)
    (hdb : (x == ("__debug__" : Str)) = false := by decide)
    (he : starEach (e :: es) X.env = (false, eval e X.env) :: starEach es X.env := by rfl) (hpl : (backTo pos (starEach es X.env)).any (·.1) = false := by rfl) : PE X (.Call (.Name x p) (e :: es) [] pos) (tCl sp E0 t) := by
  obtain ⟨f, fd, hm, hk, hb, F, _⟩ := C.ex
  refine ⟨fun pins s σ H Q I h => wpAny_Call_Name_kw (ld_glob I hg hm (PySem.W.callWith_K (h₀ := X.base) I.ok.mod.kin hk (thn (ha.run pos pins s σ H _ I h) fun us s1 ⟨vs, H1, I1, r, q⟩ => ⟨I1.kIn, ?_⟩) he hpl) hdb)⟩
  have hl : us.length = ps.length := r.length.symm.trans (F.many _ _ _ _ q)
  have b := hb s1 us I1.kIn (by simpa using hl)
  rw [List.append_nil] at b
  refine wpAny_call (codeAny_mono (F.call X.A X.stack s1 H1 ⟨us, []⟩ us vs Q _ hr I1.env0 b r q) ?_)
  intro r s' hq
  match r, hq with
  | .error e, hq => exact (show False from hq).elim
  | .ok (.ret u), hq => exact I1.after hq
  | .ok .next, hq => exact False.elim hq
  | .ok .brk, hq => exact False.elim hq
  | .ok .cont, hq => exact False.elim hq
end
/-! ### a text == anything -/
theorem dict_not_str (l : Addr) (es : Array DictEntry) (n : Nat) (dd : Option Addr) (sl : Array (Option Value)) (b : Str) (u : Tok) :
    Meets (Builtin.«dict.__eq__» ⟨[.ref l, .str b u], []⟩) (fun _ R s => s.heap.get? l = some { cls := .type "dict", dict := dd, data := .dict es n, slots := sl } ∧ R (.ok (.ret .notImplemented)) s) :=
  .of_wp fun prog w A R s h => by
    obtain ⟨hp, gs, dr, tk, os⟩ := s
    obtain ⟨hl, h⟩ := h
    have f1 := F.sub_str_dict
    wp_walk using AutoSeq1.wpAny_loadPart' hl
    exact ⟨_, rfl, h⟩
theorem str_not_dict (l : Addr) (es : Array DictEntry) (n : Nat) (dd : Option Addr) (sl : Array (Option Value)) (b : Str) (u : Tok) :
    Meets (Builtin.«str.__eq__» ⟨[.str b u, .ref l], []⟩) (fun _ R s => s.heap.get? l = some { cls := .type "dict", dict := dd, data := .dict es n, slots := sl } ∧ R (.ok (.ret .notImplemented)) s) :=
  .of_wp fun prog w A R s h => by
    obtain ⟨hp, gs, dr, tk, os⟩ := s
    obtain ⟨hl, h⟩ := h
    wp_walk using AutoSeq1.wpAny_loadPart' hl, wpAny_load hl
    exact ⟨_, rfl, h⟩
theorem rc_str_dict {A : Around} {s : Shared} {l : Addr} {es : Array DictEntry} {n : Nat} {dd : Option Addr} {sl : Array (Option Value)} (b : Str) (u : Tok) (ho : s.heap.get? l = some { cls := .type "dict", dict := dd, data := .dict es n, slots := sl }) (hu : A.units < cLine) : SeqAt.RcAt A s (.str b u) (.ref l) false := fun prog w E Q h =>
  SeqAt.rc_eq_decline_or (k := false) (typeIs_str s b u) ⟨_, ho, rfl⟩ (by decide) F.sub_dict_str F.slot_str_eq F.slot_dict_eq_refl
    (fun _ hq => call_meets F.slot_str_eq (typeIs_str s b u) F.entry_str_eq (F.args_str_eq_2 _ _) (str_not_dict l es n dd sl b u) ⟨ho, hq⟩)
    (fun _ hq => call_meets F.slot_dict_eq_refl ⟨_, ho, rfl⟩ F.entry_dict_eq (F.args_dict_eq_2 _ _) (dict_not_str l es n dd sl b u) ⟨ho, hq⟩)
    (fun _ hq => wpAny_of_eq (rfl : isSame (.str b u) (.ref l) = pure false) hq) (.inr hu) h
def zEqS (K : PySem.W.Frag) : R2 := fun x y H Q => match x, y with
  | .str _, .ref a => ((∃ xs, SqL K H a xs) ∨ (∃ xs, SqT K H a xs) ∨ ∃ kvs, H a = some (.dK kvs)) ∧ Q (.bl false) H
  | x, y => zEq K false x y H Q
theorem o_eqS {X : Cx} (hu : X.A.units + 64 < cLine) : OpR X (compareOp .Eq) (zEqS X.K) := by
  intro pins s σ H x y v u Q I rx ry h
  unfold zEqS at h
  split at h
  · rename_i z a
    obtain ⟨c, q⟩ := h
    cases ry
    obtain ⟨t, rfl⟩ := rx
    have un : X.A.units < cLine := by omega
    have fin : EP X pins σ Q (.bool false) s := ⟨.bl false, H, I, rfl, q⟩
    rcases c with ⟨xs, c⟩ | ⟨xs, c⟩ | ⟨kvs, c⟩
    · obtain ⟨its, rv, p, _⟩ := I.list c
      exact SeqAt.RcAt.str_list z t p.isList un _ _ _ _ fin
    · obtain ⟨its, rv, p, _⟩ := I.tuple c
      exact SeqAt.RcAt.str_tuple z t p un _ _ _ _ fin
    · obtain ⟨_, _, vs, _, dd⟩ := dk_of I.hok c
      obtain ⟨⟨c1, c2, c3, c4⟩, es, ep, h1, ⟨h2, h3, h4⟩, h5, _⟩ := dd
      obtain rfl : c1 = .type "dict" := h2
      obtain rfl : c3 = .dict es ep := h5
      exact rc_str_dict z t h1 un _ _ _ _ fin
  · exact o_eq hu pins s σ H _ _ v u Q I rx ry h
theorem k_eqS {X : Cx} (K : PySem.W.Frag) (hu : X.A.units + 64 < cLine) (hK : X.K = K := by rfl) : OpR X (compareOp .Eq) (zEqS K) := hK ▸ o_eqS hu
/-- a thing of a known kind -/
def AnyV (K : PySem.W.Frag) (H : Hp) (v : V) : Prop := match v with
  | .ref a => (∃ xs, SqL K H a xs) ∨ (∃ xs, SqT K H a xs) ∨ ∃ kvs, H a = some (.dK kvs)
  | .non => True
  | .bl _ => True
  | .int _ => True
  | .str _ => True
  | _ => False
theorem eqS_any {K : PySem.W.Frag} {H : Hp} {x : Str} {v : V} {Q : VK} (h : AnyV K H v) (q : Q (.bl (decide (V.str x = v))) H) : zEqS K (.str x) v H Q := by
  cases v with
  | ref a =>
    refine ⟨h, ?_⟩
    rw [show decide (V.str x = V.ref a) = false from decide_eq_false (fun z => by cases z)] at q
    exact q
  | non => exact q
  | bl => exact q
  | int => exact q
  | str y =>
    show Q (.bl (false ^^ decide (V.str x = V.str y))) H
    rw [Bool.false_xor]
    exact q
  | _ => exact h.elim
def zEqA (K : PySem.W.Frag) : R2 := fun x y H Q => ∃ z, x = .str z ∧ AnyV K H y ∧ Q (.bl (decide (V.str z = y))) H
theorem k_eqA {X : Cx} (K : PySem.W.Frag) (hu : X.A.units + 64 < cLine) (hK : X.K = K := by rfl) : OpR X (compareOp .Eq) (zEqA K) := by
  subst hK
  intro pins s σ H x y v u Q I rx ry h
  obtain ⟨z, rfl, a, q⟩ := h
  exact o_eqS hu pins s σ H _ _ v u Q I rx ry (eqS_any a q)
theorem AnyV.same {K : PySem.W.Frag} {H H2 : Hp} {v : V} (h : AnyV K H v) (s : Same H H2) : AnyV K H2 v := by
  cases v with
  | ref a => exact h.imp (fun ⟨xs, e⟩ => ⟨xs, sqL_same s e⟩) (Or.imp (fun ⟨xs, e⟩ => ⟨xs, sqT_same s e⟩) fun ⟨kvs, e⟩ => ⟨kvs, s _ _ e⟩)
  | _ => exact h
theorem AnyV.lk {K : PySem.W.Frag} {H H2 : Hp} {v : V} {d : Addr} {kvs : List (List Key × V)} {o : HO} (h : AnyV K H v) (e : H d = some (.dT kvs)) (w : Wr H d o H2) : AnyV K H2 v := by
  cases v with
  | ref a =>
    have ne : ∀ {u : HO}, H a = some u → (∀ ks, u ≠ .dT ks) → H2 a = some u := fun {u} hu n => w.keep (fun z => by subst z; rw [e] at hu; cases hu; exact n _ rfl) hu
    rcases h with ⟨xs, (h | ⟨q, h⟩) | h⟩ | ⟨xs, (h | ⟨q, h⟩) | h⟩ | ⟨ks, h⟩
    · exact .inl ⟨xs, .inl (.inl (ne h (fun _ z => by cases z)))⟩
    · exact .inl ⟨xs, .inl (.inr ⟨q, ne h (fun _ z => by cases z)⟩)⟩
    · exact .inl ⟨xs, .inr h⟩
    · exact .inr (.inl ⟨xs, .inl (.inl (ne h (fun _ z => by cases z)))⟩)
    · exact .inr (.inl ⟨xs, .inl (.inr ⟨q, ne h (fun _ z => by cases z)⟩)⟩)
    · exact .inr (.inl ⟨xs, .inr h⟩)
    · exact .inr (.inr ⟨ks, ne h (fun _ z => by cases z)⟩)
  | _ => exact h
theorem lockF {H : Hp} {d : Addr} {od : Obj} {kvs : List (List Key × V)} (h : H d = some (.dT kvs)) : (upd H d (.frz od (.dT kvs))) d = some (.frz od (.dT kvs)) ∧ Wr H d (.frz od (.dT kvs)) (upd H d (.frz od (.dT kvs))) ∧ ∀ H2, Same (upd H d (.frz od (.dT kvs))) H2 → Same H (upd H2 d (.dT kvs)) := by
  refine ⟨upd_same, wr, fun H2 s b o e => ?_⟩
  by_cases z : b = d
  · subst z
    rw [h] at e
    cases e
    exact upd_same
  · rw [upd_ne z]
    exact s _ _ (by rw [upd_ne z]; exact e)
/-! ### sorted data -/
def srtD (ds : List PyData) : List PyData := ds.mergeSort (PySem.W.dataLe false id)
theorem dzAll_zip {H : Hp} : ∀ {xs : List V} {ds : List PyData}, DzAll false H xs ds → (xs.zip ds).map (·.1) = xs ∧ (xs.zip ds).map (·.2) = ds ∧ ∀ p ∈ xs.zip ds, Dz false H p.1 p.2
  | _, _, .nil => ⟨rfl, rfl, fun p hp => by cases hp⟩
  | _, _, .cons (v := v) (vs := vs) (d := d) (ds := ds) h t => by
    obtain ⟨a, b, c⟩ := dzAll_zip t
    refine ⟨by rw [List.zip_cons_cons, List.map_cons, a], by rw [List.zip_cons_cons, List.map_cons, b], fun p hp => ?_⟩
    rw [List.zip_cons_cons] at hp
    rcases List.mem_cons.mp hp with rfl | hp
    · exact h
    · exact c p hp
theorem dzAll_of {H : Hp} : ∀ {ps : List (V × PyData)}, (∀ p ∈ ps, Dz false H p.1 p.2) → DzAll false H (ps.map (·.1)) (ps.map (·.2))
  | [], _ => .nil
  | p :: ps, h => .cons (h p List.mem_cons_self) (dzAll_of fun q hq => h q (List.mem_cons_of_mem _ hq))
theorem srt_snd (ps : List (V × PyData)) : (srt ps).map (·.2) = srtD (ps.map (·.2)) := by
  unfold srt srtD
  exact List.map_mergeSort fun a _ b _ => rfl
theorem srt_dz {H : Hp} {ps : List (V × PyData)} (h : ∀ p ∈ ps, Dz false H p.1 p.2) : DzAll false H ((srt ps).map (·.1)) (srtD (ps.map (·.2))) := by
  rw [← srt_snd]
  refine dzAll_of fun p hp => h p ?_
  unfold srt at hp
  exact (List.mergeSort_perm ps _).mem_iff.mp hp
/-- sorted of things of one shape -/
theorem sortD_go {K : PySem.W.Frag} {H : Hp} {a : Addr} {xs : List V} {ds : List PyData} {Q : VK} (hs : SqL K H a xs) (hd : DzAll false H xs ds) (al : PySem.W.AllAlike ds) (so : PySem.W.Sortable ds) (dp : ∀ d ∈ ds, d.depth ≤ 50)
    (q : ∀ ys p H2, DzAll false H ys (srtD ds) → Nw H p (.lst ys) H2 → Q (.ref p) H2) : zSortD K [.ref a] H Q := by
  obtain ⟨e1, e2, e3⟩ := dzAll_zip hd
  refine ⟨xs.zip ds, by rw [e1]; exact hs, e3, by rw [e2]; exact al, by rw [e2]; exact so, fun p hp => dp p.2 ?_, fun p H2 n => q _ p H2 ?_ n⟩
  · have h2 : p.2 ∈ (xs.zip ds).map (·.2) := List.mem_map.mpr ⟨p, hp, rfl⟩
    rw [e2] at h2
    exact h2
  · have := srt_dz e3
    rw [e2] at this
    exact this
end Z

/-! T2: list.pop(i), list.remove of data, five values by names. -/
namespace Z
open PySem PySem.Spec PyProof.Rows L2
section
variable {X : Cx}
/-- xs.pop(i) -/
def zPopA : Addr → List V → Hp → VK → Prop := fun l ys H Q => match ys with
  | [.int i] => ∃ xs k y, H l = some (.lst xs) ∧ -(2 ^ 63) ≤ i ∧ i < 2 ^ 63 ∧ seqIndex? i xs.length = some k ∧ xs[k]? = some y ∧ ∀ H2, Wr H l (.lst (xs.eraseIdx k)) H2 → Q y H2
  | _ => False
theorem m_popA : MtR X "list.pop" (ofL zPopA) := mt_w mt_popAt fun x vs H Q ⟨a, e, h⟩ => by
  unfold zPopA at h
  split at h
  · obtain ⟨xs, k, y, h1, h2, h3, h4, h5, q⟩ := h
    exact ⟨a, xs, _, k, y, e, rfl, h1, h2, h3, h4, h5, q _ wr⟩
  · exact h.elim
/-- xs.remove(x): the first item that reads as x's data -/
def zRemD (K : PySem.W.Frag) : Addr → List V → Hp → VK → Prop := fun l ys H Q => match ys with
  | [x] => ∃ xs ds d j, H l = some (.lst xs) ∧ DzAll false H xs ds ∧ Dz false H x d ∧ PyData.plainAll ds = true ∧ d.plain = true ∧ d.depth ≤ 40 ∧ SeqAt.dataPlace ds d = some j ∧ ∀ H2, Wr H l (.lst (xs.eraseIdx j)) H2 → Q .non H2
  | _ => False
theorem m_removeD (hu : X.A.units + 64 < cLine) : MtR X "list.remove" (ofL (zRemD X.K)) := by
  intro pins s σ H x xs v us Q I rx rxs h
  obtain ⟨l, rfl, h⟩ := h
  unfold zRemD at h
  split at h
  · obtain ⟨xs, ds, d, j, hH, dz, dx, pl, pd, dp, hj, q⟩ := h
    cases rx
    obtain ⟨u, rfl, ru⟩ := rxs.one
    obtain ⟨z, its, n, r, hl, e0⟩ := I.lstM hH
    obtain ⟨as, rs, _⟩ := DzAll.reads I its dz r
    obtain ⟨bs, rd, _⟩ := Dz.reads I u dx ru
    have m : min (PyData.depthAll ds) d.depth ≤ 40 := Nat.le_trans (Nat.min_le_right _ _) dp
    refine SeqAt.remove_list_data (vs := its.toArray) (j := j) ⟨_, e0, rfl, n, rfl⟩ rs rd pl pd (by omega) hj (by rw [List.size_toArray, ← hl]; exact z) ?_
    refine ⟨.non, _, I.lset (its' := its.eraseIdx j) (t' := s.toks) hH e0 ?_ (r.eraseIdx j) ?_, rfl, q _ wr⟩
    · show its.toArray.eraseIdxIfInBounds j = (its.eraseIdx j).toArray
      rw [List.eraseIdxIfInBounds_toArray]
    · exact Nat.le_trans (List.length_eraseIdx_le ..) z
  · exact h.elim
theorem k_removeD (K : PySem.W.Frag) (hu : X.A.units + 64 < cLine) (hK : X.K = K := by rfl) : MtR X "list.remove" (ofL (zRemD K)) := hK ▸ m_removeD hu
end
def perm_4_2_3_1_0 {α : Type} : List α → List α
  | [a, b, c, d, e] => [e, c, d, b, a]
  | l => l
theorem perm_4_2_3_1_0_ok {zs : List V} {ws : List Value} (r : Vals zs ws) : Vals (perm_4_2_3_1_0 zs) (perm_4_2_3_1_0 ws) := by
  unfold perm_4_2_3_1_0
  cases r with
  | nil => exact .nil
  | cons a r =>
  cases r with
  | nil => exact .cons a .nil
  | cons b r =>
  cases r with
  | nil => exact .cons a (.cons b .nil)
  | cons c r =>
  cases r with
  | nil => exact .cons a (.cons b (.cons c .nil))
  | cons d r =>
  cases r with
  | nil => exact .cons a (.cons b (.cons c (.cons d .nil)))
  | cons e r =>
  cases r with
  | nil => exact .cons e (.cons c (.cons d (.cons b (.cons a .nil))))
  | cons f r => exact .cons a (.cons b (.cons c (.cons d (.cons e (.cons f r)))))
end Z

/-! M6: disks: names, texts, their tables as they lie in the abstract heap. -/
namespace M6
open PySem PySem.Spec PyProof.Rows L2 Z SX M9 M3 M10

/-! ### names and texts -/
def alf : List Nat := ("abcdefghijklmnopqrstuvwxyz0123456789-" : Str).cps.toList
def mrk : List Nat := [32, 33, 35, 36, 38, 39, 40, 41, 42, 43, 44, 45, 46, 47, 58, 59, 60, 61, 62, 63, 64, 91, 93, 94, 95, 96, 123, 124, 125, 126] ++ [34] ++ [92] ++ ("ABCDEFGHIJKLMNOPQRSTUVWXYZ" : Str).cps.toList ++ alf
def inAlf (c : Nat) : Bool := decide (c ∈ alf)
def inMrk (c : Nat) : Bool := decide (c ∈ mrk)
def nmS (x : Str) : Bool := decide (1 ≤ x.length) && decide (x.length ≤ 12) && x.cps.toList.all inAlf
def nmD : PyData → Bool
  | .str x => nmS x
  | _ => false
def mkS (x : Str) : Bool := decide (x.length ≠ 0) && x.cps.toList.all inMrk
def txD : PyData → Bool
  | .str x => mkS x
  | _ => false
/-- a text on which the law's judging and the program's meet -/
def txOk : PyData → Bool
  | .str x => asciiS x && decide (x.length ≤ 30) && (mkS x == (prS x && decide (x.length ≠ 0)))
  | _ => true
def nmOk : PyData → Bool
  | .str x => asciiS x && decide (x.length ≤ 30)
  | _ => true
theorem alf_pr : ∀ c ∈ alf, 32 ≤ c ∧ c ≤ 126 := pr_of (by decide +kernel)
theorem mrk_pr : ∀ c ∈ mrk, 32 ≤ c ∧ c ≤ 126 := pr_of (by decide +kernel)
theorem alf_mrk {c : Nat} (h : c ∈ alf) : c ∈ mrk := List.mem_append.mpr (.inr h)
theorem len_cps (x : Str) : x.cps.toList.length = x.length := by rw [Array.length_toList]; rfl
theorem nm_S {l : List Nat} (h : ∀ c ∈ l, c ∈ alf) (h1 : 1 ≤ l.length) (h2 : l.length ≤ 12) : nmS (S l) = true := by
  unfold nmS
  rw [length_S, cps_S, decide_eq_true h1, decide_eq_true h2, Bool.and_self, Bool.true_and, List.all_eq_true]
  exact fun c hc => decide_eq_true (h c hc)
theorem nm_of {x : Str} (h : nmS x = true) : 1 ≤ x.length ∧ x.length ≤ 12 ∧ ∀ c ∈ x.cps.toList, c ∈ alf := by
  unfold nmS at h
  simp only [Bool.and_eq_true, decide_eq_true_eq, List.all_eq_true] at h
  exact ⟨h.1.1, h.1.2, fun c hc => of_decide_eq_true (h.2 c hc)⟩
theorem mk_S {l : List Nat} (h : ∀ c ∈ l, c ∈ mrk) (h1 : 1 ≤ l.length) : mkS (S l) = true := by
  unfold mkS
  rw [length_S, cps_S, decide_eq_true (p := l.length ≠ 0) (by omega), Bool.true_and, List.all_eq_true]
  exact fun c hc => decide_eq_true (h c hc)
theorem mk_of {x : Str} (h : mkS x = true) : x.length ≠ 0 ∧ ∀ c ∈ x.cps.toList, c ∈ mrk := by
  unfold mkS at h
  simp only [Bool.and_eq_true, decide_eq_true_eq, List.all_eq_true] at h
  exact ⟨h.1, fun c hc => of_decide_eq_true (h.2 c hc)⟩
theorem tx_good {l : List Nat} (h : ∀ c ∈ l, c ∈ mrk) (h1 : 1 ≤ l.length) (h2 : l.length ≤ 30) : txOk (.str (S l)) = true ∧ txD (.str (S l)) = true := by
  have p : Pr l := fun c hc => mrk_pr c (h c hc)
  refine ⟨?_, mk_S h h1⟩
  show (asciiS (S l) && decide ((S l).length ≤ 30) && (mkS (S l) == (prS (S l) && decide ((S l).length ≠ 0)))) = true
  rw [asc_of (lt_pr p), length_S, decide_eq_true h2, mk_S h h1, prS_of p, decide_eq_true (p := l.length ≠ 0) (by omega)]
  rfl
theorem tx_bad {l : List Nat} {c : Nat} (h : ∀ c ∈ l, c < 128) (hc : c ∈ l) (b : c < 32) (h2 : l.length ≤ 30) : txOk (.str (S l)) = true ∧ txD (.str (S l)) = false := by
  have m : (l.all inMrk) = false := by
    rw [List.all_eq_false]
    exact ⟨c, hc, fun z => by have := mrk_pr c (of_decide_eq_true z); omega⟩
  have m2 : mkS (S l) = false := by
    unfold mkS
    rw [cps_S, m, Bool.and_false]
  have p : prS (S l) = false := by
    unfold prS
    rw [cps_S, List.all_eq_false]
    exact ⟨c, hc, by simp; omega⟩
  refine ⟨?_, m2⟩
  show (asciiS (S l) && decide ((S l).length ≤ 30) && (mkS (S l) == (prS (S l) && decide ((S l).length ≠ 0)))) = true
  rw [asc_of h, length_S, decide_eq_true h2, m2, p]
  rfl
theorem nm_ok {l : List Nat} (h : ∀ c ∈ l, c < 128) (h2 : l.length ≤ 30) : nmOk (.str (S l)) = true := by
  show (asciiS (S l) && decide ((S l).length ≤ 30)) = true
  rw [asc_of h, length_S, decide_eq_true h2]
  rfl

/-! ### disks as they are thought -/
structure Ds where
  names : List Str
  txt : Str → Str
  sy : Str → Nat
def Ds.put (D : Ds) (n t : Str) (m : Nat) : Ds := ⟨if n ∈ D.names then D.names else D.names ++ [n], fun j => if j = n then t else D.txt j, fun j => if j = n then m else D.sy j⟩
def Ds.drop (D : Ds) (n : Str) : Ds := ⟨D.names.filter fun j => decide (j ≠ n), D.txt, D.sy⟩
def Ds.tx (D : Ds) (n : Str) : Str := if n ∈ D.names then D.txt n else ""
def Ds.mt (D : Ds) (n : Str) : Nat := if n ∈ D.names then D.sy n else 0
theorem Ds.tx_in {D : Ds} {n : Str} (h : n ∈ D.names) : D.tx n = D.txt n := if_pos h
theorem Ds.mt_in {D : Ds} {n : Str} (h : n ∈ D.names) : D.mt n = D.sy n := if_pos h
/-- a table of the names -/
def Tb (kvs : List (Key × V)) (ns : List Str) (g : Str → V) : Prop := kvs.map (·.1) = ns.map Sum.inr ∧ ∀ j : Str, valV kvs (Sum.inr j) = if j ∈ ns then some (g j) else none
theorem Tb.len {kvs : List (Key × V)} {ns : List Str} {g : Str → V} (h : Tb kvs ns g) : kvs.length = ns.length := by
  have := congrArg List.length h.1
  simpa using this
theorem Tb.at {kvs : List (Key × V)} {ns : List Str} {g : Str → V} (h : Tb kvs ns g) {n : Str} (i : n ∈ ns) : valV kvs (Sum.inr n) = some (g n) := by rw [h.2, if_pos i]
theorem Tb.no {kvs : List (Key × V)} {ns : List Str} {g : Str → V} (h : Tb kvs ns g) {n : Str} (i : n ∉ ns) : valV kvs (Sum.inr n) = none := by rw [h.2, if_neg i]
theorem Tb.has {kvs : List (Key × V)} {ns : List Str} {g : Str → V} (h : Tb kvs ns g) (n : Str) : (valV kvs (Sum.inr n)).isSome = decide (n ∈ ns) := by
  rw [h.2]
  by_cases i : n ∈ ns
  · rw [if_pos i, decide_eq_true i]; rfl
  · rw [if_neg i, decide_eq_false i]; rfl
theorem Tb.nil {g : Str → V} : Tb [] [] g := ⟨rfl, fun j => by rw [if_neg (by simp)]; rfl⟩
theorem put_keys {kvs : List (Key × V)} {k : Key} {v : V} : (k ∈ kvs.map (·.1) → (putK kvs k v).map (·.1) = kvs.map (·.1)) ∧ (k ∉ kvs.map (·.1) → (putK kvs k v).map (·.1) = kvs.map (·.1) ++ [k]) := by
  unfold putK
  by_cases a : (kvs.any fun kv => decide (kv.1 = k)) = true
  · have i : k ∈ kvs.map (·.1) := by
      obtain ⟨p, hp, e⟩ := List.any_eq_true.mp a
      exact List.mem_map.mpr ⟨p, hp, of_decide_eq_true e⟩
    refine ⟨fun _ => ?_, fun z => (z i).elim⟩
    rw [if_pos a, List.map_map]
    refine List.map_congr_left fun p _ => ?_
    show (if p.1 = k then (p.1, v) else p).1 = p.1
    split <;> rfl
  · have i : k ∉ kvs.map (·.1) := fun z => a (by
      obtain ⟨p, hp, e⟩ := List.mem_map.mp z
      exact List.any_eq_true.mpr ⟨p, hp, decide_eq_true e⟩)
    refine ⟨fun z => (i z).elim, fun _ => ?_⟩
    rw [if_neg a, List.map_append]
    rfl
theorem Tb.put {kvs : List (Key × V)} {ns : List Str} {g : Str → V} (h : Tb kvs ns g) (n : Str) (v : V) : Tb (putK kvs (Sum.inr n) v) (if n ∈ ns then ns else ns ++ [n]) (fun j => if j = n then v else g j) := by
  have mem : (Sum.inr n ∈ kvs.map (·.1)) ↔ n ∈ ns := by
    rw [h.1, List.mem_map]
    constructor
    · rintro ⟨a, ha, e⟩
      cases e
      exact ha
    · exact fun z => ⟨n, z, rfl⟩
  refine ⟨?_, fun j => ?_⟩
  · by_cases i : n ∈ ns
    · rw [put_keys.1 (mem.mpr i), if_pos i, h.1]
    · rw [put_keys.2 (fun z => i (mem.mp z)), if_neg i, h.1, List.map_append]
      rfl
  · rw [valV_put, h.2]
    have e : ((Sum.inr j : Key) = Sum.inr n) ↔ j = n := ⟨fun z => by cases z; rfl, fun z => by rw [z]⟩
    by_cases q : j = n
    · rw [if_pos (e.mpr q)]
      subst q
      rw [if_pos (by split <;> simp [*])]
      show some v = some (if j = j then v else g j)
      rw [if_pos rfl]
    · rw [if_neg (fun z => q (e.mp z))]
      show (if j ∈ ns then some (g j) else none) = if j ∈ (if n ∈ ns then ns else ns ++ [n]) then some (if j = n then v else g j) else none
      rw [if_neg (c := j = n) q]
      by_cases i : n ∈ ns
      · rw [if_pos i]
      · rw [if_neg i]
        by_cases c : j ∈ ns
        · rw [if_pos c, if_pos (List.mem_append.mpr (.inl c))]
        · rw [if_neg c, if_neg (fun z => (List.mem_append.mp z).elim c fun w => q (List.mem_singleton.mp w))]
theorem valV_drop (k j : Key) : ∀ kvs : List (Key × V), valV (dropK kvs k) j = if j = k then none else valV kvs j
  | [] => by split <;> rfl
  | p :: r => by
    have ih := valV_drop k j r
    by_cases a : p.1 = k
    · rw [show dropK (p :: r) k = dropK r k by simp [dropK, a], ih]
      by_cases q : j = k
      · rw [if_pos q, if_pos q]
      · rw [if_neg q, if_neg q, valV_neg (fun z => q (z.symm.trans a))]
    · rw [show dropK (p :: r) k = p :: dropK r k by simp [dropK, a]]
      by_cases c : p.1 = j
      · rw [valV_pos c, valV_pos c, if_neg (fun z => a (c.trans z))]
      · rw [valV_neg c, valV_neg c, ih]
theorem Tb.drop {kvs : List (Key × V)} {ns : List Str} {g : Str → V} (h : Tb kvs ns g) (n : Str) : Tb (dropK kvs (Sum.inr n)) (ns.filter fun j => decide (j ≠ n)) g := by
  refine ⟨?_, fun j => ?_⟩
  · have gen : ∀ (kvs : List (Key × V)) (ns : List Str), kvs.map (·.1) = ns.map Sum.inr → (dropK kvs (Sum.inr n)).map (·.1) = (ns.filter fun j => decide (j ≠ n)).map Sum.inr := by
      intro kvs
      induction kvs with
      | nil =>
        intro ns e
        cases ns with
        | nil => rfl
        | cons a r => cases e
      | cons p r ih =>
        intro ns e
        cases ns with
        | nil => cases e
        | cons a t =>
          have e1 : p.1 = Sum.inr a := (List.cons.inj e).1
          have e2 := ih t (List.cons.inj e).2
          by_cases q : a = n
          · have q' : p.1 = (Sum.inr n : Key) := by rw [e1, q]
            rw [show dropK (p :: r) (Sum.inr n) = dropK r (Sum.inr n) by simp [dropK, q'], e2, List.filter_cons, if_neg (by simp [q])]
          · have q' : ¬ p.1 = (Sum.inr n : Key) := fun z => q (by rw [e1] at z; cases z; rfl)
            rw [show dropK (p :: r) (Sum.inr n) = p :: dropK r (Sum.inr n) by simp [dropK, q'], List.map_cons, e2, e1, List.filter_cons, if_pos (by simp [q])]
            rfl
    exact gen kvs ns h.1
  · rw [valV_drop, h.2]
    by_cases q : j = n
    · rw [if_pos (by rw [q]), if_neg (fun z => by simpa [q] using (List.mem_filter.mp z).2)]
    · rw [if_neg (fun z => q (by cases z; rfl))]
      by_cases i : j ∈ ns
      · rw [if_pos i, if_pos (List.mem_filter.mpr ⟨i, by simpa using q⟩)]
      · rw [if_neg i, if_neg (fun z => i (List.mem_filter.mp z).1)]
theorem Tb.ext {kvs : List (Key × V)} {ns : List Str} {g g' : Str → V} (h : Tb kvs ns g) (e : ∀ j, g j = g' j) : Tb kvs ns g' := ⟨h.1, fun j => by rw [h.2, e]⟩
theorem Tb.mem {kvs : List (Key × V)} {ns : List Str} {g : Str → V} (h : Tb kvs ns g) : kvs.map (fun kv => kV kv.1) = ns.map V.str := by
  have : kvs.map (fun kv => kV kv.1) = (kvs.map (·.1)).map kV := by rw [List.map_map]; rfl
  rw [this, h.1, List.map_map]
  rfl

/-! ### what stays -/
/-- all stays but these -/
def Kp (l : List Addr) (H H2 : Hp) : Prop := ∀ b o, b ∉ l → H b = some o → H2 b = some o
theorem Kp.refl {l : List Addr} {H : Hp} : Kp l H H := fun _ _ _ h => h
theorem Kp.same {l : List Addr} {H H2 : Hp} (s : Same H H2) : Kp l H H2 := fun b o _ h => s b o h
theorem Kp.trans {l : List Addr} {H H1 H2 : Hp} (x : Kp l H H1) (y : Kp l H1 H2) : Kp l H H2 := fun b o n h => y b o n (x b o n h)
theorem Kp.nw {l : List Addr} {H H1 H2 : Hp} {p : Addr} {o : HO} (x : Kp l H H1) (n : Nw H1 p o H2) : Kp l H H2 := x.trans (.same n.same)
theorem Kp.wr {l : List Addr} {H H1 H2 : Hp} {p : Addr} {o : HO} (x : Kp l H H1) (i : p ∈ l) (n : Wr H1 p o H2) : Kp l H H2 := fun b u e h => n.keep (fun z => e (z ▸ i)) (x b u e h)
theorem Kp.sub {l m : List Addr} {H H1 : Hp} (x : Kp l H H1) (i : ∀ b ∈ l, b ∈ m) : Kp m H H1 := fun b o n h => x b o (fun z => n (i b z)) h
theorem Kp.but {b : Addr} {H H1 : Hp} (x : But b H H1) : Kp [b] H H1 := fun a o n h => x a o (fun z => n (by rw [z]; exact List.mem_singleton.mpr rfl)) h
/-- what is written is fresh, or among these -/
theorem Kp.wrNew {l : List Addr} {H H1 H2 : Hp} {p : Addr} {o : HO} (x : Kp l H H1) (f : H p = none) (n : Wr H1 p o H2) : Kp l H H2 := fun b u e h => n.keep (ne_of_none h f) (x b u e h)
theorem Kp.at {l : List Addr} {H H1 : Hp} {b : Addr} {o : HO} (x : Kp l H H1) (n : b ∉ l) (h : H b = some o) : H1 b = some o := x b o n h
theorem ne_obj {H : Hp} {a b : Addr} {o u : HO} (h : H a = some o) (k : H b = some u) (ne : o ≠ u) : a ≠ b := fun z => by
  rw [z, k] at h
  exact ne (Option.some.inj h).symm

/-! ### disks and the law's files in the heap -/
def flds (f m : Addr) (c : Int) (lf : V) : List (Str × V) := [("files", .ref f), ("marks", .ref m), ("calls", .int c), ("left", lf)]
def DiskAt (K : PySem.W.Frag) (H : Hp) (a f m : Addr) (D : Ds) (c : Int) (lf : V) : Prop := f ≠ m ∧ ∃ C dx kf km, clsAt K "Disk" C ∧ H a = some (.ins C dx (flds f m c lf)) ∧ H f = some (.dK kf) ∧ H m = some (.dK km) ∧
  Tb kf D.names (fun j => .str (D.txt j)) ∧ Tb km D.names (fun j => .int (D.sy j : Nat))
theorem DiskAt.kp {K : PySem.W.Frag} {H H2 : Hp} {a f m : Addr} {D : Ds} {c : Int} {lf : V} {l : List Addr} (h : DiskAt K H a f m D c lf) (k : Kp l H H2) (na : a ∉ l) (nf : f ∉ l) (nm : m ∉ l) : DiskAt K H2 a f m D c lf := by
  obtain ⟨n, C, dx, kf, km, hc, h1, h2, h3, t⟩ := h
  exact ⟨n, C, dx, kf, km, hc, k.at na h1, k.at nf h2, k.at nm h3, t⟩
theorem DiskAt.same {K : PySem.W.Frag} {H H2 : Hp} {a f m : Addr} {D : Ds} {c : Int} {lf : V} (h : DiskAt K H a f m D c lf) (s : Same H H2) : DiskAt K H2 a f m D c lf :=
  h.kp (Kp.same (l := []) s) List.not_mem_nil List.not_mem_nil List.not_mem_nil
/-- what stands at a disk's addresses is no list -/
theorem DiskAt.nolist {K : PySem.W.Frag} {H : Hp} {a f m : Addr} {D : Ds} {c : Int} {lf : V} (h : DiskAt K H a f m D c lf) : ∀ b ∈ [a, f, m], ∀ xs, H b ≠ some (.lst xs) := by
  obtain ⟨n, C, dx, kf, km, hc, h1, h2, h3, t⟩ := h
  intro b hb xs e
  simp only [List.mem_cons, List.not_mem_nil, or_false] at hb
  rcases hb with rfl | rfl | rfl
  · rw [h1] at e; cases e
  · rw [h2] at e; cases e
  · rw [h3] at e; cases e
/-- a disk stays where a list is written -/
theorem DiskAt.list {K : PySem.W.Frag} {H H2 : Hp} {a f m b : Addr} {D : Ds} {c : Int} {lf : V} {xs : List V} (h : DiskAt K H a f m D c lf) (e : H b = some (.lst xs)) (k : Kp [b] H H2) : DiskAt K H2 a f m D c lf := by
  have q := h.nolist
  exact h.kp k (fun z => q a (by simp) xs (by rw [List.mem_singleton.mp z]; exact e)) (fun z => q f (by simp) xs (by rw [List.mem_singleton.mp z]; exact e)) (fun z => q m (by simp) xs (by rw [List.mem_singleton.mp z]; exact e))
def LawAt (H : Hp) (L : Addr) (D : Ds) : Prop := ∃ (kvs : List (Key × V)) (adr : Str → Addr), H L = some (.dK kvs) ∧ Tb kvs D.names (fun j => .ref (adr j)) ∧ ∀ j ∈ D.names, H (adr j) = some (.lst [.str (D.txt j), .int (D.sy j : Nat)])
theorem LawAt.kp {H H2 : Hp} {L : Addr} {D : Ds} {l : List Addr} (h : LawAt H L D) (k : Kp l H H2) (nL : L ∉ l) (np : ∀ b ∈ l, ∀ t i, H b ≠ some (.lst [.str t, .int i])) : LawAt H2 L D := by
  obtain ⟨kvs, adr, h1, t, h2⟩ := h
  exact ⟨kvs, adr, k.at nL h1, t, fun j hj => k.at (fun z => np _ z _ _ (h2 j hj)) (h2 j hj)⟩
theorem LawAt.same {H H2 : Hp} {L : Addr} {D : Ds} (h : LawAt H L D) (s : Same H H2) : LawAt H2 L D := h.kp (Kp.same (l := []) s) List.not_mem_nil (fun _ z => by cases z)
theorem LawAt.dk {H : Hp} {L : Addr} {D : Ds} (h : LawAt H L D) : ∃ kvs, H L = some (.dK kvs) := by
  obtain ⟨kvs, adr, h1, _⟩ := h
  exact ⟨kvs, h1⟩

/-! ### what a call does -/
def act (i : Int) (D : Ds) (n t : Str) : Ds := if i < 2 then D.put n (D.tx n ++ t) (D.mt n) else if i < 4 then D.put n (D.txt n) (D.txt n).length else if i < 6 then D.drop n else D
def tell (i : Int) (D : Ds) (n : Str) : V := if i < 6 then .non else if i < 8 then .str (D.txt n) else .int (D.sy n : Nat)
def one (i : Int) : Int := if i < 6 then 1 else 0
/-- a disk within bounds, behind k calls -/
structure Dok (k : Nat) (D : Ds) : Prop where
  len : D.names.length ≤ k
  nm : ∀ j ∈ D.names, nmS j = true
  tx : ∀ j ∈ D.names, (D.txt j).length ≤ 30 * k
  sy : ∀ j ∈ D.names, D.sy j ≤ 30 * k
  ch : ∀ j ∈ D.names, ∀ c ∈ (D.txt j).cps.toList, c < 16 ^ 8
theorem Dok.mono {k l : Nat} {D : Ds} (h : Dok k D) (e : k ≤ l) : Dok l D := ⟨Nat.le_trans h.len e, h.nm, fun j hj => Nat.le_trans (h.tx j hj) (Nat.mul_le_mul_left _ e), fun j hj => Nat.le_trans (h.sy j hj) (Nat.mul_le_mul_left _ e), h.ch⟩
theorem strApp_len (a b : Str) : (a ++ b).length = a.length + b.length := strLen_append a b
theorem Dok.put {k : Nat} {D : Ds} (h : Dok k D) {n t : Str} {m : Nat} (hn : nmS n = true) (ht : t.length ≤ 30 * (k + 1)) (hm : m ≤ 30 * (k + 1)) (hc : ∀ c ∈ t.cps.toList, c < 16 ^ 8) : Dok (k + 1) (D.put n t m) := by
  have mem : ∀ j, j ∈ (D.put n t m).names → j = n ∨ j ∈ D.names := by
    intro j hj
    unfold Ds.put at hj
    dsimp only at hj
    split at hj
    · exact .inr hj
    · exact (List.mem_append.mp hj).elim .inr fun z => .inl (List.mem_singleton.mp z)
  refine ⟨?_, fun j hj => ?_, fun j hj => ?_, fun j hj => ?_, fun j hj => ?_⟩
  · have := h.len
    unfold Ds.put
    dsimp only
    split
    · omega
    · rw [List.length_append, List.length_singleton]; omega
  · rcases mem j hj with rfl | z
    · exact hn
    · exact h.nm j z
  · show (if j = n then t else D.txt j).length ≤ _
    rcases mem j hj with rfl | z
    · rw [if_pos rfl]; exact ht
    · have := h.tx j z
      split
      · exact ht
      · omega
  · show (if j = n then m else D.sy j) ≤ _
    rcases mem j hj with rfl | z
    · rw [if_pos rfl]; exact hm
    · have := h.sy j z
      split
      · exact hm
      · omega
  · show ∀ c ∈ (if j = n then t else D.txt j).cps.toList, c < 16 ^ 8
    rcases mem j hj with rfl | z
    · rw [if_pos rfl]; exact hc
    · split
      · exact hc
      · exact h.ch j z
theorem Dok.drop {k : Nat} {D : Ds} (h : Dok k D) (n : Str) : Dok k (D.drop n) := by
  have mem : ∀ j, j ∈ (D.drop n).names → j ∈ D.names := fun j hj => (List.mem_filter.mp hj).1
  exact ⟨Nat.le_trans (List.length_filter_le _ _) h.len, fun j hj => h.nm j (mem j hj), fun j hj => h.tx j (mem j hj), fun j hj => h.sy j (mem j hj), fun j hj => h.ch j (mem j hj)⟩
theorem Dok.act {k : Nat} {D : Ds} (h : Dok k D) {i : Int} {n t : Str} (hn : nmS n = true) (ht : i < 2 → t.length ≤ 30) (hc : i < 2 → ∀ c ∈ t.cps.toList, c < 16 ^ 8) (hi : 2 ≤ i → n ∈ D.names) : Dok (k + 1) (act i D n t) := by
  unfold M6.act
  have e0 : ("" : Str).length = 0 := by decide
  split
  · rename_i h2
    have ht := ht h2
    have hc := hc h2
    refine h.put hn ?_ ?_ ?_
    · rw [strApp_len]
      unfold Ds.tx
      split
      · have := h.tx n (by assumption); omega
      · rw [e0]; omega
    · unfold Ds.mt
      split
      · have := h.sy n (by assumption); omega
      · omega
    · intro x hx
      rw [show (D.tx n ++ t).cps.toList = (D.tx n).cps.toList ++ t.cps.toList from Array.toList_append, List.mem_append] at hx
      rcases hx with hx | hx
      · unfold Ds.tx at hx
        split at hx
        · exact h.ch n (by assumption) x hx
        · exact absurd hx (by rw [show ("" : Str).cps.toList = [] by decide]; simp)
      · exact hc x hx
  split
  · have := h.tx n (hi (by omega))
    exact h.put hn (by omega) (by omega) (h.ch n (hi (by omega)))
  split
  · exact (h.drop n).mono (by omega)
  · exact h.mono (by omega)
theorem Dok.nil : Dok 0 ⟨[], fun _ => "", fun _ => 0⟩ := ⟨Nat.le_refl _, fun _ h => (by cases h), fun _ h => (by cases h), fun _ h => (by cases h), fun _ h => (by cases h)⟩

/-! ### sorted lists of texts -/
theorem rising_pw : ∀ (p : Str) (l : List Str), risingS p l = true → (p :: l).Pairwise fun a b => ¬ b.cps.toList < a.cps.toList
  | p, [], _ => List.pairwise_singleton _ _
  | p, x :: r, h => by
    have h : (!ltCps x.cps.toList p.cps.toList && risingS x r) = true := h
    rw [Bool.and_eq_true, Bool.not_eq_true'] at h
    have ih := rising_pw x r h.2
    have h1 : ¬ x.cps.toList < p.cps.toList := by
      have := h.1
      rw [ltCps_eq] at this
      exact of_decide_eq_false this
    refine List.pairwise_cons.mpr ⟨fun y hy => ?_, ih⟩
    rcases List.mem_cons.mp hy with rfl | hy
    · exact h1
    · have h2 := (List.pairwise_cons.mp ih).1 y hy
      exact fun z => h1 (List.lt_of_le_of_lt (List.not_lt.mp h2) z)
theorem sorted_pw {l : List Str} (h : sortedS l = true) : l.Pairwise fun a b => ¬ b.cps.toList < a.cps.toList := by
  cases l with
  | nil => exact .nil
  | cons x r => exact rising_pw x r h
theorem str_ext {a b : Str} (h : a.cps.toList = b.cps.toList) : a = b := by
  cases a with
  | mk x =>
    cases b with
    | mk y => exact congrArg Str.mk (Array.toList_inj.mp h)
theorem sorted_one {l m : List Str} (p : l.Perm m) (h : sortedS l = true) (k : sortedS m = true) : l = m := by
  refine p.eq_of_pairwise ?_ (sorted_pw h) (sorted_pw k)
  intro a b _ _ h1 h2
  exact str_ext (List.le_antisymm (List.not_lt.mp h1) (List.not_lt.mp h2))

/-! ### lists of names as data -/
def namesD (ns : List Str) : PyData := .list (ns.map .str)
theorem dz_names {g : Bool} {H : Hp} : ∀ ns : List Str, DzAll g H (ns.map V.str) (ns.map .str)
  | [] => .nil
  | n :: r => .cons (.str n) (dz_names r)
theorem namesV {ns : List Str} : ns.map V.str = strsV (ns.map fun n => n.cps.toList) := by
  rw [strsV, List.map_map, List.map_map]
  refine List.map_congr_left fun n _ => ?_
  show V.str n = V.str (S n.cps.toList)
  rw [← S_cps]
theorem names_pr {ns : List Str} (h : ∀ n ∈ ns, nmS n = true) : ∀ l ∈ ns.map (fun n => n.cps.toList), Pr l := fun l hl => by
  obtain ⟨n, hn, rfl⟩ := List.mem_map.mp hl
  exact fun c hc => alf_pr c ((nm_of (h n hn)).2.2 c hc)
theorem eq_names {K : PySem.W.Frag} {H : Hp} {p q : Addr} {ns : List Str} (h : ∀ n ∈ ns, nmS n = true) (hp : SqL K H p (ns.map V.str)) (hq : SqL K H q (ns.map V.str)) :
    ∃ d e, Dp K H (.ref p) d ∧ Dp K H (.ref q) e ∧ SeqAt.shaped d = true ∧ SeqAt.shaped e = true ∧ PyData.eqv d e = true := by
  rw [namesV] at hp hq
  have s := shaped_strs (names_pr h)
  exact ⟨_, _, dp_strs hp, dp_strs hq, s, s, eqv_self s⟩
end M6

/-! M7: what a fall leaves. -/
namespace M7
open PySem PySem.Spec PyProof.Rows L2 Z SX M9 M3 M10 M6

/-- synced parts lie within their texts -/
def Sm (D : Ds) : Prop := ∀ n ∈ D.names, D.sy n ≤ (D.txt n).length
def nought : Ds := ⟨[], fun _ => "", fun _ => 0⟩
theorem sm_nought : Sm nought := fun _ h => by cases h
theorem put_mem {D : Ds} {n t : Str} {m : Nat} {j : Str} : j ∈ (D.put n t m).names ↔ j = n ∨ j ∈ D.names := by
  unfold Ds.put
  dsimp only
  split
  · exact ⟨.inr, fun h => h.elim (fun e => e ▸ (by assumption)) id⟩
  · rw [List.mem_append, List.mem_singleton]
    exact ⟨fun h => h.symm, fun h => h.symm⟩
theorem Sm.put {D : Ds} (h : Sm D) {n t : Str} {m : Nat} (hm : m ≤ t.length) : Sm (D.put n t m) := by
  intro j hj
  show (if j = n then m else D.sy j) ≤ (if j = n then t else D.txt j).length
  by_cases e : j = n
  · rw [if_pos e, if_pos e]
    exact hm
  · rw [if_neg e, if_neg e]
    exact h j ((put_mem.mp hj).elim (fun z => (e z).elim) id)
theorem Sm.mt {D : Ds} (h : Sm D) (n : Str) : D.mt n ≤ (D.tx n).length := by
  unfold Ds.mt Ds.tx
  split
  · exact h n (by assumption)
  · exact Nat.zero_le _
def kpI (D : Ds) (ks : List Int) (i : Nat) (n : Str) : Int := if ks.length = 0 then (D.sy n : Nat) else (D.sy n : Nat) + ks.getD (i % ks.length) 0 % (((D.txt n).length : Int) - (D.sy n : Nat) + 1)
theorem kpI_bounds {D : Ds} {ks : List Int} {i : Nat} {n : Str} (h : D.sy n ≤ (D.txt n).length) : (D.sy n : Int) ≤ kpI D ks i n ∧ kpI D ks i n ≤ ((D.txt n).length : Int) := by
  unfold kpI
  split
  · omega
  · have a := Int.emod_nonneg (ks.getD (i % ks.length) 0) (show ((D.txt n).length : Int) - (D.sy n : Nat) + 1 ≠ 0 by omega)
    have b := Int.emod_lt_of_pos (ks.getD (i % ks.length) 0) (show 0 < ((D.txt n).length : Int) - (D.sy n : Nat) + 1 by omega)
    omega
/-- one turn of a fall -/
def stp (D : Ds) (ks : List Int) (A : Ds) (i : Nat) (n : Str) : Ds := if 0 < kpI D ks i n then A.put n (cutS (D.txt n) none (some (kpI D ks i n))) (kpI D ks i n).toNat else A
def falN (D : Ds) (ks : List Int) (ys : List Str) : Nat → Ds
  | 0 => nought
  | i + 1 => stp D ks (falN D ks ys i) i (ys.getD i "")
theorem cut_len {x : Str} {c : Int} (h0 : 0 ≤ c) (h1 : c ≤ (x.length : Int)) : (cutS x none (some c)).length = c.toNat := by
  obtain ⟨k, rfl⟩ : ∃ k : Nat, c = (k : Int) := ⟨c.toNat, by omega⟩
  rw [S_cps x, cut_n, length_S, List.length_take, len_cps]
  omega
theorem cut_mem {x : Str} {c : Int} (h0 : 0 ≤ c) : ∀ y ∈ (cutS x none (some c)).cps.toList, y ∈ x.cps.toList := by
  obtain ⟨k, rfl⟩ : ∃ k : Nat, c = (k : Int) := ⟨c.toNat, by omega⟩
  rw [S_cps x, cut_n, cps_S, cps_S]
  exact fun y hy => List.mem_of_mem_take hy
theorem cut_all {x : Str} : cutS x none (some (x.length : Int)) = x := by
  rw [S_cps x, length_S, cut_n, List.take_length]
/-- what holds of each name behind i turns -/
theorem falN_in {D : Ds} {ks : List Int} {ys : List Str} (hy : ∀ n ∈ ys, n ∈ D.names) (sm : Sm D) : ∀ i, i ≤ ys.length → ∀ n ∈ (falN D ks ys i).names, n ∈ ys ∧ ∃ c : Int, 0 < c ∧ (D.sy n : Int) ≤ c ∧ c ≤ ((D.txt n).length : Int) ∧ (falN D ks ys i).txt n = cutS (D.txt n) none (some c) ∧ (falN D ks ys i).sy n = c.toNat
  | 0, _, n, hn => by cases hn
  | i + 1, hi, n, hn => by
    have ih := falN_in (ks := ks) hy sm i (by omega)
    unfold falN at hn ⊢
    unfold stp at hn ⊢
    have hm : ys.getD i "" ∈ ys := by
      rw [List.getD_eq_getElem?_getD, List.getElem?_eq_getElem (by omega)]
      exact List.getElem_mem _
    generalize ys.getD i "" = q at hn hm ⊢
    by_cases hc : 0 < kpI D ks i q
    · rw [if_pos hc] at hn ⊢
      obtain ⟨b1, b2⟩ := kpI_bounds (ks := ks) (i := i) (sm q (hy q hm))
      rcases put_mem.mp hn with rfl | hn
      · refine ⟨hm, kpI D ks i n, hc, b1, b2, ?_, ?_⟩
        · show (if n = n then _ else _) = _
          rw [if_pos rfl]
        · show (if n = n then _ else _) = _
          rw [if_pos rfl]
      · by_cases e : n = q
        · subst e
          refine ⟨hm, kpI D ks i n, hc, b1, b2, ?_, ?_⟩
          · show (if n = n then _ else _) = _
            rw [if_pos rfl]
          · show (if n = n then _ else _) = _
            rw [if_pos rfl]
        · obtain ⟨m, c, c0, c1, c2, c3, c4⟩ := ih n hn
          refine ⟨m, c, c0, c1, c2, ?_, ?_⟩
          · show (if n = q then _ else _) = _
            rw [if_neg e]
            exact c3
          · show (if n = q then _ else _) = _
            rw [if_neg e]
            exact c4
    · rw [if_neg hc] at hn ⊢
      exact ih n hn
theorem falN_out {D : Ds} {ks : List Int} {ys : List Str} : ∀ i j, j < i → 0 < kpI D ks j (ys.getD j "") → ys.getD j "" ∈ (falN D ks ys i).names
  | i + 1, j, hj, h => by
    unfold falN stp
    rcases Nat.lt_or_ge j i with hlt | hge
    · have ih := falN_out (D := D) (ks := ks) (ys := ys) i j hlt h
      split
      · exact put_mem.mpr (.inr ih)
      · exact ih
    · obtain rfl : j = i := by omega
      rw [if_pos h]
      exact put_mem.mpr (.inl rfl)
theorem falN_nodup {D : Ds} {ks : List Int} {ys : List Str} : ∀ i, (falN D ks ys i).names.Nodup
  | 0 => List.nodup_nil
  | i + 1 => by
    have ih := falN_nodup (D := D) (ks := ks) (ys := ys) i
    unfold falN stp
    split
    · unfold Ds.put
      dsimp only
      split
      · exact ih
      · rw [List.nodup_append]
        refine ⟨ih, by simp, fun a ha b hb e => ?_⟩
        rw [List.mem_singleton.mp hb] at e
        rw [e] at ha
        contradiction
    · exact ih
theorem falN_len {D : Ds} {ks : List Int} {ys : List Str} : ∀ i, (falN D ks ys i).names.length ≤ i
  | 0 => Nat.le_refl _
  | i + 1 => by
    have ih := falN_len (D := D) (ks := ks) (ys := ys) i
    unfold falN stp
    split
    · unfold Ds.put
      dsimp only
      split
      · omega
      · rw [List.length_append, List.length_singleton]
        omega
    · omega
/-- a disk within bounds stays so -/
theorem falN_ok {k : Nat} {D : Ds} {ks : List Int} {ys : List Str} (h : Dok k D) (sm : Sm D) (pm : ys.Perm D.names) {i : Nat} (hi : i ≤ ys.length) : Dok k (falN D ks ys i) ∧ Sm (falN D ks ys i) := by
  have hin := falN_in (ks := ks) (fun n hn => pm.mem_iff.mp hn) sm i hi
  have hl := pm.length_eq
  refine ⟨⟨?_, fun n hn => ?_, fun n hn => ?_, fun n hn => ?_, fun n hn => ?_⟩, fun n hn => ?_⟩
  · have := falN_len (D := D) (ks := ks) (ys := ys) i
    have := h.len
    omega
  · exact h.nm n (pm.mem_iff.mp (hin n hn).1)
  · obtain ⟨m, c, c0, c1, c2, c3, c4⟩ := hin n hn
    have := h.tx n (pm.mem_iff.mp m)
    rw [c3, cut_len (by omega) c2]
    omega
  · obtain ⟨m, c, c0, c1, c2, c3, c4⟩ := hin n hn
    have := h.tx n (pm.mem_iff.mp m)
    rw [c4]
    omega
  · obtain ⟨m, c, c0, c1, c2, c3, c4⟩ := hin n hn
    rw [c3]
    exact fun y hy => h.ch n (pm.mem_iff.mp m) y (cut_mem (by omega) y hy)
  · obtain ⟨m, c, c0, c1, c2, c3, c4⟩ := hin n hn
    rw [c3, c4, cut_len (by omega) c2]
    exact Nat.le_refl _
/-- all of what is left is synced -/
theorem falN_full {D : Ds} {ks : List Int} {ys : List Str} (hy : ∀ n ∈ ys, n ∈ D.names) (sm : Sm D) {i : Nat} (hi : i ≤ ys.length) {n : Str} (hn : n ∈ (falN D ks ys i).names) : (falN D ks ys i).sy n = ((falN D ks ys i).txt n).length ∧ 0 < (falN D ks ys i).sy n := by
  obtain ⟨m, c, c0, c1, c2, c3, c4⟩ := falN_in (ks := ks) hy sm i hi n hn
  rw [c3, c4, cut_len (by omega) c2]
  exact ⟨rfl, by omega⟩
/-- a fall behind a fall changes nothing -/
theorem falN_again {D : Ds} {ks : List Int} {ys : List Str} (hy : ∀ n ∈ ys, n ∈ D.names) (nd : ys.Nodup) (full : ∀ n ∈ D.names, D.sy n = (D.txt n).length ∧ 0 < D.sy n) :
    ∀ i, i ≤ ys.length → (falN D ks ys i).names = ys.take i ∧ ∀ n ∈ ys.take i, (falN D ks ys i).txt n = D.txt n ∧ (falN D ks ys i).sy n = D.sy n
  | 0, _ => ⟨rfl, fun n hn => by cases hn⟩
  | i + 1, hi => by
    obtain ⟨ih1, ih2⟩ := falN_again (ks := ks) hy nd full i (by omega)
    have lt : i < ys.length := by omega
    have eq : ys.getD i "" = ys[i] := by
      rw [List.getD_eq_getElem?_getD, List.getElem?_eq_getElem lt]
      rfl
    have mem : ys[i] ∈ ys := List.getElem_mem _
    obtain ⟨f1, f2⟩ := full _ (hy _ mem)
    have kp : kpI D ks i ys[i] = (D.sy ys[i] : Int) := by
      obtain ⟨b1, b2⟩ := kpI_bounds (D := D) (ks := ks) (i := i) (n := ys[i]) (by omega)
      omega
    have no : ys[i] ∉ ys.take i := by
      intro z
      obtain ⟨j, hj, e⟩ := List.getElem_of_mem z
      rw [List.length_take] at hj
      rw [List.getElem_take] at e
      exact (List.pairwise_iff_getElem.mp nd) j i (by omega) lt (by omega) e
    unfold falN stp
    rw [eq, if_pos (by rw [kp]; omega), kp]
    have tk : ys.take (i + 1) = ys.take i ++ [ys[i]] := by rw [List.take_add_one, List.getElem?_eq_getElem lt]; rfl
    refine ⟨?_, fun n hn => ?_⟩
    · show (if ys[i] ∈ (falN D ks ys i).names then _ else _) = _
      rw [ih1, if_neg no, tk]
    · rw [tk, List.mem_append, List.mem_singleton] at hn
      by_cases e : n = ys[i]
      · subst e
        constructor
        · show (if ys[i] = ys[i] then _ else _) = _
          rw [if_pos rfl, f1, cut_all]
        · show (if ys[i] = ys[i] then _ else _) = _
          rw [if_pos rfl]
          omega
      · have hn := hn.elim id fun z => (e z).elim
        obtain ⟨a, b⟩ := ih2 n hn
        constructor
        · show (if n = ys[i] then _ else _) = _
          rw [if_neg e]
          exact a
        · show (if n = ys[i] then _ else _) = _
          rw [if_neg e]
          exact b
/-- keeps as data -/
def keepsD : PyData → Bool
  | .list ds => ds.all cntD
  | .tuple ds => ds.all cntD
  | _ => false
theorem sw_intB {i : Int} (h : i.natAbs < 2 ^ 60) : Sw 0 3000 (.int i) := by
  have hl : i.natAbs.log2 < 1920 := by
    rcases Nat.eq_zero_or_pos i.natAbs with e | e
    · rw [e]; decide
    · have q : 2 ^ i.natAbs.log2 ≤ i.natAbs := Nat.log2_self_le (by omega)
      have : i.natAbs.log2 < 60 := (Nat.pow_lt_pow_iff_right (by decide : 1 < 2)).mp (Nat.lt_of_le_of_lt q h)
      omega
  have e : (PyData.int i).shown = Str.ofString (toString i) := by simp only [PyData.shown]
  have := int_text_len_1921 hl
  exact ⟨by simpa only [PyData.showable, decide_eq_true_eq] using hl, Nat.le_refl _, by rw [e]; omega⟩
theorem dz_get {g : Bool} {H : Hp} : ∀ {xs : List V} {ds : List PyData} {i : Nat} {x : V}, DzAll g H xs ds → xs[i]? = some x → ∃ d, ds[i]? = some d ∧ Dz g H x d
  | _, _, i, _, .nil, e => by simp at e
  | _, _, 0, _, .cons h _, e => by
    simp at e
    subst e
    exact ⟨_, rfl, h⟩
  | _, _, i + 1, _, .cons _ t, e => by
    obtain ⟨d, a, b⟩ := dz_get (i := i) t (by simpa using e)
    exact ⟨d, by simpa using a, b⟩
/-- names that a fall leaves, in the order of the walk -/
theorem falN_sub {D : Ds} {ks : List Int} {ys : List Str} : ∀ i, i ≤ ys.length → (falN D ks ys i).names.Sublist (ys.take i)
  | 0, _ => List.nil_sublist _
  | i + 1, hi => by
    have ih := falN_sub (D := D) (ks := ks) (ys := ys) i (by omega)
    have lt : i < ys.length := by omega
    have eq : ys.getD i "" = ys[i] := by
      rw [List.getD_eq_getElem?_getD, List.getElem?_eq_getElem lt]
      rfl
    have tk : ys.take (i + 1) = ys.take i ++ [ys[i]] := by rw [List.take_add_one, List.getElem?_eq_getElem lt]; rfl
    unfold falN stp
    rw [eq, tk]
    split
    · unfold Ds.put
      dsimp only
      split
      · exact ih.trans (List.sublist_append_left _ _)
      · exact ih.append (List.Sublist.refl _)
    · exact ih.trans (List.sublist_append_left _ _)
theorem names_one {l m : List Str} (p : l.Perm m) (h : l.Pairwise fun a b => ¬ b.cps.toList < a.cps.toList) (k : m.Pairwise fun a b => ¬ b.cps.toList < a.cps.toList) : l = m := by
  refine p.eq_of_pairwise ?_ h k
  intro a b _ _ h1 h2
  exact str_ext (List.le_antisymm (List.not_lt.mp h1) (List.not_lt.mp h2))
/-- an item of a table -/
theorem tb_item {kvs : List (Key × V)} : ∀ {ns : List Str} {g : Str → V}, Tb kvs ns g → ns.Nodup → ∀ p ∈ kvs, ∃ j ∈ ns, p.1 = Sum.inr j ∧ p.2 = g j := by
  have gen : ∀ {p : Key × V} {kvs : List (Key × V)}, (kvs.map (·.1)).Nodup → p ∈ kvs → valV kvs p.1 = some p.2 := by
    intro p kvs
    induction kvs with
    | nil => intro _ h; cases h
    | cons a r ih =>
      intro nd h
      rw [List.map_cons, List.nodup_cons] at nd
      rcases List.mem_cons.mp h with rfl | h
      · exact valV_pos rfl
      · rw [valV_neg (fun z => nd.1 (z ▸ List.mem_map.mpr ⟨p, h, rfl⟩))]
        exact ih nd.2 h
  intro ns g h nd p hp
  have hm : p.1 ∈ ns.map (Sum.inr : Str → Key) := by
    rw [← h.1]
    exact List.mem_map.mpr ⟨p, hp, rfl⟩
  obtain ⟨j, hj, e⟩ := List.mem_map.mp hm
  refine ⟨j, hj, e.symm, ?_⟩
  have nd2 : (kvs.map (·.1)).Nodup := by
    rw [h.1]
    exact List.Pairwise.map _ (fun a b n z => n (by cases z; rfl)) nd
  have := gen nd2 hp
  rw [← e, h.at hj] at this
  exact (Option.some.inj this).symm
theorem Tb.extIn {kvs : List (Key × V)} {ns : List Str} {g g' : Str → V} (h : Tb kvs ns g) (e : ∀ j ∈ ns, g j = g' j) : Tb kvs ns g' := ⟨h.1, fun j => by
  rw [h.2]
  by_cases i : j ∈ ns
  · rw [if_pos i, if_pos i, e j i]
  · rw [if_neg i, if_neg i]⟩
theorem law_ext {H : Hp} {L : Addr} {D E : Ds} (h : LawAt H L D) (n : D.names = E.names) (e : ∀ j ∈ D.names, E.txt j = D.txt j ∧ E.sy j = D.sy j) : LawAt H L E := by
  obtain ⟨kvs, adr, h1, t, h2⟩ := h
  refine ⟨kvs, adr, h1, n ▸ t, fun j hj => ?_⟩
  rw [← n] at hj
  rw [(e j hj).1, (e j hj).2]
  exact h2 j hj
/-- the law's files of two alike, compared -/
theorem eq_files {K : PySem.W.Frag} {H : Hp} {q r : Addr} {D E : Ds} (h : LawAt H q D) (k : LawAt H r E) (nd : D.names.Nodup) (n : D.names = E.names) (e : ∀ j ∈ D.names, D.txt j = E.txt j ∧ D.sy j = E.sy j) :
    ∃ ks ls, H q = some (.dK ks) ∧ H r = some (.dK ls) ∧ ks.length = ls.length ∧ ∀ p ∈ ks, ∃ u, valV ls p.1 = some u ∧ EqV K H 5 p.2 u := by
  obtain ⟨ks, ad, h1, t1, h2⟩ := h
  obtain ⟨ls, al, k1, t2, k2⟩ := k
  refine ⟨ks, ls, h1, k1, by rw [t1.len, t2.len, n], fun p hp => ?_⟩
  obtain ⟨j, hj, e1, e2⟩ := tb_item t1 nd p hp
  have hj2 : j ∈ E.names := n ▸ hj
  refine ⟨_, by rw [e1]; exact t2.at hj2, ?_⟩
  rw [e2]
  refine .inr (.inr (.inl ⟨_, _, _, _, rfl, rfl, SqL.of (h2 j hj), SqL.of (k2 j hj2), ?_⟩))
  rw [(e j hj).1, (e j hj).2]
  exact .cons (.inl ⟨rfl, rfl⟩) (.cons (.inl ⟨rfl, rfl⟩) .nil)
end M7

namespace L40_
open PySem PySem.Spec PyProof.Rows L2 Z
open SX M9
open SX M9 M3 M10 M6
open M7

def top (i : Nat) : Stmt := PySem.Challenge.pw_inorderonce_k40_leases_given_and_dropped.main.body.getD i (.Pass ⟨0, 0, 0, 0⟩)
-- VARS: e_InvalidName e_InvalidNumber e_InvalidCount e_Held e_QueueError e_Leases
structure Txt (K : PySem.W.Frag) (mg : Str → Option Value) (e_InvalidName e_InvalidNumber e_InvalidCount e_Held e_QueueError e_Leases : Addr) : Prop where
  g_InvalidName : mg "InvalidName" = some (.ref e_InvalidName)
  a_InvalidName : clsAt K "InvalidName" e_InvalidName
  g_InvalidNumber : mg "InvalidNumber" = some (.ref e_InvalidNumber)
  a_InvalidNumber : clsAt K "InvalidNumber" e_InvalidNumber
  g_InvalidCount : mg "InvalidCount" = some (.ref e_InvalidCount)
  a_InvalidCount : clsAt K "InvalidCount" e_InvalidCount
  g_Held : mg "Held" = some (.ref e_Held)
  a_Held : clsAt K "Held" e_Held
  g_QueueError : mg "QueueError" = some (.ref e_QueueError)
  a_QueueError : clsAt K "QueueError" e_QueueError
  g_Leases : mg "Leases" = some (.ref e_Leases)
  a_Leases : clsAt K "Leases" e_Leases
  s_InvalidName : Es K e_InvalidName
  n_InvalidName : PySem.W.findIn K (.ref e_InvalidName) "given" = some none
  x_InvalidName_Held : PySem.W.subIn K (.ref e_InvalidName) (.ref e_Held) = some false
  s_InvalidNumber : Es K e_InvalidNumber
  n_InvalidNumber : PySem.W.findIn K (.ref e_InvalidNumber) "given" = some none
  x_InvalidNumber_Held : PySem.W.subIn K (.ref e_InvalidNumber) (.ref e_Held) = some false
  s_InvalidCount : Es K e_InvalidCount
  n_InvalidCount : PySem.W.findIn K (.ref e_InvalidCount) "given" = some none
  x_InvalidCount_Held : PySem.W.subIn K (.ref e_InvalidCount) (.ref e_Held) = some false
  s_Held : Es K e_Held
  n_Held : PySem.W.findIn K (.ref e_Held) "group" = some none
  m_Held : PySem.W.findIn K (.ref e_Held) "number" = some none
  x_Held_Held : PySem.W.subIn K (.ref e_Held) (.ref e_Held) = some true
  q_QueueError : BaseC K e_QueueError
  k_Leases : Cls K e_Leases
  f_Leases__rows : NoAttr K e_Leases "_rows"
  n_int : mg "int" = none
  n_abs : mg "abs" = none
  n_len : mg "len" = none
  n_sum : mg "sum" = none
  n_list : mg "list" = none
  n_isinstance : mg "isinstance" = none
  n_str : mg "str" = none
  n_bool : mg "bool" = none
  n_tuple : mg "tuple" = none
  n_sorted : mg "sorted" = none
  n_range : mg "range" = none
  n_max : mg "max" = none
  n_min : mg "min" = none
  n_repr : mg "repr" = none
  c_MOST_NAME : ∃ u, mg "MOST_NAME" = some u ∧ RelV (.int (8)) u
  c_MOST_NUMBER : ∃ u, mg "MOST_NUMBER" = some u ∧ RelV (.int (999999999999)) u
theorem bt_int : bootBuiltins "int" = some (.type "int") := by decide +kernel
theorem bt_abs : bootBuiltins "abs" = some (.builtin "abs") := by decide +kernel
theorem bt_len : bootBuiltins "len" = some (.builtin "len") := by decide +kernel
theorem bt_sum : bootBuiltins "sum" = some (.builtin "sum") := by decide +kernel
theorem bt_list : bootBuiltins "list" = some (.type "list") := by decide +kernel
theorem bt_isinstance : bootBuiltins "isinstance" = some (.builtin "isinstance") := by decide +kernel
theorem bt_str : bootBuiltins "str" = some (.type "str") := by decide +kernel
theorem bt_bool : bootBuiltins "bool" = some (.type "bool") := by decide +kernel
theorem bt_tuple : bootBuiltins "tuple" = some (.type "tuple") := by decide +kernel
theorem bt_sorted : bootBuiltins "sorted" = some (.builtin "sorted") := by decide +kernel
theorem bt_max : bootBuiltins "max" = some (.builtin "max") := by decide +kernel
theorem bt_min : bootBuiltins "min" = some (.builtin "min") := by decide +kernel
theorem bt_repr : bootBuiltins "repr" = some (.builtin "repr") := by decide +kernel

abbrev si_InvalidName : Stmt := (clsB (top 3)).getD 0 (.Pass ⟨0, 0, 0, 0⟩)
theorem sci_InvalidName : FnScope ["self", "given"] ["self", "given"] (defScope si_InvalidName) := ⟨rfl, rfl, rfl, by decide +kernel, rfl, by decide +kernel, by decide +kernel⟩
theorem oki_InvalidName {P : Program} {w : World} {K : PySem.W.Frag} {mg : Str → Option Value} {base : Heap} {e_InvalidName e_InvalidNumber e_InvalidCount e_Held e_QueueError e_Leases fI : Addr} {fd : FuncData} (T : Txt K mg e_InvalidName e_InvalidNumber e_InvalidCount e_Held e_QueueError e_Leases) (F : Fun K "__init__" "InvalidName.__init__" si_InvalidName fI fd) (EC : ErrC K e_InvalidName e_QueueError) : FnOk P w K mg base CX0 1 fI fd ["self", "given"] (spIni e_InvalidName "given") := by
  obtain ⟨mc, q1, q2, q3⟩ := T.q_QueueError.ex
  refine ini2 F sci_InvalidName fun cdv A outer s H u v Q E hr h => ⟨_, (pss_cons (ps_expr (pe_binit T.g_QueueError q1 q2 q3 (pa_cons (pz 0) (pa_cons pe_str pa_nil)))) (pss_one (ps_err (pz 0) (pz 1)))), ?_⟩
  obtain ⟨a, rfl, ha, q⟩ := h
  refine ⟨a, _, _, _, rfl, by show 1 ≤ 1000; decide, EC, ha, ?_⟩
  exact ⟨a, _, _, rfl, EC, T.n_InvalidName, ha, fun dx nd ne => q dx nd ne⟩

abbrev si_InvalidNumber : Stmt := (clsB (top 4)).getD 0 (.Pass ⟨0, 0, 0, 0⟩)
theorem sci_InvalidNumber : FnScope ["self", "given"] ["self", "given"] (defScope si_InvalidNumber) := ⟨rfl, rfl, rfl, by decide +kernel, rfl, by decide +kernel, by decide +kernel⟩
theorem oki_InvalidNumber {P : Program} {w : World} {K : PySem.W.Frag} {mg : Str → Option Value} {base : Heap} {e_InvalidName e_InvalidNumber e_InvalidCount e_Held e_QueueError e_Leases fI : Addr} {fd : FuncData} (T : Txt K mg e_InvalidName e_InvalidNumber e_InvalidCount e_Held e_QueueError e_Leases) (F : Fun K "__init__" "InvalidNumber.__init__" si_InvalidNumber fI fd) (EC : ErrC K e_InvalidNumber e_QueueError) : FnOk P w K mg base CX0 1 fI fd ["self", "given"] (spIni e_InvalidNumber "given") := by
  obtain ⟨mc, q1, q2, q3⟩ := T.q_QueueError.ex
  refine ini2 F sci_InvalidNumber fun cdv A outer s H u v Q E hr h => ⟨_, (pss_cons (ps_expr (pe_binit T.g_QueueError q1 q2 q3 (pa_cons (pz 0) (pa_cons pe_str pa_nil)))) (pss_one (ps_err (pz 0) (pz 1)))), ?_⟩
  obtain ⟨a, rfl, ha, q⟩ := h
  refine ⟨a, _, _, _, rfl, by show 1 ≤ 1000; decide, EC, ha, ?_⟩
  exact ⟨a, _, _, rfl, EC, T.n_InvalidNumber, ha, fun dx nd ne => q dx nd ne⟩

abbrev si_InvalidCount : Stmt := (clsB (top 2)).getD 0 (.Pass ⟨0, 0, 0, 0⟩)
theorem sci_InvalidCount : FnScope ["self", "given"] ["self", "given"] (defScope si_InvalidCount) := ⟨rfl, rfl, rfl, by decide +kernel, rfl, by decide +kernel, by decide +kernel⟩
theorem oki_InvalidCount {P : Program} {w : World} {K : PySem.W.Frag} {mg : Str → Option Value} {base : Heap} {e_InvalidName e_InvalidNumber e_InvalidCount e_Held e_QueueError e_Leases fI : Addr} {fd : FuncData} (T : Txt K mg e_InvalidName e_InvalidNumber e_InvalidCount e_Held e_QueueError e_Leases) (F : Fun K "__init__" "InvalidCount.__init__" si_InvalidCount fI fd) (EC : ErrC K e_InvalidCount e_QueueError) : FnOk P w K mg base CX0 1 fI fd ["self", "given"] (spIni e_InvalidCount "given") := by
  obtain ⟨mc, q1, q2, q3⟩ := T.q_QueueError.ex
  refine ini2 F sci_InvalidCount fun cdv A outer s H u v Q E hr h => ⟨_, (pss_cons (ps_expr (pe_binit T.g_QueueError q1 q2 q3 (pa_cons (pz 0) (pa_cons pe_str pa_nil)))) (pss_one (ps_err (pz 0) (pz 1)))), ?_⟩
  obtain ⟨a, rfl, ha, q⟩ := h
  refine ⟨a, _, _, _, rfl, by show 1 ≤ 1000; decide, EC, ha, ?_⟩
  exact ⟨a, _, _, rfl, EC, T.n_InvalidCount, ha, fun dx nd ne => q dx nd ne⟩

abbrev si_Held : Stmt := (clsB (top 5)).getD 0 (.Pass ⟨0, 0, 0, 0⟩)
theorem sci_Held : FnScope ["self", "group", "number"] ["self", "group", "number"] (defScope si_Held) := ⟨rfl, rfl, rfl, by decide +kernel, rfl, by decide +kernel, by decide +kernel⟩
theorem oki_Held {P : Program} {w : World} {K : PySem.W.Frag} {mg : Str → Option Value} {base : Heap} {e_InvalidName e_InvalidNumber e_InvalidCount e_Held e_QueueError e_Leases fI : Addr} {fd : FuncData} (T : Txt K mg e_InvalidName e_InvalidNumber e_InvalidCount e_Held e_QueueError e_Leases) (F : Fun K "__init__" "Held.__init__" si_Held fI fd) (EC : ErrC K e_Held e_QueueError) : FnOk P w K mg base CX0 1 fI fd ["self", "group", "number"] (spIni2 e_Held "group" "number") := by
  obtain ⟨mc, q1, q2, q3⟩ := T.q_QueueError.ex
  refine ini3 F sci_Held fun cdv A outer s H u v z Q E hr h => ⟨_, (pss_cons (ps_expr (pe_binit T.g_QueueError q1 q2 q3 (pa_cons (pz 0) (pa_cons pe_str pa_nil)))) (pss_cons (ps_err (pz 0) (pz 1)) (pss_one (ps_errM (pz 0) (pz 2))))), ?_⟩
  obtain ⟨a, rfl, ha, q⟩ := h
  refine ⟨a, _, _, _, rfl, by show 1 ≤ 1000; decide, EC, ha, ?_⟩
  refine ⟨a, _, _, rfl, EC, T.n_Held, ha, fun dx nd ne => ?_⟩
  exact ⟨a, _, _, dx, _, rfl, EC, T.m_Held, upd_same, (by rw [upd_ne ne, upd_same]), (by show 1 ≤ 900; decide), q dx nd ne⟩


local macro_rules | `(tactic| walk_at "hp") => `(tactic| first | assumption | (refine Nw.keep (by assumption) ?_; walk_at "hp") | (refine But.at (by assumption) (by assumption) ?_; walk_at "hp") | (refine Wr.keep (by assumption) (by assumption) ?_; walk_at "hp"))
/-! ### promises -/
/-- a box of digits and draws, with at most n draws so far -/
def BoxAt (n : Nat) (H : Hp) (b : Addr) : Prop := ∃ (g : Int) (f : Bool) (s c : Int), H b = some (.lst [.int g, .bl f, .int s, .int c]) ∧ 0 ≤ g ∧ 0 ≤ s ∧ s < 2147483648 ∧ 0 ≤ c ∧ c ≤ n
theorem BoxAt.mono {n m : Nat} {H : Hp} {b : Addr} (h : BoxAt n H b) (e : n ≤ m) : BoxAt m H b := by
  obtain ⟨g, f, s, c, h1, h2, h3, h4, h5, h6⟩ := h
  exact ⟨g, f, s, c, h1, h2, h3, h4, h5, by omega⟩
theorem BoxAt.same {n : Nat} {H H2 : Hp} {b : Addr} (h : BoxAt n H b) (e : Same H H2) : BoxAt n H2 b := by
  obtain ⟨g, f, s, c, h1, h2⟩ := h
  exact ⟨g, f, s, c, e _ _ h1, h2⟩
theorem BoxAt.some {n : Nat} {H : Hp} {b : Addr} (h : BoxAt n H b) : ∃ o, H b = Option.some o := by
  obtain ⟨g, f, s, c, h1, h2⟩ := h
  exact ⟨_, h1⟩
theorem BoxAt.ne {n : Nat} {H : Hp} {b p : Addr} (h : BoxAt n H b) (e : H p = none) : b ≠ p := by
  obtain ⟨o, h⟩ := h.some
  exact ne_of_none h e
theorem BoxAt.wr {n : Nat} {H H2 : Hp} {b l : Addr} {o : HO} (h : BoxAt n H b) (e : b ≠ l) (w : Wr H l o H2) : BoxAt n H2 b := by
  obtain ⟨g, f, s, c, h1, h2⟩ := h
  exact ⟨g, f, s, c, w.keep e h1, h2⟩
theorem BoxAt.but {n : Nat} {H H2 : Hp} {b l : Addr} (h : BoxAt n H b) (e : b ≠ l) (w : But l H H2) : BoxAt n H2 b := by
  obtain ⟨g, f, s, c, h1, h2⟩ := h
  exact ⟨g, f, s, c, w.at e h1, h2⟩
def TX (n : Nat) (l : List Nat) : Prop := Pr l ∧ l.length ≤ n
def sp__law_box (K : PySem.W.Frag) : Sp := sp1 fun great H Q _ => ∃ g, great = .int g ∧ ∀ b H2, H b = none → Same H H2 → BoxAt 0 H2 b → Q (.ref b) H2
def sp__law_cell (K : PySem.W.Frag) : Sp := sp2 fun script k H Q _ => ∃ (a : Addr) (i : Int) (ns : List Int), script = .ref a ∧ k = .int i ∧ 0 ≤ i ∧ i < 1000 ∧ SqL K H a (ns.map V.int) ∧ ns.length ≤ 63 ∧ ∀ z H2, Same H H2 → Q (.int z) H2
def sp__law_take (K : PySem.W.Frag) : Sp := sp2 fun box many H Q _ => ∃ (b : Addr) (m : Int) (n : Nat), box = .ref b ∧ many = .int m ∧ 0 < m ∧ m < 1000000 ∧ BoxAt n H b ∧ n < 1000000 ∧ ∀ r H2, But b H H2 → BoxAt (n + 1) H2 b → 0 ≤ r → r < m → Q (.int r) H2
theorem lit_nil : ("" : Str) = S [] := by decide +kernel
theorem joinSz (ls : List (List Nat)) (h : ls.flatten.length ≤ 10000000) : ((ls.map S).map (·.length)).sum + (ls.map S).length * ("" : Str).length ≤ 16777216 := by
  rw [lit_nil, length_S, lens, ← List.length_flatten]
  show _ + _ * 0 ≤ _
  omega
theorem nself (x : V) : (true ^^ decide (x = x)) = false := by rw [decide_eq_true rfl]; rfl
theorem eself (x : V) : (false ^^ decide (x = x)) = true := by rw [decide_eq_true rfl]; rfl
theorem menuS (ts : List Str) {n : Nat} (ok : (ts.all fun t => (t.cps.toList.all fun c => decide (32 ≤ c) && decide (c ≤ 126)) && decide (t.cps.toList.length ≤ n)) = true) {r : Int} (h0 : 0 ≤ r) (h : r < (ts.length : Int)) :
    ∃ l, atI (ts.map V.str) r = some (.str (S l)) ∧ TX n l := by
  obtain ⟨v, h1, h2, _⟩ := atI_some (xs := ts.map V.str) h0 (by rw [List.length_map]; exact h)
  obtain ⟨t, ht, rfl⟩ := List.mem_map.mp h2
  have q := (List.all_eq_true.mp ok) t ht
  rw [Bool.and_eq_true] at q
  refine ⟨t.cps.toList, ?_, pr_of q.1, of_decide_eq_true q.2⟩
  rw [S_tl]
  exact h1
/-- the signs of the alphabets -/
theorem near_item {t : Str} (h : (t.cps.toList.all fun c => decide (32 ≤ c) && decide (c ≤ 126)) = true) {r : Int} (h0 : 0 ≤ r) (h1 : r < (t.length : Int)) : ∃ c : Nat, atI t.cps.toList r = some c ∧ 32 ≤ c ∧ c ≤ 126 := by
  obtain ⟨c, e1, e2, _⟩ := atI_some (xs := t.cps.toList) h0 (by simpa [Str.length] using h1)
  have := (List.all_eq_true.mp h) c e2
  exact ⟨c, e1, by simpa using this⟩
theorem log_small {n : Nat} (h : n < 10000000) : ((n : Nat) : Int).natAbs.log2 < 1920 := by
  rw [Int.natAbs_natCast]
  rcases Nat.eq_zero_or_pos n with e | e
  · subst e; decide
  · have q : 2 ^ n.log2 ≤ n := Nat.log2_self_le (by omega)
    have h2 : n < 2 ^ 24 := by omega
    have : n.log2 < 24 := (Nat.pow_lt_pow_iff_right (by decide : 1 < 2)).mp (Nat.lt_of_le_of_lt q h2)
    omega
def Vd (H : Hp) (v : V) (d : PyData) : Prop := ∃ g, Dz g H v d
theorem Vd.kind {K : PySem.W.Frag} {H : Hp} {v : V} {d : PyData} (h : Vd H v d) : KindV K H v (kindD d) := by
  obtain ⟨g, h⟩ := h
  exact Dz.kind h
theorem Vd.int {H : Hp} {v : V} {i : Int} (h : Vd H v (.int i)) : v = .int i := by
  obtain ⟨g, h⟩ := h
  cases h
  rfl
theorem Vd.str {H : Hp} {v : V} {x : Str} (h : Vd H v (.str x)) : v = .str x := by
  obtain ⟨g, h⟩ := h
  cases h
  rfl
theorem Vd.same {H H2 : Hp} {v : V} {d : PyData} (h : Vd H v d) (s : Same H H2) : Vd H2 v d := by
  obtain ⟨g, h⟩ := h
  exact ⟨g, Dz.same s h⟩
theorem within_ch {k i j : Int} {P : V → Prop} (q : P (.bl (within (.int k) i j))) : if decide (i ≤ k) = true then P (.bl (decide (k ≤ j))) else P (.bl false) := by
  have q : P (.bl (decide (i ≤ k) && decide (k ≤ j))) := q
  cases e : decide (i ≤ k) with
  | false =>
    rw [e] at q
    exact iteN rfl q
  | true =>
    rw [e] at q
    exact iteY rfl q
theorem token_len {ds : List PyData} (h : ds.length ≠ 2) : tokenD (.tuple ds) = false := by
  match ds, h with
  | [], _ => rfl
  | [_], _ => rfl
  | [_, _], h => exact absurd rfl h
  | _ :: _ :: _ :: _, _ => rfl
theorem int_ne {n : Nat} {k : Nat} {b : Bool} (h : n ≠ k) : (b ^^ decide (V.int (n : Nat) = V.int (k : Nat))) = b := by
  rw [decide_eq_false fun e => h (by have := V.int.inj e; omega)]
  cases b <;> rfl
theorem two_of {α : Type} {xs : List α} (h : xs.length = 2) : ∃ a b, xs = [a, b] := by
  match xs, h with
  | [a, b], _ => exact ⟨a, b, rfl⟩
def sp_is_integer (K : PySem.W.Frag) : Sp := sp1 fun v H Q _ => ∃ d, Vd H v d ∧ Q (.bl (intD d)) H
def sp_is_within (K : PySem.W.Frag) : Sp := sp3 fun v a b H Q _ => ∃ d i j, Vd H v d ∧ a = .int i ∧ b = .int j ∧ Q (.bl (within d i j)) H
def sp_is_signs (K : PySem.W.Frag) : Sp := sp1 fun v H Q _ => ∃ d, Vd H v d ∧ asc1 d = true ∧ Q (.bl (signsD d)) H
def sp_is_name (K : PySem.W.Frag) : Sp := sp1 fun v H Q _ => ∃ d, Vd H v d ∧ asc1 d = true ∧ Q (.bl (nameD d)) H
def sp_is_number (K : PySem.W.Frag) : Sp := sp1 fun v H Q _ => ∃ d, Vd H v d ∧ Q (.bl (within d 1 999999999999)) H
def sp_is_token (K : PySem.W.Frag) : Sp := sp1 fun v H Q _ => ∃ d, Vd H v d ∧ Q (.bl (tokenD d)) H
def sp_is_count (K : PySem.W.Frag) : Sp := sp1 fun v H Q _ => ∃ d, Vd H v d ∧ Q (.bl (cntD d)) H
theorem Vd.any {K : PySem.W.Frag} {H : Hp} {v : V} {d : PyData} (h : Vd H v d) : AnyV K H v := by
  obtain ⟨g, h⟩ := h
  cases h with
  | non => exact trivial
  | bl => exact trivial
  | int => exact trivial
  | str => exact trivial
  | lst a b c => exact .inl ⟨_, SqL.of a⟩
  | tup a b => exact .inr (.inl ⟨_, SqT.of a⟩)
  | dic a b => exact .inr (.inr ⟨_, a⟩)
theorem wr_free {H H2 : Hp} {d p : Addr} {o : HO} (w : Wr H d o H2) (n : p ≠ d) (f : H2 p = none) : H p = none := by
  cases e : H p with
  | none => rfl
  | some u => rw [w.keep n e] at f; cases f
theorem find_hit {p : Lr → Bool} : ∀ {R : List Lr} {i : Nat} {r : Lr}, R[i]? = some r → (∀ x ∈ R.take i, p x = false) → p r = true → R.find? p = some r
  | [], i, r, h, _, _ => by cases i <;> cases h
  | x :: R, 0, r, h, _, hp => by
    obtain rfl := Option.some.inj h
    rw [List.find?_cons_of_pos hp]
  | x :: R, i + 1, r, h, n, hp => by
    have e := n x (by rw [List.take_succ_cons]; exact List.mem_cons_self)
    rw [List.find?_cons_of_neg (by rw [e]; decide)]
    exact find_hit (R := R) (i := i) h (fun y hy => n y (by rw [List.take_succ_cons]; exact List.mem_cons_of_mem _ hy)) hp
/-- a lease: who holds which message for which group by which token till when -/
structure Lr where
  g : Str
  n : Int
  m : Str
  t1 : Int
  t2 : Int
  e : Int
def Lr.key (r : Lr) : List Key := [.inr r.g, .inl r.n]
def Lr.kd (r : Lr) : PyData := .tuple [.str r.g, .int r.n]
def Lr.tokD (r : Lr) : PyData := .tuple [.int r.t1, .int r.t2]
def Lr.d (r : Lr) : PyData := .tuple [.str r.g, .int r.n, .str r.m, r.tokD, .int r.e]
/-- all tuples stay -/
def Tk (H H2 : Hp) : Prop := ∀ b ys, H b = some (.tup ys) → H2 b = some (.tup ys)
theorem Tk.same {H H2 : Hp} (s : Same H H2) : Tk H H2 := fun b ys h => s b _ h
theorem Tk.kp {H H2 : Hp} {l : List Addr} (s : Kp l H H2) (n : ∀ x ∈ l, ∀ ys, H x ≠ some (.tup ys)) : Tk H H2 := fun b ys h => s b _ (fun z => n b z ys h) h
theorem Tk.but {H H2 : Hp} {a : Addr} (s : But a H H2) (n : ∀ ys, H a ≠ some (.tup ys)) : Tk H H2 := fun b ys h => s.at (fun z => n ys (z ▸ h)) h
theorem Tk.trans {H H1 H2 : Hp} (x : Tk H H1) (y : Tk H1 H2) : Tk H H2 := fun b ys h => y b ys (x b ys h)
theorem Tk.wr {H H2 : Hp} {a : Addr} {o : HO} (s : Wr H a o H2) (n : ∀ ys, H a ≠ some (.tup ys)) : Tk H H2 := fun b ys h => s.keep (fun z => n ys (z ▸ h)) h
/-- what stands in the leases' own dict -/
inductive Rw (H : Hp) : List Lr → List (List Key × V) → Prop
  | nil : Rw H [] []
  | cons {r : Lr} {R : List Lr} {kvs : List (List Key × V)} {p t : Addr} : H p = some (.tup [.str r.m, .ref t, .int r.e]) → H t = some (.tup [.int r.t1, .int r.t2]) → Rw H R kvs → Rw H (r :: R) ((r.key, .ref p) :: kvs)
theorem Rw.tk {H H2 : Hp} {R : List Lr} {kvs : List (List Key × V)} (h : Rw H R kvs) (s : Tk H H2) : Rw H2 R kvs := by
  induction h with
  | nil => exact .nil
  | cons a b _ ih => exact .cons (s _ _ a) (s _ _ b) ih
theorem Rw.len {H : Hp} {R : List Lr} {kvs : List (List Key × V)} (h : Rw H R kvs) : kvs.length = R.length := by
  induction h with
  | nil => rfl
  | cons a b _ ih => rw [List.length_cons, List.length_cons, ih]
theorem Rw.at {H : Hp} {R : List Lr} {kvs : List (List Key × V)} (h : Rw H R kvs) : ∀ {i : Nat} {k : List Key} {v : V}, kvs[i]? = some (k, v) → ∃ r p t, R[i]? = some r ∧ k = r.key ∧ v = .ref p ∧ H p = some (.tup [.str r.m, .ref t, .int r.e]) ∧ H t = some (.tup [.int r.t1, .int r.t2]) := by
  induction h with
  | nil => intro i k v e; cases i <;> cases e
  | cons a b _ ih =>
    intro i k v e
    cases i with
    | zero =>
      have e := Option.some.inj e
      cases e
      exact ⟨_, _, _, rfl, rfl, rfl, a, b⟩
    | succ i => exact ih e
theorem Rw.snoc {H : Hp} {R : List Lr} {kvs : List (List Key × V)} {r : Lr} {p t : Addr} (h : Rw H R kvs) (a : H p = some (.tup [.str r.m, .ref t, .int r.e])) (b : H t = some (.tup [.int r.t1, .int r.t2])) : Rw H (R ++ [r]) (kvs ++ [(r.key, .ref p)]) := by
  induction h with
  | nil => exact .cons a b .nil
  | cons x y _ ih => exact .cons x y ih
/-- is it this pair's -/
def isK (g : Str) (n : Int) (r : Lr) : Bool := decide (r.g = g) && decide (r.n = n)
theorem key_eq {r : Lr} {g : Str} {n : Int} : r.key = [.inr g, .inl n] ↔ isK g n r = true := by
  unfold Lr.key isK
  rw [Bool.and_eq_true, decide_eq_true_iff, decide_eq_true_iff]
  constructor
  · intro h
    rw [List.cons.injEq, List.cons.injEq] at h
    exact ⟨Sum.inr.inj h.1, Sum.inl.inj h.2.1⟩
  · rintro ⟨a, b⟩
    rw [a, b]
theorem Rw.val {H : Hp} {R : List Lr} {kvs : List (List Key × V)} (h : Rw H R kvs) (g : Str) (n : Int) : (R.find? (isK g n) = none ∧ valV kvs [.inr g, .inl n] = none) ∨ ∃ r p t, R.find? (isK g n) = some r ∧ valV kvs [.inr g, .inl n] = some (.ref p) ∧ H p = some (.tup [.str r.m, .ref t, .int r.e]) ∧ H t = some (.tup [.int r.t1, .int r.t2]) := by
  induction h with
  | nil => exact .inl ⟨rfl, rfl⟩
  | @cons r R kvs p t a b _ ih =>
    by_cases e : isK g n r = true
    · exact .inr ⟨r, p, t, by rw [List.find?_cons_of_pos e], valV_pos (key_eq.mpr e), a, b⟩
    · rw [List.find?_cons_of_neg e, valV_neg (fun z => e (key_eq.mp z))]
      exact ih
theorem Rw.drop {H : Hp} {R : List Lr} {kvs : List (List Key × V)} (h : Rw H R kvs) (g : Str) (n : Int) : Rw H (R.filter fun r => !isK g n r) (dropK kvs [.inr g, .inl n]) := by
  induction h with
  | nil => exact .nil
  | @cons r R kvs p t a b _ ih =>
    by_cases e : isK g n r = true
    · have z1 : dropK ((r.key, V.ref p) :: kvs) [.inr g, .inl n] = dropK kvs [.inr g, .inl n] := List.filter_cons_of_neg (by simp [key_eq.mpr e])
      rw [List.filter_cons_of_neg (by simp [e]), z1]
      exact ih
    · have z1 : dropK ((r.key, V.ref p) :: kvs) [.inr g, .inl n] = (r.key, V.ref p) :: dropK kvs [.inr g, .inl n] := List.filter_cons_of_pos (by
        simp only [decide_eq_true_eq]
        exact fun z => e (key_eq.mp z))
      rw [List.filter_cons_of_pos (by simp [e]), z1]
      exact .cons a b ih
/-- the leases at a, their dict at d -/
structure LsAt (K : PySem.W.Frag) (H : Hp) (a d : Addr) (R : List Lr) : Prop where
  ex : ∃ C dx kvs, clsAt K "Leases" C ∧ H a = some (.ins C dx [("_rows", .ref d)]) ∧ H d = some (.dT kvs) ∧ Rw H R kvs
theorem LsAt.same {K : PySem.W.Frag} {H H2 : Hp} {a d : Addr} {R : List Lr} (h : LsAt K H a d R) (s : Same H H2) : LsAt K H2 a d R := by
  obtain ⟨C, dx, kvs, c, x, y, z⟩ := h.ex
  exact ⟨C, dx, kvs, c, s _ _ x, s _ _ y, z.tk (.same s)⟩
theorem LsAt.ne {K : PySem.W.Frag} {H : Hp} {a d : Addr} {R : List Lr} (h : LsAt K H a d R) : a ≠ d := by
  obtain ⟨C, dx, kvs, c, x, y, z⟩ := h.ex
  intro e
  rw [e, y] at x
  cases x
theorem LsAt.kp {K : PySem.W.Frag} {H H2 : Hp} {a d : Addr} {R : List Lr} {l : List Addr} (h : LsAt K H a d R) (s : Kp l H H2) (n : ∀ x ∈ l, ∀ ys, H x ≠ some (.tup ys)) (na : a ∉ l) (nd : d ∉ l) : LsAt K H2 a d R := by
  obtain ⟨C, dx, kvs, c, x, y, z⟩ := h.ex
  exact ⟨C, dx, kvs, c, s.at na x, s.at nd y, z.tk (.kp s n)⟩
/-- it is held by this one for this group -/
def hit (g m : V) (r : Lr) : Bool := decide (V.str r.g = g) && decide (V.str r.m = m)
def sp_Leases_of (K : PySem.W.Frag) : Sp := sp3 fun self member group H Q _ => ∃ a d R, self = .ref a ∧ LsAt K H a d R ∧ AnyV K H member ∧ AnyV K H group ∧ (∀ H2, Same H H2 → R.find? (hit group member) = none → Q .non H2) ∧
  ∀ r p t H2, Same H H2 → R.find? (hit group member) = some r → H p = none → H2 p = some (.tup [.int r.n, .ref t]) → H2 t = some (.tup [.int r.t1, .int r.t2]) → Q (.ref p) H2
def sp_Leases_held (K : PySem.W.Frag) : Sp := sp2 fun self group H Q _ => ∃ a d R, self = .ref a ∧ LsAt K H a d R ∧ R.length ≤ 5000 ∧ AnyV K H group ∧
  ∀ (ms : List Int) p H2, Same H H2 → H p = none → H2 p = some (.lst (ms.map V.int)) → ms.Perm ((R.filter fun r => decide (V.str r.g = group)).map (·.n)) → ms.Pairwise (· ≤ ·) → Q (.ref p) H2
/-- what is asked after by these two -/
def hk (R : List Lr) : PyData → PyData → Option Lr
  | .str g, .int n => if nameD (.str g) = true then R.find? (isK g n) else none
  | _, _ => none
theorem hk_some {R : List Lr} {dg dn : PyData} {r : Lr} (h : hk R dg dn = some r) : ∃ g n, dg = .str g ∧ dn = .int n ∧ nameD (.str g) = true ∧ R.find? (isK g n) = some r ∧ r.g = g ∧ r.n = n := by
  unfold hk at h
  split at h
  · rename_i g n
    split at h
    · rename_i hn
      have := List.find?_some h
      unfold isK at this
      rw [Bool.and_eq_true, decide_eq_true_iff, decide_eq_true_iff] at this
      exact ⟨g, n, rfl, rfl, hn, h, this.1, this.2⟩
    · cases h
  · cases h
theorem hk_at {R : List Lr} {g : Str} {n : Int} (h : nameD (.str g) = true) : hk R (.str g) (.int n) = R.find? (isK g n) := by
  show (if nameD (.str g) = true then R.find? (isK g n) else none) = _
  rw [if_pos h]
theorem hk_bad1 {R : List Lr} {dg dn : PyData} (h : nameD dg = false) : hk R dg dn = none := by
  unfold hk
  split
  · rw [h]; rfl
  · rfl
theorem hk_bad2 {R : List Lr} {dg dn : PyData} (h : M3.intD dn = false) : hk R dg dn = none := by
  unfold hk
  split
  · cases h
  · rfl
theorem name_str {d : PyData} (h : nameD d = true) : ∃ x, d = .str x := by
  cases d with
  | str x => exact ⟨x, rfl⟩
  | _ => cases h
theorem int_int {d : PyData} (h : M3.intD d = true) : ∃ x, d = .int x := by
  cases d with
  | int x => exact ⟨x, rfl⟩
  | _ => cases h
def sp_Leases_holder (K : PySem.W.Frag) : Sp := sp3 fun self group number H Q _ => ∃ a d R dg dn, self = .ref a ∧ LsAt K H a d R ∧ Vd H group dg ∧ asc1 dg = true ∧ Vd H number dn ∧ (∀ H2, Same H H2 → hk R dg dn = none → Q .non H2) ∧
  ∀ r p t H2, Same H H2 → hk R dg dn = some r → H p = none → H2 p = some (.tup [.str r.m, .ref t]) → H2 t = some (.tup [.int r.t1, .int r.t2]) → Q (.ref p) H2
def sp_Leases_drop (K : PySem.W.Frag) : Sp := sp3 fun self group number H Q _ => ∃ a d R dg dn, self = .ref a ∧ LsAt K H a d R ∧ Vd H group dg ∧ asc1 dg = true ∧ Vd H number dn ∧ (∀ H2, Same H H2 → hk R dg dn = none → Q (.bl false) H2) ∧
  ∀ r H2, Kp [d] H H2 → hk R dg dn = some r → LsAt K H2 a d (R.filter fun x => !isK r.g r.n x) → Q (.bl true) H2
def sp_Leases___init__ (K : PySem.W.Frag) : Sp := sp1 fun self H Q _ => ∃ a C dx, self = .ref a ∧ clsAt K "Leases" C ∧ H a = some (.ins C dx []) ∧ ∀ d H2, H d = none → Kp [a] H H2 → LsAt K H2 a d [] → Q .non H2
/-- rows as tuples -/
inductive Fl (H : Hp) : List V → List Lr → Prop
  | nil : Fl H [] []
  | cons {r : Lr} {R : List Lr} {xs : List V} {p t : Addr} : H p = some (.tup [.str r.g, .int r.n, .str r.m, .ref t, .int r.e]) → H t = some (.tup [.int r.t1, .int r.t2]) → Fl H xs R → Fl H (.ref p :: xs) (r :: R)
theorem Fl.tk {H H2 : Hp} {R : List Lr} {xs : List V} (h : Fl H xs R) (s : Tk H H2) : Fl H2 xs R := by
  induction h with
  | nil => exact .nil
  | cons a b _ ih => exact .cons (s _ _ a) (s _ _ b) ih
theorem Fl.len {H : Hp} {R : List Lr} {xs : List V} (h : Fl H xs R) : xs.length = R.length := by
  induction h with
  | nil => rfl
  | cons a b _ ih => rw [List.length_cons, List.length_cons, ih]
theorem Fl.snoc {H : Hp} {R : List Lr} {xs : List V} {r : Lr} {p t : Addr} (h : Fl H xs R) (a : H p = some (.tup [.str r.g, .int r.n, .str r.m, .ref t, .int r.e])) (b : H t = some (.tup [.int r.t1, .int r.t2])) : Fl H (xs ++ [.ref p]) (R ++ [r]) := by
  induction h with
  | nil => exact .cons a b .nil
  | cons x y _ ih => exact .cons x y ih
theorem Fl.dz {g : Bool} {H : Hp} {R : List Lr} {xs : List V} (h : Fl H xs R) : DzAll g H xs (R.map Lr.d) := by
  induction h with
  | nil => exact .nil
  | cons a b _ ih => exact .cons (.tup a (.cons (.str _) (.cons (.int _) (.cons (.str _) (.cons (.tup b (.cons (.int _) (.cons (.int _) .nil))) (.cons (.int _) .nil)))))) ih
theorem Fl.at {H : Hp} {R : List Lr} {xs : List V} (h : Fl H xs R) : ∀ {i : Nat} {x : V}, xs[i]? = some x → ∃ r p t, R[i]? = some r ∧ x = .ref p ∧ H p = some (.tup [.str r.g, .int r.n, .str r.m, .ref t, .int r.e]) ∧ H t = some (.tup [.int r.t1, .int r.t2]) := by
  induction h with
  | nil => intro i x e; cases i <;> cases e
  | cons a b _ ih =>
    intro i x e
    cases i with
    | zero =>
      have e := Option.some.inj e
      subst e
      exact ⟨_, _, _, rfl, rfl, a, b⟩
    | succ i => exact ih e
theorem alike_d (R : List Lr) : PySem.W.AllAlike (R.map Lr.d) := PySem.W.AllAlike.of fun a b => rfl
theorem sortable_d (R : List Lr) : PySem.W.Sortable (R.map Lr.d) := PySem.W.Sortable.tuples fun a => ⟨_, _, rfl⟩
theorem depth_d (R : List Lr) : ∀ x ∈ R.map Lr.d, x.depth ≤ 50 := fun x hx => by
  obtain ⟨r, _, rfl⟩ := List.mem_map.mp hx
  exact (show r.d.depth = 2 from rfl) ▸ (by decide)
/-- pairs as tuples -/
inductive Kl (H : Hp) : List V → List Lr → Prop
  | nil : Kl H [] []
  | cons {r : Lr} {R : List Lr} {xs : List V} {p : Addr} : H p = some (.tup [.str r.g, .int r.n]) → Kl H xs R → Kl H (.ref p :: xs) (r :: R)
theorem Kl.tk {H H2 : Hp} {R : List Lr} {xs : List V} (h : Kl H xs R) (s : Tk H H2) : Kl H2 xs R := by
  induction h with
  | nil => exact .nil
  | cons a _ ih => exact .cons (s _ _ a) ih
theorem Kl.len {H : Hp} {R : List Lr} {xs : List V} (h : Kl H xs R) : xs.length = R.length := by
  induction h with
  | nil => rfl
  | cons a _ ih => rw [List.length_cons, List.length_cons, ih]
theorem Kl.snoc {H : Hp} {R : List Lr} {xs : List V} {r : Lr} {p : Addr} (h : Kl H xs R) (a : H p = some (.tup [.str r.g, .int r.n])) : Kl H (xs ++ [.ref p]) (R ++ [r]) := by
  induction h with
  | nil => exact .cons a .nil
  | cons x _ ih => exact .cons x ih
theorem Kl.dz {g : Bool} {H : Hp} {R : List Lr} {xs : List V} (h : Kl H xs R) : DzAll g H xs (R.map Lr.kd) := by
  induction h with
  | nil => exact .nil
  | cons a _ ih => exact .cons (.tup a (.cons (.str _) (.cons (.int _) .nil))) ih
theorem alike_k (R : List Lr) : PySem.W.AllAlike (R.map Lr.kd) := PySem.W.AllAlike.of fun a b => rfl
theorem sortable_k (R : List Lr) : PySem.W.Sortable (R.map Lr.kd) := PySem.W.Sortable.tuples fun a => ⟨_, _, rfl⟩
theorem depth_k (R : List Lr) : ∀ x ∈ R.map Lr.kd, x.depth ≤ 50 := fun x hx => by
  obtain ⟨r, _, rfl⟩ := List.mem_map.mp hx
  exact (show r.kd.depth = 1 from rfl) ▸ (by decide)
def sp_Leases_listed (K : PySem.W.Frag) : Sp := sp1 fun self H Q _ => ∃ a d R, self = .ref a ∧ LsAt K H a d R ∧ R.length ≤ 5000 ∧ ∀ xs p H2, Same H H2 → H p = none → H2 p = some (.lst xs) → DzAll false H2 xs (srtD (R.map Lr.d)) → Q (.ref p) H2
def sp_Leases_ended (K : PySem.W.Frag) : Sp := sp2 fun self time H Q E => ∃ a d R dt, self = .ref a ∧ LsAt K H a d R ∧ R.length ≤ 5000 ∧ Vd H time dt ∧ (cntD dt = false → Rz K "InvalidCount" "given" time H E) ∧
  (∀ t xs p H2, dt = .int t → cntD dt = true → Same H H2 → H p = none → H2 p = some (.lst xs) → DzAll false H2 xs (srtD ((R.filter fun r => decide (r.e ≤ t)).map Lr.kd)) → Q (.ref p) H2)
def posD : PyData → Bool
  | .int i => decide (1 ≤ i)
  | _ => false
/-- Held leaves with these two -/
def RzH (K : PySem.W.Frag) (g n : V) (H : Hp) (E : XK) : Prop := ∀ C d H2, clsAt K "Held" C → Same H H2 → H2 d = some (.xd [("number", n), ("group", g)]) → E (.ref C) (some d) H2
theorem RzH.go {K : PySem.W.Frag} {g n : V} {H H1 H2 : Hp} {E : XK} {C d : Addr} (h : RzH K g n H E) (c : clsAt K "Held" C) (s : Same H H1) (w : Nw H1 d (.xd [("number", n), ("group", g)]) H2) : E (.ref C) (some d) H2 := h C d H2 c (s.trans w.same) w.here
theorem pos_int {d : PyData} (h : posD d = true) : ∃ i, d = .int i ∧ 1 ≤ i := by
  cases d with
  | int i => exact ⟨i, rfl, of_decide_eq_true h⟩
  | _ => cases h
theorem pos_no {d : PyData} (h : posD d = false) : M3.intD d = false ∨ ∃ i, d = .int i ∧ ¬ 1 ≤ i := by
  cases d with
  | int i => exact .inr ⟨i, rfl, of_decide_eq_false h⟩
  | _ => exact .inl rfl
theorem zTr_bl {K : PySem.W.Frag} {b : Bool} {H : Hp} {Q : Bool → Hp → Prop} (h : Q b H) : zTr K (.bl b) H Q := h
/-- what give does, judged -/
def GiveJ (K : PySem.W.Frag) (H : Hp) (a d : Addr) (R : List Lr) (vm vg vn vt ve : V) (dm dg dn dt de : PyData) (Q : VK) (E : XK) : Prop :=
  (nameD dm = false ∧ Rz K "InvalidName" "given" vm H E) ∨ (nameD dm = true ∧ (
  (nameD dg = false ∧ Rz K "InvalidName" "given" vg H E) ∨ (nameD dg = true ∧ (
  (posD dn = false ∧ Rz K "InvalidNumber" "given" vn H E) ∨ (posD dn = true ∧ (
  (tokenD dt = false ∧ Rz K "InvalidNumber" "given" vt H E) ∨ (tokenD dt = true ∧ (
  (cntD de = false ∧ Rz K "InvalidCount" "given" ve H E) ∨ (cntD de = true ∧ ∃ r : Lr, dm = .str r.m ∧ dg = .str r.g ∧ dn = .int r.n ∧ dt = r.tokD ∧ de = .int r.e ∧
    (∀ x, R.find? (isK r.g r.n) = some x → RzH K (.str r.g) (.int r.n) H E) ∧
    (∀ x, R.find? (isK r.g r.n) = none → R.find? (hit (.str r.g) (.str r.m)) = some x → RzH K (.str r.g) (.int x.n) H E) ∧
    (R.find? (isK r.g r.n) = none → R.find? (hit (.str r.g) (.str r.m)) = none → ∀ H2, Kp [d] H H2 → LsAt K H2 a d (R ++ [r]) → Q .non H2))))))))))
def sp_Leases_give (K : PySem.W.Frag) : Sp := sp6 fun self vm vg vn vt ve H Q E => ∃ a d R dm dg dn dt de, self = .ref a ∧ LsAt K H a d R ∧ R.length ≤ 5000 ∧ Vd H vm dm ∧ asc1 dm = true ∧ Vd H vg dg ∧ asc1 dg = true ∧ Vd H vn dn ∧ Vd H vt dt ∧ Vd H ve de ∧ GiveJ K H a d R vm vg vn vt ve dm dg dn dt de Q E
/-- an atom that can be laid -/
def okA : PyData → Bool
  | .str x => PyData.strOk x
  | .none | .bool _ | .int _ => true
  | _ => false
/-- a good name -/
def gn (x : Str) : Bool := nameD (.str x) && (asc1 (.str x) && okA (.str x))
/-- all its parts are good -/
structure Gd (r : Lr) : Prop where
  m : gn r.m = true
  g : gn r.g = true
  n : posD (.int r.n) = true
  t : tokenD r.tokD = true
  e : cntD (.int r.e) = true
  bn : r.n.natAbs < 2 ^ 60
  be : r.e.natAbs < 2 ^ 60
/-- a number that leases take, not too great -/
def okI (i : Int) : Bool := posD (.int i) && decide (i.natAbs < 2 ^ 60)
theorem okI_of {i : Int} (h : okI i = true) : posD (.int i) = true ∧ i.natAbs < 2 ^ 60 := by
  unfold okI at h
  rw [Bool.and_eq_true, decide_eq_true_iff] at h
  exact h
theorem okI_mk {i : Int} (h : posD (.int i) = true) (b : i.natAbs < 2 ^ 60) : okI i = true := by
  unfold okI
  rw [h, decide_eq_true b]
  rfl
theorem gn_at (ts : List Str) (h : ts.all gn = true) {r : Int} (h0 : 0 ≤ r) (h1 : r < ((ts.map V.str).length : Int)) : ∃ x, atI (ts.map V.str) r = some (.str x) ∧ gn x = true := by
  obtain ⟨v, e1, e2, _⟩ := atI_some h0 h1
  obtain ⟨x, hx, rfl⟩ := List.mem_map.mp e2
  exact ⟨x, e1, List.all_eq_true.mp h x hx⟩
theorem int_at (ns : List Int) (p : Int → Bool) (h : ns.all p = true) {r : Int} (h0 : 0 ≤ r) (h1 : r < ((ns.map V.int).length : Int)) : ∃ x, atI (ns.map V.int) r = some (.int x) ∧ p x = true := by
  obtain ⟨v, e1, e2, _⟩ := atI_some h0 h1
  obtain ⟨x, hx, rfl⟩ := List.mem_map.mp e2
  exact ⟨x, e1, List.all_eq_true.mp h x hx⟩
theorem lay_ok : ∀ {ds : List PyData}, ds.all okA = true → PyData.canLayAll0 ds = true ∧ PyData.depthAll ds = 0
  | [], _ => ⟨by simp only [PyData.canLayAll0], by simp only [PyData.depthAll]⟩
  | d :: ds, h => by
    rw [List.all_cons, Bool.and_eq_true] at h
    obtain ⟨a, b⟩ := lay_ok h.2
    have c : d.canLay0 = true ∧ d.depth = 0 := by
      cases d with
      | str x => exact ⟨h.1, rfl⟩
      | none => exact ⟨rfl, rfl⟩
      | bool b => exact ⟨rfl, rfl⟩
      | int i => exact ⟨rfl, rfl⟩
      | _ => cases h.1
    exact ⟨by simp only [PyData.canLayAll0]; rw [c.1, a]; rfl, by simp only [PyData.depthAll]; rw [c.2, b]; rfl⟩
theorem shl_ok {ds : List PyData} (h : ds.all okA = true) : SeqAt.shaped (.list ds) = true := by
  obtain ⟨a, b⟩ := lay_ok h
  show (PyData.canLayAll0 ds && decide (PyData.depthAll ds + 1 ≤ 64)) = true
  rw [a, b]
  rfl
theorem sht_ok {ds : List PyData} (h : ds.all okA = true) : SeqAt.shaped (.tuple ds) = true := by
  obtain ⟨a, b⟩ := lay_ok h
  show (PyData.canLayAll0 ds && decide (PyData.depthAll ds + 1 ≤ 64)) = true
  rw [a, b]
  rfl
theorem kd_sh {r : Lr} (h : Gd r) : SeqAt.shaped (.tuple [.str r.g, .int r.n]) = true := sht_ok (by
  have := h.g
  unfold gn at this
  rw [Bool.and_eq_true, Bool.and_eq_true] at this
  rw [List.all_cons, this.2.2]
  rfl)
theorem ev2 {a b : Str} {i j : Int} : (false ^^ PyData.eqv (.tuple [.str a, .int i]) (.tuple [.str b, .int j])) = (decide (a = b) && decide (i = j)) := by
  rw [Bool.false_xor, Bool.eq_iff_iff]
  simp [PyData.eqv, PyData.eqvAll]
theorem ev3 {y r : Lr} : (false ^^ PyData.eqv (.tuple [.str y.g, .int y.n]) (.tuple [.str r.g, .int r.n])) = isK r.g r.n y := ev2
theorem BoxAt.kp {m : Nat} {H H2 : Hp} {b : Addr} {l : List Addr} (h : BoxAt m H b) (k : Kp l H H2) (n : b ∉ l) : BoxAt m H2 b := by
  obtain ⟨g, f, s, c, hb, r⟩ := h
  exact ⟨g, f, s, c, k.at n hb, r⟩
theorem gn_of {x : Str} (h : gn x = true) : nameD (.str x) = true ∧ asc1 (.str x) = true ∧ okA (.str x) = true := by
  unfold gn at h
  rw [Bool.and_eq_true, Bool.and_eq_true] at h
  exact h
theorem kp_free {b : Addr} {H H2 : Hp} (k : Kp [b] H H2) (hb : ∃ o, H2 b = some o) {p : Addr} (f : H2 p = none) : H p = none := by
  cases e : H p with
  | none => rfl
  | some u =>
    by_cases z : p = b
    · obtain ⟨o, hb⟩ := hb
      rw [z, hb] at f
      cases f
    · rw [k.at (by simp [z]) e] at f
      cases f
theorem kpNew {l m : List Addr} {H H1 H2 : Hp} (x : Kp l H H1) (k : Kp m H1 H2) (f : ∀ p ∈ m, p ∈ l ∨ H p = none) : Kp l H H2 := fun b o n h => k b o (fun z => by
  rcases f b z with q | q
  · exact n q
  · rw [q] at h
    cases h) (x b o n h)
theorem dp_ints {K : PySem.W.Frag} {H : Hp} : ∀ ks : List Int, DpAll K H (ks.map V.int) (ks.map PyData.int)
  | [] => .nil
  | k :: ks => .cons (.int k) (dp_ints ks)
theorem ok_ints : ∀ ks : List Int, (ks.map PyData.int).all okA = true
  | [] => rfl
  | k :: ks => by rw [List.map_cons, List.all_cons, ok_ints ks]; rfl
theorem okg {r : Lr} (h : Gd r) : PyData.strOk r.g = true ∧ PyData.strOk r.m = true := ⟨(gn_of h.g).2.2, (gn_of h.m).2.2⟩
theorem Fl.dp {K : PySem.W.Frag} {H : Hp} {R : List Lr} {xs : List V} (h : Fl H xs R) : DpAll K H xs (R.map Lr.d) := by
  induction h with
  | nil => exact .nil
  | cons a b _ ih => exact .cons (.tup (SqT.of a) (.cons (.str _) (.cons (.int _) (.cons (.str _) (.cons (.tup (SqT.of b) (.cons (.int _) (.cons (.int _) .nil))) (.cons (.int _) .nil)))))) ih
theorem rows_lay : ∀ {R : List Lr}, (∀ x ∈ R, Gd x) → PyData.canLayAll0 (R.map Lr.d) = true ∧ PyData.depthAll (R.map Lr.d) ≤ 2
  | [], _ => ⟨by simp only [List.map_nil, PyData.canLayAll0], by simp only [List.map_nil, PyData.depthAll]; decide⟩
  | r :: R, h => by
    obtain ⟨a, b⟩ := rows_lay (R := R) fun x hx => h x (List.mem_cons_of_mem _ hx)
    obtain ⟨o1, o2⟩ := okg (h r List.mem_cons_self)
    refine ⟨?_, ?_⟩
    · show (((PyData.strOk r.g && (true && (PyData.strOk r.m && ((true && (true && true)) && (true && true))))) && PyData.canLayAll0 (R.map Lr.d)) = true)
      rw [o1, o2, a]
      rfl
    · show max r.d.depth (PyData.depthAll (R.map Lr.d)) ≤ 2
      rw [show r.d.depth = 2 from rfl]
      omega
theorem rows_sh {R : List Lr} (h : ∀ x ∈ R, Gd x) : SeqAt.shaped (.list (R.map Lr.d)) = true := by
  obtain ⟨a, b⟩ := rows_lay h
  show (PyData.canLayAll0 (R.map Lr.d) && decide (PyData.depthAll (R.map Lr.d) + 1 ≤ 64)) = true
  rw [a, decide_eq_true (by omega)]
  rfl
theorem dz_row {K : PySem.W.Frag} {g : Bool} {H : Hp} {v : V} {r : Lr} (h : Dz g H v r.d) : Dp K H v r.d := by
  unfold Lr.d Lr.tokD at h ⊢
  cases h with
  | tup e h =>
  cases h with
  | cons h1 h =>
  cases h with
  | cons h2 h =>
  cases h with
  | cons h3 h =>
  cases h with
  | cons h4 h =>
  cases h with
  | cons h5 h =>
  cases h
  cases h1
  cases h2
  cases h3
  cases h5
  cases h4 with
  | tup e4 h =>
  cases h with
  | cons h6 h =>
  cases h with
  | cons h7 h =>
  cases h
  cases h6
  cases h7
  exact .tup (SqT.of e) (.cons (.str _) (.cons (.int _) (.cons (.str _) (.cons (.tup (SqT.of e4) (.cons (.int _) (.cons (.int _) .nil))) (.cons (.int _) .nil)))))
theorem dz_rows {K : PySem.W.Frag} {g : Bool} {H : Hp} : ∀ {R : List Lr} {xs : List V}, DzAll g H xs (R.map Lr.d) → DpAll K H xs (R.map Lr.d)
  | [], _, h => by cases h; exact .nil
  | r :: R, _, .cons a b => .cons (dz_row a) (dz_rows b)
theorem srt_rows (R : List Lr) : ∃ R' : List Lr, srtD (R.map Lr.d) = R'.map Lr.d ∧ R'.Perm R := by
  refine ⟨R.mergeSort (PySem.W.dataLe false Lr.d), ?_, List.mergeSort_perm _ _⟩
  unfold srtD
  exact (List.map_mergeSort (f := Lr.d) (r := PySem.W.dataLe false Lr.d) (s := PySem.W.dataLe false id) (l := R) fun a _ b _ => rfl).symm
theorem zip_pack {H : Hp} {xs : List V} {R : List Lr} (h : DzAll false H xs (R.map Lr.d)) : ∃ ps : List (V × PyData), ps.map (·.1) = xs ∧ ps.map (·.2) = R.map Lr.d ∧ (∀ p ∈ ps, Dz false H p.1 p.2) ∧ DzAll false H ((srt ps).map (·.1)) (srtD (R.map Lr.d)) := by
  obtain ⟨e1, e2, e3⟩ := dzAll_zip h
  refine ⟨_, e1, e2, e3, ?_⟩
  have := srt_dz e3
  rw [e2] at this
  exact this
theorem sortedN_go {K : PySem.W.Frag} {H : Hp} {R : List Lr} {xs ys : List V} {p q : Addr} (g : ∀ x ∈ R, Gd x) (hp : H p = some (.lst xs)) (hq : H q = some (.lst ys)) (dx : DzAll false H xs (srtD (R.map Lr.d))) (dy : DzAll false H ys (srtD (R.map Lr.d))) :
    ∃ D, Dp K H (.ref p) D ∧ Dp K H (.ref q) D ∧ SeqAt.shaped D = true := by
  obtain ⟨R', e, pm⟩ := srt_rows R
  rw [e] at dx dy
  exact ⟨.list (R'.map Lr.d), .lst (SqL.of hp) (dz_rows dx), .lst (SqL.of hq) (dz_rows dy), rows_sh fun x hx => g x (pm.mem_iff.mp hx)⟩
theorem box_lst {n : Nat} {H : Hp} {b : Addr} (h : BoxAt n H b) : ∃ ys, H b = some (HO.lst ys) := by
  obtain ⟨_, _, _, _, hb, _⟩ := h
  exact ⟨_, hb⟩
theorem ne_kind {H : Hp} {x y : Addr} {u v : HO} (e : H x = some u) (f : H y = some v) (n : u ≠ v) : x ≠ y := fun z => n (by rw [z, f] at e; exact (Option.some.inj e).symm)
set_option pp.maxSteps 400
theorem dp_strv {K : PySem.W.Frag} {H : Hp} : ∀ ts : List Str, DpAll K H (ts.map V.str) (ts.map PyData.str)
  | [] => .nil
  | t :: ts => .cons (.str t) (dp_strv ts)
theorem ok_strv : ∀ {ts : List Str}, ts.all gn = true → (ts.map PyData.str).all okA = true
  | [], _ => rfl
  | t :: ts, h => by
    rw [List.all_cons, Bool.and_eq_true] at h
    rw [List.map_cons, List.all_cons, ok_strv h.2, (gn_of h.1).2.2]
    rfl
theorem ix_in {n : Nat} {r : Int} (h0 : 0 ≤ r) (h1 : r < n) : seqIndex? r n = some r.toNat := by
  refine (ixN_seq (n := n) (i := r) (j := r.toNat) ?_).1
  unfold ixN
  rw [if_pos h0, if_pos h1]
theorem perm_cut {α : Type} : ∀ {l : List α} {n : Nat} (h : n < l.length), (l[n] :: l.eraseIdx n).Perm l
  | x :: l, 0, _ => List.Perm.refl _
  | x :: l, n + 1, h => by
    have ih := perm_cut (l := l) (n := n) (by simpa using h)
    show (l[n]'(by simpa using h) :: x :: l.eraseIdx n).Perm (x :: l)
    exact (List.Perm.swap x _ _).trans (ih.cons x)
/-- a row as a tuple at p, its token at t -/
def RowAt (H : Hp) (p : Addr) (r : Lr) (t : Addr) : Prop := H p = some (.tup [.str r.g, .int r.n, .str r.m, .ref t, .int r.e]) ∧ H t = some (.tup [.int r.t1, .int r.t2])
def sp__law_mixed (K : PySem.W.Frag) : Sp := sp2 fun box items H Q _ => ∃ b n p, ∃ ts : List Str, box = .ref b ∧ items = .ref p ∧ BoxAt n H b ∧ n < 900000 ∧ H p = some (.lst (ts.map V.str)) ∧ ts.length ≤ 10 ∧ ts.all gn = true ∧
  ∀ (us : List Str) q H2, us.Perm ts → But b H H2 → BoxAt (n + ts.length) H2 b → H q = none → H2 q = some (.lst (us.map V.str)) → Q (.ref q) H2
def sp__law_holding (K : PySem.W.Frag) : Sp := sp3 fun rows club no H Q _ => ∃ L xs R, ∃ (g : Str) (n : Int), rows = .ref L ∧ club = .str g ∧ no = .int n ∧ H L = some (.lst xs) ∧ Fl H xs R ∧ (R.find? (isK g n) = none → Q .non H) ∧
  ∀ j r p t, R[j]? = some r → xs[j]? = some (.ref p) → (∀ y ∈ R.take j, isK g n y = false) → isK g n r = true → R.find? (isK g n) = some r → RowAt H p r t → Q (.ref p) H
def sp__law_held_by (K : PySem.W.Frag) : Sp := sp3 fun rows who club H Q _ => ∃ L xs R, ∃ (m g : Str), rows = .ref L ∧ who = .str m ∧ club = .str g ∧ H L = some (.lst xs) ∧ Fl H xs R ∧ (R.find? (hit (.str g) (.str m)) = none → Q .non H) ∧
  ∀ r p t, R.find? (hit (.str g) (.str m)) = some r → RowAt H p r t → Q (.ref p) H
def sp__law_due (K : PySem.W.Frag) : Sp := sp2 fun rows row H Q _ => ∃ L xs R p r t, rows = .ref L ∧ row = .ref p ∧ H L = some (.lst xs) ∧ Fl H xs R ∧ RowAt H p r t ∧
  (∀ x q H2, R.find? (isK r.g r.n) = some x → Nw H q (.tup [.str r.g, .int r.n]) H2 → Q (.ref q) H2) ∧
  (∀ x q H2, R.find? (isK r.g r.n) = none → R.find? (hit (.str r.g) (.str r.m)) = some x → Nw H q (.tup [.str r.g, .int x.n]) H2 → Q (.ref q) H2) ∧
  (R.find? (isK r.g r.n) = none → R.find? (hit (.str r.g) (.str r.m)) = none → Q .non H)
/-- no two rows of one pair -/
def Uk (R : List Lr) : Prop := R.Pairwise fun x y => isK x.g x.n y = false
/-- a seat: leases, rows, and who, which groups, which ids may be drawn -/
structure Seat (K : PySem.W.Frag) (H : Hp) (s a d L nm cl il : Addr) (R : List Lr) (xs : List V) (names clubs : List Str) (ids : List Int) (m : Nat) : Prop where
  hs : H s = some (.lst [.ref a, .ref L, .ref nm, .ref cl, .ref il])
  ls : LsAt K H a d R
  hL : H L = some (.lst xs)
  fl : Fl H xs R
  gd : ∀ x ∈ R, Gd x
  uk : Uk R
  ln : R.length ≤ m
  hn : H nm = some (.lst (names.map V.str))
  hc : H cl = some (.lst (clubs.map V.str))
  hi : H il = some (.lst (ids.map V.int))
  gnm : names.all gn = true
  gcl : clubs.all gn = true
  gid : ids.all okI = true
  ln1 : 1 ≤ names.length ∧ names.length ≤ 8
  lc1 : 1 ≤ clubs.length ∧ clubs.length ≤ 4
  li1 : 1 ≤ ids.length ∧ ids.length ≤ 8
theorem Seat.same {K : PySem.W.Frag} {H H2 : Hp} {s a d L nm cl il : Addr} {R : List Lr} {xs : List V} {names clubs : List Str} {ids : List Int} {m : Nat} (h : Seat K H s a d L nm cl il R xs names clubs ids m) (k : Same H H2) : Seat K H2 s a d L nm cl il R xs names clubs ids m :=
  { h with hs := k _ _ h.hs, ls := h.ls.same k, hL := k _ _ h.hL, fl := h.fl.tk (.same k), hn := k _ _ h.hn, hc := k _ _ h.hc, hi := k _ _ h.hi }
theorem Seat.mono {K : PySem.W.Frag} {H : Hp} {s a d L nm cl il : Addr} {R : List Lr} {xs : List V} {names clubs : List Str} {ids : List Int} {m m' : Nat} (h : Seat K H s a d L nm cl il R xs names clubs ids m) (e : m ≤ m') : Seat K H s a d L nm cl il R xs names clubs ids m' :=
  { h with ln := Nat.le_trans h.ln e }
theorem Seat.kp {K : PySem.W.Frag} {H H2 : Hp} {s a d L nm cl il : Addr} {R : List Lr} {xs : List V} {names clubs : List Str} {ids : List Int} {m : Nat} {l : List Addr} (h : Seat K H s a d L nm cl il R xs names clubs ids m) (k : Kp l H H2) (n : ∀ x ∈ l, ∀ ys, H x ≠ some (.tup ys)) (o : ∀ x ∈ [s, a, d, L, nm, cl, il], x ∉ l) : Seat K H2 s a d L nm cl il R xs names clubs ids m :=
  { h with hs := k.at (o _ (by simp)) h.hs, ls := h.ls.kp k n (o _ (by simp)) (o _ (by simp)), hL := k.at (o _ (by simp)) h.hL, fl := h.fl.tk (.kp k n), hn := k.at (o _ (by simp)) h.hn, hc := k.at (o _ (by simp)) h.hc, hi := k.at (o _ (by simp)) h.hi }
/-- b is none of a seat's -/
theorem Seat.bx {K : PySem.W.Frag} {H : Hp} {s a d L nm cl il b : Addr} {R : List Lr} {xs : List V} {names clubs : List Str} {ids : List Int} {m n : Nat} (h : Seat K H s a d L nm cl il R xs names clubs ids m) (B : BoxAt n H b) (e : b ∉ [s, L, nm, cl, il]) : ∀ x ∈ [s, a, d, L, nm, cl, il], x ∉ ([b] : List Addr) := by
  obtain ⟨ys, hb⟩ := box_lst B
  obtain ⟨_, _, _, _, ha, hd, _⟩ := h.ls.ex
  simp only [List.mem_cons, List.not_mem_nil, or_false, not_or] at e
  obtain ⟨e1, e2, e3, e4, e5⟩ := e
  intro x hx
  simp only [List.mem_cons, List.not_mem_nil, or_false] at hx ⊢
  rcases hx with rfl | rfl | rfl | rfl | rfl | rfl | rfl
  · exact Ne.symm e1
  · exact ne_kind ha hb (fun z => by cases z)
  · exact ne_kind hd hb (fun z => by cases z)
  · exact Ne.symm e2
  · exact Ne.symm e3
  · exact Ne.symm e4
  · exact Ne.symm e5
theorem box_nt {n : Nat} {H : Hp} {b : Addr} (B : BoxAt n H b) : ∀ x ∈ ([b] : List Addr), ∀ ys, H x ≠ some (.tup ys) := fun x hx ys e => by
  obtain ⟨zs, hb⟩ := box_lst B
  rw [List.mem_singleton] at hx
  rw [hx, hb] at e
  cases e
theorem Seat.box {K : PySem.W.Frag} {H H2 : Hp} {s a d L nm cl il b : Addr} {R : List Lr} {xs : List V} {names clubs : List Str} {ids : List Int} {m n : Nat} (h : Seat K H s a d L nm cl il R xs names clubs ids m) (B : BoxAt n H b) (e : b ∉ [s, L, nm, cl, il]) (t : But b H H2) : Seat K H2 s a d L nm cl il R xs names clubs ids m :=
  h.kp (Kp.but t) (box_nt B) (h.bx B e)
def sp__law_seat (K : PySem.W.Frag) : Sp := sp1 fun box H Q _ => ∃ b n, box = .ref b ∧ BoxAt n H b ∧ n < 800000 ∧ ∀ s a d L nm cl il names clubs ids H2, But b H H2 → BoxAt (n + 15) H2 b → (∀ x ∈ [s, a, d, L, nm, cl, il], H x = none) → Seat K H2 s a d L nm cl il [] [] names clubs ids 0 → L ∉ [s, nm, cl, il] → Q (.ref s) H2
def sp__law_row (K : PySem.W.Frag) : Sp := sp2 fun box seat H Q _ => ∃ b n s a d L nm cl il R xs names clubs ids, box = .ref b ∧ seat = .ref s ∧ BoxAt n H b ∧ n < 800000 ∧ Seat K H s a d L nm cl il R xs names clubs ids 5000 ∧ b ∉ [s, L, nm, cl, il] ∧
  ∀ p r t H2, But b H H2 → BoxAt (n + 10) H2 b → H p = none → Gd r → RowAt H2 p r t → Q (.ref p) H2
/-- what a call of give tells, as a tuple -/
def TellG (K : PySem.W.Frag) (H : Hp) (a d : Addr) (R : List Lr) (r : Lr) (Q : VK) : Prop :=
  (∀ x, R.find? (isK r.g r.n) = some x → ∀ p H2, Same H H2 → H p = none → H2 p = some (.tup [.str "held", .str r.g, .int r.n]) → Q (.ref p) H2) ∧
  (∀ x, R.find? (isK r.g r.n) = none → R.find? (hit (.str r.g) (.str r.m)) = some x → ∀ p H2, Same H H2 → H p = none → H2 p = some (.tup [.str "held", .str r.g, .int x.n]) → Q (.ref p) H2) ∧
  (R.find? (isK r.g r.n) = none → R.find? (hit (.str r.g) (.str r.m)) = none → ∀ p H2, Kp [d] H H2 → H p = none → LsAt K H2 a d (R ++ [r]) → H2 p = some (.tup [.str "given", .non]) → Q (.ref p) H2)
def sp__law_give (K : PySem.W.Frag) : Sp := sp3 fun leases row names H Q _ => ∃ a d R p r t, ∃ b : Bool, leases = .ref a ∧ row = .ref p ∧ names = .bl b ∧ LsAt K H a d R ∧ R.length ≤ 5000 ∧ Gd r ∧ RowAt H p r t ∧ TellG K H a d R r Q
def mineD : Option Lr → PyData
  | none => .none
  | some r => .tuple [.int r.n, r.tokD]
def oursD : Option Lr → PyData
  | none => .none
  | some r => .tuple [.str r.m, r.tokD]
theorem mine_sh (o : Option Lr) : SeqAt.shaped (mineD o) = true := by
  cases o with
  | none => rfl
  | some r => rfl
theorem ours_sh {R : List Lr} (gd : ∀ x ∈ R, Gd x) (p : Lr → Bool) : SeqAt.shaped (oursD (R.find? p)) = true := by
  cases e : R.find? p with
  | none => rfl
  | some r =>
    have o := (okg (gd r (List.mem_of_find?_eq_some e))).2
    show (PyData.canLayAll0 [.str r.m, r.tokD] && decide (PyData.depthAll [.str r.m, r.tokD] + 1 ≤ 64)) = true
    show ((PyData.strOk r.m && ((true && (true && true)) && true)) && true) = true
    rw [o]
    rfl
/-- what stands for a row that was found, or for none -/
def An (H : Hp) (f : Lr → V) (v : V) (o : Option Lr) : Prop := (o = none ∧ v = .non) ∨ ∃ r p t, o = some r ∧ v = .ref p ∧ H p = some (.tup [f r, .ref t]) ∧ H t = some (.tup [.int r.t1, .int r.t2])
theorem An.same {H H2 : Hp} {f : Lr → V} {v : V} {o : Option Lr} (h : An H f v o) (s : Same H H2) : An H2 f v o := by
  rcases h with h | ⟨r, p, t, e1, e2, e3, e4⟩
  · exact .inl h
  · exact .inr ⟨r, p, t, e1, e2, s _ _ e3, s _ _ e4⟩
theorem An.mine {K : PySem.W.Frag} {H : Hp} {v : V} {o : Option Lr} (h : An H (fun r => .int r.n) v o) : Dp K H v (mineD o) := by
  rcases h with ⟨rfl, rfl⟩ | ⟨r, p, t, rfl, rfl, e3, e4⟩
  · exact .non
  · exact .tup (SqT.of e3) (.cons (.int _) (.cons (.tup (SqT.of e4) (.cons (.int _) (.cons (.int _) .nil))) .nil))
theorem An.ours {K : PySem.W.Frag} {H : Hp} {v : V} {o : Option Lr} (h : An H (fun r => .str r.m) v o) : Dp K H v (oursD o) := by
  rcases h with ⟨rfl, rfl⟩ | ⟨r, p, t, rfl, rfl, e3, e4⟩
  · exact .non
  · exact .tup (SqT.of e3) (.cons (.str _) (.cons (.tup (SqT.of e4) (.cons (.int _) (.cons (.int _) .nil))) .nil))
def sp__law_pair_right (K : PySem.W.Frag) : Sp := sp5 fun leases rows who club no H Q _ => ∃ a d L R xs m g, ∃ n : Int, leases = .ref a ∧ rows = .ref L ∧ who = .str m ∧ club = .str g ∧ no = .int n ∧ LsAt K H a d R ∧ H L = some (.lst xs) ∧ Fl H xs R ∧ (∀ x ∈ R, Gd x) ∧ gn g = true ∧ ∀ H2, Same H H2 → Q (.bl true) H2
theorem ok_held : okA (.str "held") = true := by decide +kernel
theorem ok_given : okA (.str "given") = true := by decide +kernel
theorem isK_symm {x y : Lr} : isK x.g x.n y = isK y.g y.n x := by
  unfold isK
  congr 1 <;> exact decide_eq_decide.mpr eq_comm
theorem isK_self (r : Lr) : isK r.g r.n r = true := by
  unfold isK
  rw [decide_eq_true rfl, decide_eq_true rfl]
  rfl
theorem eqv_rows {y r : Lr} (h : PyData.eqv y.d r.d = true) : isK r.g r.n y = true := by
  unfold Lr.d Lr.tokD at h
  unfold isK
  simp [PyData.eqv, PyData.eqvAll] at h
  rw [decide_eq_true h.1, decide_eq_true h.2.1]
  rfl
theorem eqv_row (r : Lr) : PyData.eqv r.d r.d = true := by
  unfold Lr.d Lr.tokD
  simp [PyData.eqv, PyData.eqvAll]
theorem place : ∀ {R : List Lr} {j : Nat} {r : Lr}, R[j]? = some r → (∀ y ∈ R.take j, isK r.g r.n y = false) → SeqAt.dataPlace (R.map Lr.d) r.d = some j
  | [], j, r, h, _ => by cases j <;> cases h
  | x :: R, 0, r, h, _ => by
    obtain rfl := Option.some.inj h
    unfold SeqAt.dataPlace
    rw [List.map_cons, List.findIdx?_cons, if_pos (eqv_row x)]
  | x :: R, j + 1, r, h, no => by
    have e := no x (by rw [List.take_succ_cons]; exact List.mem_cons_self)
    have ih := place (R := R) (j := j) (r := r) h fun y hy => no y (by rw [List.take_succ_cons]; exact List.mem_cons_of_mem _ hy)
    unfold SeqAt.dataPlace at ih ⊢
    rw [List.map_cons, List.findIdx?_cons, if_neg (fun z => by rw [eqv_rows z] at e; cases e), ih]
    rfl
theorem uk_drop : ∀ {R : List Lr} {j : Nat} {r : Lr}, Uk R → R[j]? = some r → (R.filter fun x => !isK r.g r.n x) = R.eraseIdx j
  | [], j, r, _, h => by cases j <;> cases h
  | x :: R, 0, r, u, h => by
    obtain rfl := Option.some.inj h
    have u := List.pairwise_cons.mp u
    rw [List.filter_cons_of_neg (by rw [isK_self]; decide), List.eraseIdx_cons_zero, List.filter_eq_self]
    intro y hy
    rw [u.1 y hy]
    rfl
  | x :: R, j + 1, r, u, h => by
    have u := List.pairwise_cons.mp u
    have e : isK r.g r.n x = false := by rw [isK_symm]; exact u.1 r (List.mem_of_getElem? (i := j) h)
    rw [List.filter_cons_of_pos (by rw [e]; decide), List.eraseIdx_cons_succ, uk_drop (R := R) (j := j) u.2 h]
theorem uk_snoc {R : List Lr} {r : Lr} (u : Uk R) (f : R.find? (isK r.g r.n) = none) : Uk (R ++ [r]) := by
  unfold Uk
  rw [List.pairwise_append]
  refine ⟨u, by simp, fun x hx y hy => ?_⟩
  obtain rfl := List.mem_singleton.mp hy
  rw [isK_symm]
  exact Bool.eq_false_iff.mpr (List.find?_eq_none.mp f x hx)
theorem Fl.erase {H : Hp} {R : List Lr} {xs : List V} (h : Fl H xs R) : ∀ j, Fl H (xs.eraseIdx j) (R.eraseIdx j) := by
  induction h with
  | nil => intro j; exact .nil
  | cons a b t ih =>
    intro j
    cases j with
    | zero => exact t
    | succ j => exact .cons a b (ih j)
theorem plain_rows : ∀ R : List Lr, PyData.plainAll (R.map Lr.d) = true
  | [] => rfl
  | r :: R => by
    show (r.d.plain && PyData.plainAll (R.map Lr.d)) = true
    rw [plain_rows R]
    rfl
/-- all but box, dict and rows is off these -/
theorem Seat.off {K : PySem.W.Frag} {H : Hp} {s a d L nm cl il b : Addr} {R : List Lr} {xs : List V} {names clubs : List Str} {ids : List Int} {m : Nat} (h : Seat K H s a d L nm cl il R xs names clubs ids m) (nb : b ∉ [s, L, nm, cl, il]) (nL : L ∉ [s, nm, cl, il]) : ∀ x ∈ [s, nm, cl, il], x ∉ [b, d, L] := by
  obtain ⟨_, _, kvs, _, ha, hd, _⟩ := h.ls.ex
  simp only [List.mem_cons, List.not_mem_nil, or_false, not_or] at nb nL
  obtain ⟨e1, e2, e3, e4, e5⟩ := nb
  obtain ⟨f1, f2, f3, f4⟩ := nL
  intro x hx
  simp only [List.mem_cons, List.not_mem_nil, or_false, not_or] at hx ⊢
  rcases hx with rfl | rfl | rfl | rfl
  · exact ⟨Ne.symm e1, ne_kind h.hs hd (fun z => by cases z), Ne.symm f1⟩
  · exact ⟨Ne.symm e3, ne_kind h.hn hd (fun z => by cases z), Ne.symm f2⟩
  · exact ⟨Ne.symm e4, ne_kind h.hc hd (fun z => by cases z), Ne.symm f3⟩
  · exact ⟨Ne.symm e5, ne_kind h.hi hd (fun z => by cases z), Ne.symm f4⟩
theorem Seat.put {K : PySem.W.Frag} {H H2 : Hp} {s a d L nm cl il b : Addr} {R R' : List Lr} {xs xs' : List V} {names clubs : List Str} {ids : List Int} {m m' : Nat} (h : Seat K H s a d L nm cl il R xs names clubs ids m) (nb : b ∉ [s, L, nm, cl, il]) (nL : L ∉ [s, nm, cl, il]) (k : Kp [b, d, L] H H2)
    (ls : LsAt K H2 a d R') (hL : H2 L = some (.lst xs')) (fl : Fl H2 xs' R') (gd : ∀ x ∈ R', Gd x) (uk : Uk R') (ln : R'.length ≤ m') : Seat K H2 s a d L nm cl il R' xs' names clubs ids m' :=
  have o := h.off nb nL
  { h with hs := k.at (o _ (by simp)) h.hs, ls := ls, hL := hL, fl := fl, gd := gd, uk := uk, ln := ln, hn := k.at (o _ (by simp)) h.hn, hc := k.at (o _ (by simp)) h.hc, hi := k.at (o _ (by simp)) h.hi }
def sp__law_did (K : PySem.W.Frag) : Sp := sp2 fun box seat H Q _ => ∃ b n s a d L nm cl il R xs names clubs ids m, box = .ref b ∧ seat = .ref s ∧ BoxAt n H b ∧ n < 700000 ∧ Seat K H s a d L nm cl il R xs names clubs ids m ∧ m ≤ 4000 ∧ b ∉ [s, L, nm, cl, il] ∧ L ∉ [s, nm, cl, il] ∧
  ∀ R' xs' H2, Kp [b, d, L] H H2 → BoxAt (n + 12) H2 b → Seat K H2 s a d L nm cl il R' xs' names clubs ids (m + 1) → Q (.bl true) H2
theorem zip_packD {H : Hp} {xs : List V} {ds : List PyData} (h : DzAll false H xs ds) : ∃ ps : List (V × PyData), ps.map (·.1) = xs ∧ ps.map (·.2) = ds ∧ (∀ p ∈ ps, Dz false H p.1 p.2) ∧ DzAll false H ((srt ps).map (·.1)) (srtD ds) := by
  obtain ⟨e1, e2, e3⟩ := dzAll_zip h
  refine ⟨_, e1, e2, e3, ?_⟩
  have := srt_dz e3
  rw [e2] at this
  exact this
theorem dz_key {K : PySem.W.Frag} {g : Bool} {H : Hp} {v : V} {r : Lr} (h : Dz g H v r.kd) : Dp K H v r.kd := by
  unfold Lr.kd at h ⊢
  cases h with
  | tup e h =>
  cases h with
  | cons h1 h =>
  cases h with
  | cons h2 h =>
  cases h
  cases h1
  cases h2
  exact .tup (SqT.of e) (.cons (.str _) (.cons (.int _) .nil))
theorem dz_keys {K : PySem.W.Frag} {g : Bool} {H : Hp} : ∀ {R : List Lr} {xs : List V}, DzAll g H xs (R.map Lr.kd) → DpAll K H xs (R.map Lr.kd)
  | [], _, h => by cases h; exact .nil
  | r :: R, _, .cons a b => .cons (dz_key a) (dz_keys b)
theorem srt_keys (R : List Lr) : ∃ R' : List Lr, srtD (R.map Lr.kd) = R'.map Lr.kd ∧ R'.Perm R := by
  refine ⟨R.mergeSort (PySem.W.dataLe false Lr.kd), ?_, List.mergeSort_perm _ _⟩
  unfold srtD
  exact (List.map_mergeSort (f := Lr.kd) (r := PySem.W.dataLe false Lr.kd) (s := PySem.W.dataLe false id) (l := R) fun a _ b _ => rfl).symm
theorem keys_lay : ∀ {R : List Lr}, (∀ x ∈ R, Gd x) → PyData.canLayAll0 (R.map Lr.kd) = true ∧ PyData.depthAll (R.map Lr.kd) ≤ 1
  | [], _ => ⟨by simp only [List.map_nil, PyData.canLayAll0], by simp only [List.map_nil, PyData.depthAll]; decide⟩
  | r :: R, h => by
    obtain ⟨a, b⟩ := keys_lay (R := R) fun x hx => h x (List.mem_cons_of_mem _ hx)
    obtain ⟨o1, o2⟩ := okg (h r List.mem_cons_self)
    refine ⟨?_, ?_⟩
    · show (((PyData.strOk r.g && (true && true)) && PyData.canLayAll0 (R.map Lr.kd)) = true)
      rw [o1, a]
      rfl
    · show max r.kd.depth (PyData.depthAll (R.map Lr.kd)) ≤ 1
      rw [show r.kd.depth = 1 from rfl]
      omega
theorem keys_sh {R : List Lr} (h : ∀ x ∈ R, Gd x) : SeqAt.shaped (.list (R.map Lr.kd)) = true := by
  obtain ⟨a, b⟩ := keys_lay h
  show (PyData.canLayAll0 (R.map Lr.kd) && decide (PyData.depthAll (R.map Lr.kd) + 1 ≤ 64)) = true
  rw [a, decide_eq_true (by omega)]
  rfl
/-- two lists of the same sorted pairs -/
theorem sortedK_go {K : PySem.W.Frag} {H : Hp} {R : List Lr} {xs ys : List V} {p q : Addr} (g : ∀ x ∈ R, Gd x) (hp : H p = some (.lst xs)) (hq : H q = some (.lst ys)) (dx : DzAll false H xs (srtD (R.map Lr.kd))) (dy : DzAll false H ys (srtD (R.map Lr.kd))) :
    ∃ D, Dp K H (.ref p) D ∧ Dp K H (.ref q) D ∧ SeqAt.shaped D = true := by
  obtain ⟨R', e, pm⟩ := srt_keys R
  rw [e] at dx dy
  exact ⟨.list (R'.map Lr.kd), .lst (SqL.of hp) (dz_keys dx), .lst (SqL.of hq) (dz_keys dy), keys_sh fun x hx => g x (pm.mem_iff.mp hx)⟩
theorem ints_one {l m k : List Int} (p : l.Perm k) (q : m.Perm k) (h : l.Pairwise (· ≤ ·)) (j : m.Pairwise (· ≤ ·)) : l = m :=
  (p.trans q.symm).eq_of_pairwise (fun a b _ _ x y => Int.le_antisymm x y) h j
theorem ints_go {K : PySem.W.Frag} {H : Hp} {l m k : List Int} {a b : Addr} (p : l.Perm k) (q : m.Perm k) (h : l.Pairwise (· ≤ ·)) (j : m.Pairwise (· ≤ ·)) (ha : H a = some (.lst (l.map V.int))) (hb : H b = some (.lst (m.map V.int))) :
    ∃ D, Dp K H (.ref a) D ∧ Dp K H (.ref b) D ∧ SeqAt.shaped D = true := by
  obtain rfl := ints_one p q h j
  exact ⟨.list (l.map PyData.int), .lst (SqL.of ha) (dp_ints l), .lst (SqL.of hb) (dp_ints l), shl_ok (ok_ints l)⟩
def lateR (R : List Lr) (now : Int) : List Lr := R.filter fun r => decide (r.e ≤ now)
def ofR (R : List Lr) (g : Str) : List Lr := R.filter fun r => decide (V.str r.g = V.str g)
def sp__law_told_right (K : PySem.W.Frag) : Sp := sp2 fun box seat H Q _ => ∃ b n s a d L nm cl il R xs names clubs ids m, box = .ref b ∧ seat = .ref s ∧ BoxAt n H b ∧ n < 700000 ∧ Seat K H s a d L nm cl il R xs names clubs ids m ∧ m ≤ 4000 ∧ b ∉ [s, L, nm, cl, il] ∧ L ∉ [s, nm, cl, il] ∧
  ∀ H2, But b H H2 → BoxAt (n + 4) H2 b → Q (.bl true) H2
def sp__law_all_right (K : PySem.W.Frag) : Sp := sp1 fun seat H Q _ => ∃ s a d L nm cl il R xs names clubs ids m, seat = .ref s ∧ Seat K H s a d L nm cl il R xs names clubs ids m ∧ m ≤ 4000 ∧ ∀ H2, Same H H2 → Q (.bl true) H2
def sp_law (K : PySem.W.Frag) : Sp := sp1 fun script H Q _ => ∃ (a : Addr) (ns : List Int), script = .ref a ∧ SqL K H a (ns.map V.int) ∧ ns.length ≤ 63 ∧ ∀ H2, Q (.bl true) H2
theorem keys_tk {g : Bool} {H H2 : Hp} (T : Tk H H2) : ∀ {R : List Lr} {xs : List V}, DzAll g H xs (R.map Lr.kd) → DzAll g H2 xs (R.map Lr.kd)
  | [], _, h => by cases h; exact .nil
  | r :: R, _, .cons a b => by
    refine .cons ?_ (keys_tk T b)
    unfold Lr.kd at a ⊢
    cases a with
    | tup e h =>
    cases h with
    | cons h1 h =>
    cases h with
    | cons h2 h =>
    cases h
    cases h1
    cases h2
    exact .tup (T _ _ e) (.cons (.str _) (.cons (.int _) .nil))
theorem srtk_tk {g : Bool} {H H2 : Hp} {R : List Lr} {xs : List V} (T : Tk H H2) (h : DzAll g H xs (srtD (R.map Lr.kd))) : DzAll g H2 xs (srtD (R.map Lr.kd)) := by
  obtain ⟨R', e, _⟩ := srt_keys R
  rw [e] at h ⊢
  exact keys_tk T h
theorem len_srt {H : Hp} {xs : List V} {R : List Lr} {f : Lr → PyData} (h : DzAll false H xs (srtD (R.map f))) : xs.length = R.length := by
  rw [DzAll.len h]
  unfold srtD
  rw [List.length_mergeSort, List.length_map]
theorem sw_nm {x : Str} (h : gn x = true) : Sw 0 3000 (.str x) := by
  have h := (gn_of h).1
  have h : (decide (1 ≤ x.length) && decide (x.length ≤ 8) && lowS x) = true := h
  rw [Bool.and_eq_true, Bool.and_eq_true, decide_eq_true_iff, decide_eq_true_iff] at h
  obtain ⟨⟨_, h8⟩, lo⟩ := h
  have e : (PyData.str x).shown = reprText x := by simp only [PyData.shown]
  have r := PySem.StrLaws.reprText_len x (fun c hc => by
    have := List.all_eq_true.mp lo c hc
    rw [Bool.and_eq_true, decide_eq_true_iff, decide_eq_true_iff] at this
    omega)
  exact ⟨rfl, Nat.le_refl _, by rw [e]; omega⟩
theorem sw_tok {r : Lr} (h : Gd r) : Sw 1 6008 r.tokD := by
  have t : ((decide (1 ≤ r.t1) && decide (r.t1 ≤ 999999999999)) && (decide (1 ≤ r.t2) && decide (r.t2 ≤ 999999999999))) = true := h.t
  simp only [Bool.and_eq_true, decide_eq_true_eq] at t
  obtain ⟨⟨a1, a2⟩, b1, b2⟩ := t
  refine Sw.tuple (k := 0) (B := 3000) (m := 2) (fun d hd => ?_) (by show 2 ≤ 2; decide)
  simp only [List.mem_cons, List.not_mem_nil, or_false] at hd
  rcases hd with rfl | rfl
  · exact sw_intB (by omega)
  · exact sw_intB (by omega)
theorem sw_row {r : Lr} (h : Gd r) : Sw 2 30054 r.d := by
  refine Sw.tuple (k := 1) (B := 6008) (m := 5) (fun d hd => ?_) (by show 5 ≤ 5; decide)
  simp only [List.mem_cons, List.not_mem_nil, or_false] at hd
  rcases hd with rfl | rfl | rfl | rfl | rfl
  · exact (sw_nm h.g).mono (by decide) (by decide)
  · exact (sw_intB h.bn).mono (by decide) (by decide)
  · exact (sw_nm h.m).mono (by decide) (by decide)
  · exact sw_tok h
  · exact (sw_intB h.be).mono (by decide) (by decide)
theorem sw_key {r : Lr} (h : Gd r) : Sw 2 30054 r.kd := by
  refine (Sw.tuple (k := 0) (B := 3000) (m := 2) (fun d hd => ?_) (by show 2 ≤ 2; decide)).mono (by decide) (by decide)
  simp only [List.mem_cons, List.not_mem_nil, or_false] at hd
  rcases hd with rfl | rfl
  · exact sw_nm h.g
  · exact sw_intB h.bn
theorem rows_tk {g : Bool} {H H2 : Hp} (T : Tk H H2) : ∀ {R : List Lr} {xs : List V}, DzAll g H xs (R.map Lr.d) → DzAll g H2 xs (R.map Lr.d)
  | [], _, h => by cases h; exact .nil
  | r :: R, _, .cons a b => by
    refine .cons ?_ (rows_tk T b)
    unfold Lr.d Lr.tokD at a ⊢
    cases a with
    | tup e h =>
    cases h with
    | cons h1 h =>
    cases h with
    | cons h2 h =>
    cases h with
    | cons h3 h =>
    cases h with
    | cons h4 h =>
    cases h with
    | cons h5 h =>
    cases h
    cases h1
    cases h2
    cases h3
    cases h5
    cases h4 with
    | tup e4 h =>
    cases h with
    | cons h6 h =>
    cases h with
    | cons h7 h =>
    cases h
    cases h6
    cases h7
    exact .tup (T _ _ e) (.cons (.str _) (.cons (.int _) (.cons (.str _) (.cons (.tup (T _ _ e4) (.cons (.int _) (.cons (.int _) .nil))) (.cons (.int _) .nil)))))
theorem nd_rows : ∀ R : List Lr, PyData.hasDictAll (R.map Lr.d) = false
  | [] => rfl
  | r :: R => by
    show (r.d.hasDict || PyData.hasDictAll (R.map Lr.d)) = false
    rw [nd_rows R]
    rfl
theorem nd_keys : ∀ R : List Lr, PyData.hasDictAll (R.map Lr.kd) = false
  | [] => rfl
  | r :: R => by
    show (r.kd.hasDict || PyData.hasDictAll (R.map Lr.kd)) = false
    rw [nd_keys R]
    rfl
theorem nd_ints : ∀ ks : List Int, PyData.hasDictAll (ks.map PyData.int) = false
  | [] => rfl
  | k :: ks => by
    show ((PyData.int k).hasDict || PyData.hasDictAll (ks.map PyData.int)) = false
    rw [nd_ints ks]
    rfl
theorem dz_ints {g : Bool} {H : Hp} : ∀ ks : List Int, DzAll g H (ks.map V.int) (ks.map PyData.int)
  | [] => .nil
  | k :: ks => .cons (.int k) (dz_ints ks)
/-- what is shown of one seat, new since H0 -/
def ShAt (H0 H : Hp) (v : V) (dd : PyData) : Prop := ∃ q l h e, ∃ xs zs : List V, ∃ ks : List Int, ∃ R1 R2 : List Lr, v = .ref q ∧ (∀ x ∈ [q, l, h, e], H0 x = none) ∧ H q = some (.lst [.ref l, .ref h, .ref e]) ∧ H l = some (.lst xs) ∧ DzAll false H xs (R1.map Lr.d) ∧
  H h = some (.lst (ks.map V.int)) ∧ H e = some (.lst zs) ∧ DzAll false H zs (R2.map Lr.kd) ∧ dd = .list [.list (R1.map Lr.d), .list (ks.map PyData.int), .list (R2.map Lr.kd)] ∧ Sw 4 3606742 dd
theorem ShAt.kp {H0 H H2 : Hp} {S : List Addr} {v : V} {dd : PyData} (h : ShAt H0 H v dd) (k : Kp S H H2) (nt : ∀ x ∈ S, ∀ ys, H x ≠ some (.tup ys)) (o : ∀ x ∈ S, H0 x ≠ none) : ShAt H0 H2 v dd := by
  obtain ⟨q, l, h', e, xs, zs, ks, R1, R2, rfl, nw', h1, h2, h3, h4, h5, h6, h7, h8⟩ := h
  have T := Tk.kp k nt
  have off : ∀ x ∈ [q, l, h', e], x ∉ S := fun x hx z => o x z (nw' x hx)
  exact ⟨q, l, h', e, xs, zs, ks, R1, R2, rfl, nw', k.at (off _ (by simp)) h1, k.at (off _ (by simp)) h2, rows_tk T h3, k.at (off _ (by simp)) h4, k.at (off _ (by simp)) h5, keys_tk T h6, h7, h8⟩
theorem ShAt.dz {H0 H : Hp} {v : V} {dd : PyData} (h : ShAt H0 H v dd) : Dz false H v dd := by
  obtain ⟨q, l, h', e, xs, zs, ks, R1, R2, rfl, nw', h1, h2, h3, h4, h5, h6, rfl, h8⟩ := h
  exact .lst h1 (fun z => by cases z) (.cons (.lst h2 (fun z => by cases z) h3) (.cons (.lst h4 (fun z => by cases z) (dz_ints ks)) (.cons (.lst h5 (fun z => by cases z) h6) .nil)))
theorem ShAt.nd {H0 H : Hp} {v : V} {dd : PyData} (h : ShAt H0 H v dd) : dd.hasDict = false := by
  obtain ⟨q, l, h', e, xs, zs, ks, R1, R2, rfl, nw', h1, h2, h3, h4, h5, h6, rfl, h8⟩ := h
  show ((PyData.hasDictAll (R1.map Lr.d)) || ((PyData.hasDictAll (ks.map PyData.int)) || ((PyData.hasDictAll (R2.map Lr.kd)) || false))) = false
  rw [nd_rows, nd_keys, nd_ints]
  rfl
theorem ShAt.mk {H0 H : Hp} {q l h e : Addr} {xs zs : List V} {ks : List Int} {R : List Lr} {c : Str} {t : Int} (gd : ∀ x ∈ R, Gd x) (ln : R.length ≤ 40) (f : ∀ x ∈ [q, l, h, e], H0 x = none) (hq : H q = some (.lst [.ref l, .ref h, .ref e])) (hl : H l = some (.lst xs)) (dx : DzAll false H xs (srtD (R.map Lr.d)))
    (hh : H h = some (.lst (ks.map V.int))) (pm : ks.Perm ((ofR R c).map (·.n))) (he : H e = some (.lst zs)) (dz : DzAll false H zs (srtD ((lateR R t).map Lr.kd))) : ∃ dd, ShAt H0 H (.ref q) dd := by
  obtain ⟨R1, e1, p1⟩ := srt_rows R
  obtain ⟨R2, e2, p2⟩ := srt_keys (lateR R t)
  rw [e1] at dx
  rw [e2] at dz
  have g2 : ∀ x ∈ R2, Gd x := fun x hx => gd x (List.mem_filter.mp (p2.mem_iff.mp hx)).1
  refine ⟨_, q, l, h, e, xs, zs, ks, R1, R2, rfl, f, hq, hl, dx, hh, he, dz, rfl, ?_⟩
  refine Sw.list (k := 3) (B := 1202244) (m := 3) (fun d hd => ?_) (by show 3 ≤ 3; decide)
  simp only [List.mem_cons, List.not_mem_nil, or_false] at hd
  rcases hd with rfl | rfl | rfl
  · refine Sw.list (k := 2) (B := 30054) (m := 40) (fun d hd => ?_) (by rw [List.length_map, p1.length_eq]; exact ln)
    obtain ⟨x, hx, rfl⟩ := List.mem_map.mp hd
    exact sw_row (gd x (p1.mem_iff.mp hx))
  · refine Sw.list (k := 2) (B := 30054) (m := 40) (fun d hd => ?_) (by rw [List.length_map, pm.length_eq, List.length_map]; exact Nat.le_trans (List.length_filter_le _ _) ln)
    obtain ⟨x, hx, rfl⟩ := List.mem_map.mp hd
    obtain ⟨r, hr, rfl⟩ := List.mem_map.mp (pm.mem_iff.mp hx)
    exact (sw_intB (gd r (List.mem_filter.mp hr).1).bn).mono (by decide) (by decide)
  · refine Sw.list (k := 2) (B := 30054) (m := 40) (fun d hd => ?_) (by rw [List.length_map, p2.length_eq]; exact Nat.le_trans (List.length_filter_le _ _) ln)
    obtain ⟨x, hx, rfl⟩ := List.mem_map.mp hd
    exact sw_key (g2 x hx)
inductive ShAll (H0 H : Hp) : List V → List PyData → Prop
  | nil : ShAll H0 H [] []
  | snoc {vs : List V} {ds : List PyData} {v : V} {d : PyData} : ShAll H0 H vs ds → ShAt H0 H v d → ShAll H0 H (vs ++ [v]) (ds ++ [d])
theorem ShAll.kp {H0 H H2 : Hp} {S : List Addr} {vs : List V} {ds : List PyData} (h : ShAll H0 H vs ds) (k : Kp S H H2) (nt : ∀ x ∈ S, ∀ ys, H x ≠ some (.tup ys)) (o : ∀ x ∈ S, H0 x ≠ none) : ShAll H0 H2 vs ds := by
  induction h with
  | nil => exact .nil
  | snoc _ a ih => exact .snoc ih (a.kp k nt o)
theorem dz_snoc {g : Bool} {H : Hp} {v : V} {d : PyData} (a : Dz g H v d) : ∀ {vs : List V} {ds : List PyData}, DzAll g H vs ds → DzAll g H (vs ++ [v]) (ds ++ [d])
  | _, _, .nil => .cons a .nil
  | _, _, .cons h t => .cons h (dz_snoc a t)
theorem ShAll.dz {H0 H : Hp} {vs : List V} {ds : List PyData} (h : ShAll H0 H vs ds) : DzAll false H vs ds := by
  induction h with
  | nil => exact .nil
  | snoc _ a ih => exact dz_snoc a.dz ih
theorem ShAll.sw {H0 H : Hp} {vs : List V} {ds : List PyData} (h : ShAll H0 H vs ds) : (∀ d ∈ ds, Sw 4 3606742 d ∧ d.hasDict = false) ∧ ds.length = vs.length := by
  induction h with
  | nil => exact ⟨fun d hd => (by cases hd), rfl⟩
  | snoc _ a ih =>
    refine ⟨fun d hd => ?_, by rw [List.length_append, List.length_append, ih.2]; rfl⟩
    rcases List.mem_append.mp hd with hd | hd
    · exact ih.1 d hd
    · rw [List.mem_singleton.mp hd]
      obtain ⟨q, l, h', e, xs, zs, ks, R1, R2, _, _, _, _, _, _, _, _, _, h8⟩ := id a
      exact ⟨h8, a.nd⟩
theorem nd_all : ∀ {ds : List PyData}, (∀ d ∈ ds, d.hasDict = false) → PyData.hasDictAll ds = false
  | [], _ => rfl
  | d :: ds, h => by
    show (d.hasDict || PyData.hasDictAll ds) = false
    rw [h d List.mem_cons_self, nd_all fun x hx => h x (List.mem_cons_of_mem _ hx)]
    rfl
/-- the shown list as data: what repr asks for -/
theorem ShAll.repr {H0 H : Hp} {p : Addr} {vs : List V} {ds : List PyData} (h : ShAll H0 H vs ds) (hp : H p = some (.lst vs)) (l : vs.length ≤ 2) : Dz false H (.ref p) (.list ds) ∧ ((PyData.list ds).hasDict = true → false = true) ∧ (PyData.list ds).showable = true ∧ (PyData.list ds).depth ≤ 60 ∧ (PyData.list ds).shown.length ≤ sizeLine := by
  obtain ⟨sw, e⟩ := h.sw
  have s := Sw.list (k := 4) (B := 3606742) (m := 2) (fun d hd => (sw d hd).1) (by omega)
  refine ⟨.lst hp (fun z => by cases z) h.dz, fun z => ?_, s.sh, Nat.le_trans s.dp (by decide), sz (Nat.le_trans s.ln (by decide))⟩
  have : (PyData.list ds).hasDict = false := nd_all fun d hd => (sw d hd).2
  rw [this] at z
  exact z
/-- the fixed parts of a seat -/
structure Sa where
  s : Addr
  a : Addr
  d : Addr
  L : Addr
  n : Addr
  c : Addr
  i : Addr
  names : List Str
  clubs : List Str
  ids : List Int
def Sa.all (A : Sa) : List Addr := [A.s, A.a, A.d, A.L, A.n, A.c, A.i]
def Sa.At (K : PySem.W.Frag) (H : Hp) (A : Sa) (m : Nat) : Prop := ∃ R xs, Seat K H A.s A.a A.d A.L A.n A.c A.i R xs A.names A.clubs A.ids m
theorem Sa.At.same {K : PySem.W.Frag} {H H2 : Hp} {A : Sa} {m : Nat} (h : A.At K H m) (s : Same H H2) : A.At K H2 m := by
  obtain ⟨R, xs, h⟩ := h
  exact ⟨R, xs, h.same s⟩
theorem Sa.At.kp {K : PySem.W.Frag} {H H2 : Hp} {A : Sa} {m : Nat} {S : List Addr} (h : A.At K H m) (k : Kp S H H2) (nt : ∀ x ∈ S, ∀ ys, H x ≠ some (.tup ys)) (o : ∀ x ∈ A.all, x ∉ S) : A.At K H2 m := by
  obtain ⟨R, xs, h⟩ := h
  exact ⟨R, xs, h.kp k nt o⟩
theorem Sa.At.mono {K : PySem.W.Frag} {H : Hp} {A : Sa} {m m' : Nat} (h : A.At K H m) (e : m ≤ m') : A.At K H m' := by
  obtain ⟨R, xs, h⟩ := h
  exact ⟨R, xs, h.mono e⟩
/-- how the two seats lie -/
structure Far (Hb : Hp) (b SS : Addr) (A B : Sa) : Prop where
  hb : Hb b = none
  nA : ∀ x ∈ A.all, Hb x = none
  nB : ∀ x ∈ B.all, Hb x = none
  bA : b ∉ [A.s, A.L, A.n, A.c, A.i]
  bB : b ∉ [B.s, B.L, B.n, B.c, B.i]
  LA : A.L ∉ [A.s, A.n, A.c, A.i]
  LB : B.L ∉ [B.s, B.n, B.c, B.i]
  dis : ∀ x ∈ A.all, x ∉ B.all
  sA : SS ∉ A.all
  sB : SS ∉ B.all
  sb : SS ≠ b
theorem Far.swap {Hb : Hp} {b SS : Addr} {A B : Sa} (h : Far Hb b SS A B) : Far Hb b SS B A := ⟨h.hb, h.nB, h.nA, h.bB, h.bA, h.LB, h.LA, fun x hx hy => h.dis x hy hx, h.sB, h.sA, h.sb⟩
structure Two (K : PySem.W.Frag) (Hb H : Hp) (b SS u v : Addr) (A B : Sa) (m n : Nat) : Prop where
  sb : Same Hb H
  bx : BoxAt n H b
  ss : H SS = some (.lst [.ref u, .ref v])
  a : A.At K H m
  b : B.At K H m
theorem Two.swap {K : PySem.W.Frag} {Hb H : Hp} {b SS u v : Addr} {A B : Sa} {m n : Nat} (h : Two K Hb H b SS u v A B m n) : Two K Hb H b SS u v B A m n := ⟨h.sb, h.bx, h.ss, h.b, h.a⟩
theorem Two.same {K : PySem.W.Frag} {Hb H H2 : Hp} {b SS u v : Addr} {A B : Sa} {m n : Nat} (h : Two K Hb H b SS u v A B m n) (s : Same H H2) : Two K Hb H2 b SS u v A B m n := ⟨h.sb.trans s, h.bx.same s, s _ _ h.ss, h.a.same s, h.b.same s⟩
theorem Two.mono {K : PySem.W.Frag} {Hb H : Hp} {b SS u v : Addr} {A B : Sa} {m n n' : Nat} (h : Two K Hb H b SS u v A B m n) (e : n ≤ n') : Two K Hb H b SS u v A B m n' := ⟨h.sb, h.bx.mono e, h.ss, h.a, h.b⟩
theorem Sa.At.box {K : PySem.W.Frag} {H H2 : Hp} {A : Sa} {m n : Nat} {b : Addr} (h : A.At K H m) (B : BoxAt n H b) (nb : b ∉ [A.s, A.L, A.n, A.c, A.i]) (t : But b H H2) : A.At K H2 m := by
  obtain ⟨R, xs, h⟩ := h
  exact ⟨R, xs, h.box B nb t⟩
theorem Two.box {K : PySem.W.Frag} {Hb H H2 : Hp} {b SS u v : Addr} {A B : Sa} {m n n' : Nat} (h : Two K Hb H b SS u v A B m n) (far : Far Hb b SS A B) (t : But b H H2) (x : BoxAt n' H2 b) : Two K Hb H2 b SS u v A B m n' :=
  ⟨fun p o e => t p o (ne_of_none e far.hb) (h.sb p o e), x, t _ _ far.sb h.ss, h.a.box h.bx far.bA t, h.b.box h.bx far.bB t⟩
theorem Two.nt {K : PySem.W.Frag} {Hb H : Hp} {b SS u v : Addr} {A B : Sa} {m n : Nat} (h : Two K Hb H b SS u v A B m n) : ∀ x ∈ ([b, A.d, A.L] : List Addr), (∀ ys, H x ≠ some (.tup ys)) ∧ H x ≠ none := by
  obtain ⟨R, xs, se⟩ := h.a
  obtain ⟨_, _, _, _, _, hd, _⟩ := se.ls.ex
  obtain ⟨zs, hb⟩ := box_lst h.bx
  intro x hx
  simp only [List.mem_cons, List.not_mem_nil, or_false] at hx
  rcases hx with rfl | rfl | rfl
  · refine ⟨fun ys e => ?_, fun e => ?_⟩ <;> (rw [hb] at e; cases e)
  · refine ⟨fun ys e => ?_, fun e => ?_⟩ <;> (rw [hd] at e; cases e)
  · refine ⟨fun ys e => ?_, fun e => ?_⟩ <;> (rw [se.hL] at e; cases e)
theorem Two.did {K : PySem.W.Frag} {Hb H H2 : Hp} {b SS u v : Addr} {A B : Sa} {m n n' : Nat} (h : Two K Hb H b SS u v A B m n) (far : Far Hb b SS A B) (k : Kp [b, A.d, A.L] H H2) (x : BoxAt n' H2 b) (a : A.At K H2 (m + 1)) : Two K Hb H2 b SS u v A B (m + 1) n' := by
  have nd : Hb A.d = none := far.nA _ (by simp [Sa.all])
  have nL : Hb A.L = none := far.nA _ (by simp [Sa.all])
  obtain ⟨R, xs, se⟩ := h.b
  refine ⟨fun p o e => k.at (by
    simp only [List.mem_cons, List.not_mem_nil, or_false, not_or]
    exact ⟨ne_of_none e far.hb, ne_of_none e nd, ne_of_none e nL⟩) (h.sb p o e), x, k.at (by
    simp only [List.mem_cons, List.not_mem_nil, or_false, not_or]
    exact ⟨far.sb, fun z => far.sA (by rw [z]; simp [Sa.all]), fun z => far.sA (by rw [z]; simp [Sa.all])⟩) h.ss, a, (h.b.kp k (fun x hx => (h.nt x hx).1) fun x hx => ?_).mono (Nat.le_succ m)⟩
  have o := se.bx h.bx far.bB x hx
  simp only [List.mem_cons, List.not_mem_nil, or_false, not_or] at o ⊢
  exact ⟨o, fun z => far.dis A.d (by simp [Sa.all]) (z ▸ hx), fun z => far.dis A.L (by simp [Sa.all]) (z ▸ hx)⟩
section
variable {P : Program} {w : World} {K : PySem.W.Frag} {mg : Str → Option Value} {base : Heap}
variable {e_InvalidName e_InvalidNumber e_InvalidCount e_Held e_QueueError e_Leases : Addr}
/-! ### _law_box(_law_great), level 1 -/
abbrev s__law_box : Stmt := top 22
abbrev N__law_box : List Str := ["_law_great"]
theorem sc__law_box : FnScope N__law_box ["_law_great"] (defScope s__law_box) := ⟨rfl, rfl, rfl, by decide +kernel, rfl, by decide +kernel, by decide +kernel⟩
theorem ok__law_box (T : Txt K mg e_InvalidName e_InvalidNumber e_InvalidCount e_Held e_QueueError e_Leases) (D : Df K mg "_law_box" s__law_box ["_law_great"]) : Ct P w K mg base CX0 1 "_law_box" ["_law_great"] (sp__law_box K) := by
  refine ct1 D sc__law_box fun f cdv A outer s H a_great Q E hr h => ⟨_, (pss_one (ps_ret (pe_lz (pa_cons (pe_callB c_abs (by rfl) T.n_abs bt_abs (pa_cons (pz 0) pa_nil)) (pa_cons (pe_cmpR o_ge (pe_callB c_abs (by rfl) T.n_abs bt_abs (pa_cons (pz 0) pa_nil)) (pe_op o_pow pe_int pe_int) (nomark _)) (pa_cons (pe_op o_mod (pe_callTy c_int (by rfl) T.n_int bt_int (pa_cons (pe_callB c_abs (by rfl) T.n_abs bt_abs (pa_cons (pz 0) pa_nil)) pa_nil)) pe_int) (pa_cons pe_int pa_nil))))))), ?_⟩
  obtain ⟨g, rfl, k⟩ := h
  refine ⟨⟨by decide, by decide, by decide⟩, by show (0 : Int) < _; decide, by show 4 ≤ sizeLine; decide, fun b H2 n => ?_⟩
  refine k b H2 n.fresh n.same ⟨_, _, _, _, n.here, ?_, ?_, ?_, by decide, by decide⟩
  · split <;> omega
  · exact Int.emod_nonneg _ (by decide)
  · have := Int.emod_lt_of_pos (if g < 0 then -g else g) (show (0 : Int) < 2147483629 by decide)
    omega

/-! ### _law_cell(_law_script, _law_k), level 1 -/
abbrev s__law_cell : Stmt := top 21
abbrev N__law_cell : List Str := ["_law_script", "_law_k"]
theorem sc__law_cell : FnScope N__law_cell ["_law_script", "_law_k"] (defScope s__law_cell) := ⟨rfl, rfl, rfl, by decide +kernel, rfl, by decide +kernel, by decide +kernel⟩
theorem ok__law_cell (T : Txt K mg e_InvalidName e_InvalidNumber e_InvalidCount e_Held e_QueueError e_Leases) (D : Df K mg "_law_cell" s__law_cell ["_law_script", "_law_k"]) : Ct P w K mg base CX0 1 "_law_cell" ["_law_script", "_law_k"] (sp__law_cell K) := by
  refine ct2 D sc__law_cell fun f cdv A outer s H a_script a_k Q E hr h => ⟨_, (pss_one (ps_ret (pe_ifExp (pt_cmpZ o_ltS (pz 1) (pe_callB (k_len K) (by rfl) T.n_len bt_len (pa_cons (pz 0) pa_nil)) (nomark _)) (pe_ix (k_ix K) (pz 0) (pz 1) (fun _ _ => rfl)) (pe_op (k_add K) (pe_op o_mul pe_int (pz 1)) (pe_op o_mod (pe_callB (k_sum K rfl) (by rfl) T.n_sum bt_sum (pa_cons (pe_slice (k_sl K) (pz 0) po_none (po_z pe_int)) pa_nil)) pe_int))))), ?_⟩
  obtain ⟨a, i, ns, rfl, rfl, h0, h1, hS, hl, k⟩ := h
  refine .inl ⟨_, .inl hS, ?_⟩
  refine ite2 (fun hc => ?_) (fun hc => ?_)
  · have hi : i < (ns.map V.int).length := by simpa using hc
    rw [List.length_map] at hi
    refine ⟨_, V.int (ns.getD i.toNat 0), .inl hS, ?_, k _ _ (Same.refl _)⟩
    have e : i = ((i.toNat : Nat) : Int) := by omega
    rw [e]
    refine atI_nat ?_
    rw [Int.toNat_natCast, List.getElem?_map, List.getElem?_eq_getElem (by omega)]
    simp [List.getD, List.getElem?_eq_getElem (show i.toNat < ns.length by omega)]
  · refine ⟨.inr ⟨by omega, by omega⟩, .inl ⟨_, hS, fun p H2 n => ?_⟩⟩
    have e : cutV (ns.map V.int) none (some 1) = (ns.take 1).map V.int := by
      cases ns with
      | nil => rfl
      | cons x r => simp [cutV, HT.sIx]
    rw [e] at n
    exact ⟨_, SqL.of n.here, by show (0 : Int) < _; decide, k _ _ n.same⟩

/-! ### _law_take(_law_box_here, _law_many), level 1 -/
abbrev s__law_take : Stmt := top 23
abbrev N__law_take : List Str := ["_law_box_here", "_law_many", "_law_digit", "_law_mixed_here"]
theorem sc__law_take : FnScope N__law_take ["_law_box_here", "_law_many"] (defScope s__law_take) := ⟨rfl, rfl, rfl, by decide +kernel, rfl, by decide +kernel, by decide +kernel⟩
theorem ok__law_take (T : Txt K mg e_InvalidName e_InvalidNumber e_InvalidCount e_Held e_QueueError e_Leases) (D : Df K mg "_law_take" s__law_take ["_law_box_here", "_law_many"]) : Ct P w K mg base CX0 1 "_law_take" ["_law_box_here", "_law_many"] (sp__law_take K) := by
  refine ct2 D sc__law_take fun f cdv A outer s H a_box_here a_many Q E hr h => ⟨_, (pss_cons (ps_if (PW.pt (pw_and (pt_trK K (pe_ix (k_ix K) (pz 0) pe_int (fun _ _ => rfl))) (pw_and1 (pt_cmpZ o_gtS (pe_ix (k_ix K) (pz 0) pe_int (fun _ _ => rfl)) pe_int (nomark _))))) 
      (pss_cons (ps_set (i := 2) sc__law_take.nd rfl (Or.inl rfl) (pe_op o_mod (pe_callTy c_int (by rfl) T.n_int bt_int (pa_cons (pe_ix (k_ix K) (pz 0) pe_int (fun _ _ => rfl)) pa_nil)) (pz 1)))
      (pss_cons (ps_asg (pe_op o_fdiv (pe_ix (k_ix K) (pz 0) pe_int (fun _ _ => rfl)) (pz 1)) (pg_sub (pz 0) pe_int s_list))
      (pss_one (ps_ret (pz 2))))) pss_nil)
    (pss_cons (ps_asg (pe_op (k_add K) (pe_ix (k_ix K) (pz 0) pe_int (fun _ _ => rfl)) pe_int) (pg_sub (pz 0) pe_int s_list))
    (pss_cons (ps_set (i := 3) sc__law_take.nd rfl (Or.inl rfl) (pe_op o_mod (pe_callTy c_int (by rfl) T.n_int bt_int (pa_cons (pe_op o_pow (pe_op (k_add K) (pe_op (k_add K) (pe_ix (k_ix K) (pz 0) pe_int (fun _ _ => rfl)) (pe_op o_mul pe_int (pe_ix (k_ix K) (pz 0) pe_int (fun _ _ => rfl)))) pe_int) pe_int) pa_nil)) pe_int))
    (pss_one (ps_ret (pe_op o_mod (pe_op o_fdiv (pe_op o_mod (pe_callTy c_int (by rfl) T.n_int bt_int (pa_cons (pe_op o_pow (pe_op (k_add K) (pe_op o_mul (pz 3) pe_int) (pe_op o_mul pe_int (pe_ix (k_ix K) (pz 0) pe_int (fun _ _ => rfl)))) pe_int) pa_nil)) pe_int) pe_int) (pz 1))))))), ?_⟩
  obtain ⟨b, m, n, rfl, rfl, hm, hm2, hB, hn, k⟩ := h
  obtain ⟨g, f1, s1, c, hb, g0, s0, s2, c0, c1⟩ := id hB
  have two : (2 : Int) ^ 64 = 18446744073709551616 := by decide
  refine ⟨_, _, .inl (SqL.of hb), rfl, ?_⟩
  refine ite2 (fun h1 => ?_) (fun h1 => ?_)
  · refine ⟨_, _, .inl (SqL.of hb), rfl, ?_⟩
    refine ite2 (fun h2 => ?_) (fun h2 => ?_)
    · refine ⟨_, _, .inl (SqL.of hb), rfl, hm, ?_⟩
      refine ⟨_, _, .inl (SqL.of hb), rfl, ⟨hm, by omega⟩, ?_⟩
      refine ⟨_, 0, hb, rfl, fun H2 w => ?_⟩
      have hg : 0 < g := by simpa using h2
      exact k _ H2 w.but ⟨_, _, _, _, w.here, Int.ediv_nonneg g0 (by omega), s0, s2, c0, by omega⟩ (Int.emod_nonneg _ (by omega)) (Int.emod_lt_of_pos _ hm)
    · refine ⟨_, _, .inl (SqL.of hb), rfl, ?_⟩
      refine ⟨_, 3, hb, rfl, fun H2 w => ?_⟩
      refine ⟨_, _, .inl (SqL.of w.here), rfl, ?_⟩
      refine ⟨_, _, .inl (SqL.of w.here), rfl, .inl ⟨by omega, by omega⟩, ?_⟩
      refine ⟨⟨by decide, by decide, by omega⟩, by show (0 : Int) < _; decide, ?_⟩
      have q1 := Int.emod_nonneg ((s1 + 15485863 * (c + 1) + 179424697) ^ (5 : Int).toNat) (show (2147483647 : Int) ≠ 0 by decide)
      have q2 := Int.emod_lt_of_pos ((s1 + 15485863 * (c + 1) + 179424697) ^ (5 : Int).toNat) (show (0 : Int) < 2147483647 by decide)
      refine ⟨.inr ⟨by omega, by omega⟩, ?_⟩
      refine ⟨_, _, .inl (SqL.of w.here), rfl, .inl ⟨by omega, by omega⟩, ?_⟩
      generalize (s1 + 15485863 * (c + 1) + 179424697) ^ (5 : Int).toNat % 2147483647 = z at q1 q2 ⊢
      refine ⟨⟨by decide, by decide, by omega⟩, by show (0 : Int) < _; decide, ⟨by show (0 : Int) < _; decide, by show _ < (1073741824 : Int); decide⟩, hm, ?_⟩
      exact k _ H2 w.but ⟨_, _, _, _, w.here, g0, s0, s2, by omega, by omega⟩ (Int.emod_nonneg _ (by omega)) (Int.emod_lt_of_pos _ hm)
  · refine iteF ?_
    refine ⟨_, _, .inl (SqL.of hb), rfl, ?_⟩
    refine ⟨_, 3, hb, rfl, fun H2 w => ?_⟩
    refine ⟨_, _, .inl (SqL.of w.here), rfl, ?_⟩
    refine ⟨_, _, .inl (SqL.of w.here), rfl, .inl ⟨by omega, by omega⟩, ?_⟩
    refine ⟨⟨by decide, by decide, by omega⟩, by show (0 : Int) < _; decide, ?_⟩
    have q1 := Int.emod_nonneg ((s1 + 15485863 * (c + 1) + 179424697) ^ (5 : Int).toNat) (show (2147483647 : Int) ≠ 0 by decide)
    have q2 := Int.emod_lt_of_pos ((s1 + 15485863 * (c + 1) + 179424697) ^ (5 : Int).toNat) (show (0 : Int) < 2147483647 by decide)
    refine ⟨.inr ⟨by omega, by omega⟩, ?_⟩
    refine ⟨_, _, .inl (SqL.of w.here), rfl, .inl ⟨by omega, by omega⟩, ?_⟩
    generalize (s1 + 15485863 * (c + 1) + 179424697) ^ (5 : Int).toNat % 2147483647 = z at q1 q2 ⊢
    refine ⟨⟨by decide, by decide, by omega⟩, by show (0 : Int) < _; decide, ⟨by show (0 : Int) < _; decide, by show _ < (1073741824 : Int); decide⟩, hm, ?_⟩
    exact k _ H2 w.but ⟨_, _, _, _, w.here, g0, s0, s2, by omega, by omega⟩ (Int.emod_nonneg _ (by omega)) (Int.emod_lt_of_pos _ hm)

/-! ### _law_mixed(_law_box_here, _law_items), level 2 -/
abbrev s__law_mixed : Stmt := top 24
abbrev N__law_mixed : List Str := ["_law_box_here", "_law_items", "_law_left", "_law_found"]
theorem sc__law_mixed : FnScope N__law_mixed ["_law_box_here", "_law_items"] (defScope s__law_mixed) := ⟨rfl, rfl, rfl, by decide +kernel, rfl, by decide +kernel, by decide +kernel⟩
theorem ok__law_mixed (T : Txt K mg e_InvalidName e_InvalidNumber e_InvalidCount e_Held e_QueueError e_Leases) (C__law_take : Ct P w K mg base CX0 1 "_law_take" ["_law_box_here", "_law_many"] (sp__law_take K)) (D : Df K mg "_law_mixed" s__law_mixed ["_law_box_here", "_law_items"]) : Ct P w K mg base CX0 2 "_law_mixed" ["_law_box_here", "_law_items"] (sp__law_mixed K) := by
  refine ct2 D sc__law_mixed fun f cdv A outer s H a_box_here a_items Q E hr h => ⟨_, (pss_cons (ps_parZ (i := 2) (j := 3) (by rfl) sc__law_mixed.nd rfl rfl (by decide) rfl rfl (pa_cons (pe_callTy (k_list K) (by rfl) T.n_list bt_list (pa_cons (pz 1) pa_nil)) (pa_cons (pe_lz pa_nil) pa_nil)) (by rfl))
    (pss_cons (ps_while PassesOwn.never (pt_cmpZ (k_ne K hr.units) (pz 2) (pe_lz pa_nil) (nomark _)) 
      (pss_one (ps_expr (pe_mlK K PySem.F.slot_list_append PySem.F.type_list_append m_append (pz 3) (pa_cons (pe_mlK K PySem.F.slot_list_pop PySem.F.type_list_pop m_popA (pz 2) (pa_cons (pe_cl C__law_take (hr.mono (by decide)) pass0 (pa_cons (pz 0) (pa_cons (pe_callB (k_len K) (by rfl) T.n_len bt_len (pa_cons (pz 2) pa_nil)) pa_nil))) pa_nil)) pa_nil)))))
    (pss_one (ps_ret (pz 3))))), ?_⟩
  obtain ⟨b, n, p, ts, rfl, rfl, hB, hn, hp, lt, gt, q⟩ := h
  refine ⟨_, .inl (SqL.of hp), fun l H1 n1 => ?_⟩
  refine ⟨by show 0 ≤ sizeLine; decide, fun f2 H2 n2 => ?_⟩
  have bl : b ≠ l := hB.ne n1.fresh
  have bf : b ≠ f2 := (hB.same n1.same).ne n2.fresh
  have lf2 : l ≠ f2 := ne_of_none n1.here n2.fresh
  have fl0 : H l = none := n1.fresh
  have ff0 : H f2 = none := n1.same.free n2.fresh
  refine ⟨fun m σ H' => ∃ lf fd : List Str, m = lf.length ∧ (fd ++ lf).Perm ts ∧ But b H H' ∧ BoxAt (n + fd.length) H' b ∧ H' l = some (.lst (lf.map V.str)) ∧ H' f2 = some (.lst (fd.map V.str)) ∧ σ = [some (.ref b), some (.ref p), some (.ref l), some (.ref f2)], ⟨_, ts, [], rfl, List.Perm.refl _, But.of (n1.same.trans n2.same), hB.same (n1.same.trans n2.same), n2.keep n1.here, n2.here, rfl⟩, ?_⟩
  rintro m σ H' ⟨lf, fd, rfl, pm, t, B, hl, hf, rfl⟩
  refine ⟨by show 0 ≤ sizeLine; decide, fun p3 H3 n3 => ?_⟩
  have glf : lf.all gn = true := List.all_eq_true.mpr fun x hx => List.all_eq_true.mp gt x (pm.mem_iff.mp (List.mem_append_right _ hx))
  refine ⟨.list (lf.map .str), .list [], .lst (SqL.of (n3.keep hl)) (dp_strv lf), .lst (SqL.of n3.here) .nil, shl_ok (ok_strv glf), shl_ok (ds := []) rfl, ?_⟩
  rw [eqv_nil]
  have lp := pm.length_eq
  rw [List.length_append] at lp
  have t3 := t.trans (But.of n3.same)
  have B3 := B.same n3.same
  cases lf with
  | nil =>
    rw [List.append_nil] at pm
    exact q fd f2 H3 pm t3 (B3.mono (by rw [pm.length_eq]; exact Nat.le_refl _)) ff0 (n3.keep hf)
  | cons y0 lr =>
    refine ⟨fun σ' H'' => ∃ m', m' < (y0 :: lr).length ∧ ∃ lf fd : List Str, m' = lf.length ∧ (fd ++ lf).Perm ts ∧ But b H H'' ∧ BoxAt (n + fd.length) H'' b ∧ H'' l = some (.lst (lf.map V.str)) ∧ H'' f2 = some (.lst (fd.map V.str)) ∧ σ' = [some (.ref b), some (.ref p), some (.ref l), some (.ref f2)], fun _ _ h => h, ?_⟩
    refine ⟨⟨_, SqL.of (n3.keep hf)⟩, ?_⟩
    refine ⟨⟨_, SqL.of (n3.keep hl)⟩, ?_⟩
    refine .inl ⟨_, .inl (SqL.of (n3.keep hl)), ?_⟩
    rw [List.length_map]
    have ll : (y0 :: lr).length ≤ 10 := by omega
    refine ⟨b, _, _, rfl, rfl, by simp, by omega, B3, by omega, fun r H4 t4 B4 r0 r1 => ?_⟩
    have hl4 := t4.at bl.symm (n3.keep hl)
    have hf4 := t4.at bf.symm (n3.keep hf)
    have rl : r.toNat < (y0 :: lr).length := by omega
    refine ⟨_, r.toNat, .str ((y0 :: lr)[r.toNat]'rl), hl4, by omega, by omega, by rw [List.length_map]; exact ix_in r0 r1, by rw [List.getElem?_map, List.getElem?_eq_getElem rl]; rfl, fun H5 w5 => ?_⟩
    have hf5 := w5.keep lf2.symm hf4
    refine ⟨_, hf5, by rw [List.length_map]; exact Nat.lt_of_le_of_lt (show fd.length ≤ 10 by omega) (by decide), fun H6 w6 => ?_⟩
    refine ⟨((y0 :: lr).eraseIdx r.toNat).length, by rw [List.length_eraseIdx_of_lt rl]; simp, (y0 :: lr).eraseIdx r.toNat, fd ++ [(y0 :: lr)[r.toNat]'rl], rfl, ?_, ?_, ?_, ?_, ?_, rfl⟩
    · rw [List.append_assoc]
      exact (List.Perm.append_left fd (perm_cut rl)).trans pm
    · exact fun x o ne e => w6.keep (ne_of_none e ff0) (w5.keep (ne_of_none e fl0) (t4.at ne (t3.at ne e)))
    · rw [List.length_append]
      exact (B4.wr bl w5).wr bf w6
    · rw [w6.keep lf2 w5.here]
      rw [DT.map_erase]
    · rw [w6.here, List.map_append]
      rfl

/-! ### Leases___init__(self), level 1 -/
abbrev s_Leases___init__ : Stmt := (clsB (top 19)).getD 0 (.Pass ⟨0, 0, 0, 0⟩)
abbrev N_Leases___init__ : List Str := ["self"]
theorem sc_Leases___init__ : FnScope N_Leases___init__ ["self"] (defScope s_Leases___init__) := ⟨rfl, rfl, rfl, by decide +kernel, rfl, by decide +kernel, by decide +kernel⟩
theorem ok_Leases___init__ (T : Txt K mg e_InvalidName e_InvalidNumber e_InvalidCount e_Held e_QueueError e_Leases) {fI : Addr} {fd : FuncData} (F : Fun K "__init__" "Leases.__init__" s_Leases___init__ fI fd) : FnOk P w K mg base CX0 1 fI fd ["self"] (sp_Leases___init__ K) := by
  refine ini1 F sc_Leases___init__ fun cdv A outer s H a_self Q E hr h => ⟨_, (pss_one (ps_fdC T.k_Leases T.f_Leases__rows (pz 0) pe_dnewT)), ?_⟩
  obtain ⟨a, C, dx, rfl, hc, h1, q⟩ := h
  obtain rfl := hc.one T.a_Leases
  refine fun d hd => ?_
  have n1 := nw (o := .dT []) hd
  generalize upd H d (.dT []) = H1 at n1
  refine ⟨_, _, n1.keep h1, by decide, fun H2 w2 => ?_⟩
  have nda : d ≠ a := fun z => by rw [z, h1] at hd; cases hd
  exact q d H2 hd (Kp.wr (Kp.same n1.same) (by simp) w2) ⟨_, _, _, hc, w2.here, w2.keep nda n1.here, .nil⟩

/-! ### _law_seat(_law_box_here), level 3 -/
abbrev s__law_seat : Stmt := top 25
abbrev N__law_seat : List Str := ["_law_box_here", "_law_names", "_law_clubs"]
theorem sc__law_seat : FnScope N__law_seat ["_law_box_here"] (defScope s__law_seat) := ⟨rfl, rfl, rfl, by decide +kernel, rfl, by decide +kernel, by decide +kernel⟩
theorem ok__law_seat (T : Txt K mg e_InvalidName e_InvalidNumber e_InvalidCount e_Held e_QueueError e_Leases) (C__law_take : Ct P w K mg base CX0 1 "_law_take" ["_law_box_here", "_law_many"] (sp__law_take K)) (C__law_mixed : Ct P w K mg base CX0 2 "_law_mixed" ["_law_box_here", "_law_items"] (sp__law_mixed K)) (N_Leases : Kn P w K mg base 1 "Leases" e_Leases (sp_Leases___init__ K)) (D : Df K mg "_law_seat" s__law_seat ["_law_box_here"]) : Ct P w K mg base CX0 3 "_law_seat" ["_law_box_here"] (sp__law_seat K) := by
  refine ct1 D sc__law_seat fun f cdv A outer s H a_box_here Q E hr h => ⟨_, (pss_cons (ps_set (i := 1) sc__law_seat.nd rfl (Or.inl rfl) (pe_op (k_add K) (pe_lz (pa_cons pe_str pa_nil)) (pe_slice (k_sl K) (pe_cl C__law_mixed (hr.mono (by decide)) pass0 (pa_cons (pz 0) (pa_cons (pe_lz (pa_cons pe_str (pa_cons pe_str (pa_cons pe_str (pa_cons pe_str (pa_cons pe_str (pa_cons pe_str (pa_cons pe_str pa_nil)))))))) pa_nil))) po_none (po_z (pe_ix (k_ix K) (pe_lz (pa_cons pe_int (pa_cons pe_int (pa_cons pe_int pa_nil)))) (pe_cl C__law_take (hr.mono (by decide)) pass0 (pa_cons (pz 0) (pa_cons pe_int pa_nil))) (fun _ _ => rfl))))))
    (pss_cons (ps_set (i := 2) sc__law_seat.nd rfl (Or.inl rfl) (pe_slice (k_sl K) (pe_cl C__law_mixed (hr.mono (by decide)) pass0 (pa_cons (pz 0) (pa_cons (pe_lz (pa_cons pe_str (pa_cons pe_str (pa_cons pe_str (pa_cons pe_str pa_nil))))) pa_nil))) po_none (po_z pe_int)))
    (pss_one (ps_ret (pe_lz (pa_cons (pe_new0 N_Leases (hr.mono (by decide))) (pa_cons (pe_lz pa_nil) (pa_cons (pz 1) (pa_cons (pz 2) (pa_cons (pe_lz (pa_cons pe_int (pa_cons pe_int (pa_cons pe_int (pa_cons pe_int (pa_cons pe_int (pa_cons pe_int (pa_cons pe_int (pa_cons (pe_op o_sub (pe_op o_sub (pe_op o_pow pe_int pe_int) pe_int) (pe_cl C__law_take (hr.mono (by decide)) pass0 (pa_cons (pz 0) (pa_cons pe_int pa_nil)))) pa_nil))))))))) pa_nil)))))))))), ?_⟩
  obtain ⟨b, n, rfl, hB, hn, q⟩ := h
  refine ⟨by show 1 ≤ sizeLine; decide, fun p1 H1 n1 => ?_⟩
  refine ⟨by show 7 ≤ sizeLine; decide, fun p2 H2 n2 => ?_⟩
  have B2 := (hB.same n1.same).same n2.same
  refine ⟨b, n, p2, ["bob", "bo", "eve", "z", "crew", "al", "dan"], rfl, rfl, B2, by omega, n2.here, by decide, by decide +kernel, fun us q3 H3 pm t3 B3 f3 h3 => ?_⟩
  refine ⟨by show 3 ≤ sizeLine; decide, fun p4 H4 n4 => ?_⟩
  refine ⟨b, 3, _, rfl, rfl, by decide, by decide, B3.same n4.same, by show n + 7 < 1000000; omega, fun r5 H5 t5 B5 x0 x1 => ?_⟩
  obtain ⟨c, e5, gc⟩ := int_at [3, 4, 7] (fun i => decide (0 ≤ i) && decide (i ≤ 7)) (by decide) x0 x1
  rw [Bool.and_eq_true, decide_eq_true_iff, decide_eq_true_iff] at gc
  have b4 := (B3.ne n4.fresh).symm
  refine ⟨_, _, .inl (SqL.of (t5.at b4 n4.here)), e5, ?_⟩
  obtain ⟨c, rfl⟩ : ∃ j : Nat, c = j := ⟨c.toNat, by omega⟩
  have bq3 : q3 ≠ b := (B2.ne f3).symm
  refine .inl ⟨_, SqL.of (t5.at bq3 (n4.keep h3)), fun p6 H6 n6 => ?_⟩
  rw [cutV_to] at n6
  have bp1 : p1 ≠ b := (hB.ne n1.fresh).symm
  have h16 := n6.keep (t5.at bp1 (n4.keep (t3.at bp1 (n2.keep n1.here))))
  have l7 : us.length = 7 := pm.length_eq
  refine .inl ⟨_, _, h16, n6.here, by rw [List.length_take, List.length_map]; exact Nat.le_trans (show _ ≤ 8 by simp; omega) (by decide), fun nm H7 n7 => ?_⟩
  have nms : H7 nm = some (.lst ((("ann" : Str) :: us.take c).map V.str)) := by
    rw [n7.here, List.map_cons, List.map_take]
    rfl
  have t07 : But b H H7 := ((((((But.of n1.same).trans (But.of n2.same)).trans t3).trans (But.of n4.same)).trans t5).trans (But.of n6.same)).trans (But.of n7.same)
  have B7 : BoxAt (n + 8) H7 b := (B5.same n6.same).same n7.same
  have gus : ∀ (ts : List Str), us.Perm ts → ts.all gn = true → us.all gn = true := fun ts p g => List.all_eq_true.mpr fun x hx => List.all_eq_true.mp g x (p.mem_iff.mp hx)
  have gnm : (("ann" : Str) :: us.take c).all gn = true := by
    rw [List.all_cons, List.all_eq_true.mpr (fun x hx => List.all_eq_true.mp (gus _ pm (by decide +kernel)) x (List.mem_of_mem_take hx))]
    decide +kernel
  refine ⟨by show 4 ≤ sizeLine; decide, fun p8 H8 n8 => ?_⟩
  have B8 := B7.same n8.same
  refine ⟨b, _, p8, ["crew", "cre", "ann", "z"], rfl, rfl, B8, by omega, n8.here, by decide, by decide +kernel, fun vs q9 H9 pm9 t9 B9 f9 h9 => ?_⟩
  refine .inl ⟨_, SqL.of h9, fun cl H10 n10 => ?_⟩
  have l4 : vs.length = 4 := pm9.length_eq
  have cls : H10 cl = some (.lst ((vs.take 3).map V.str)) := by
    have := n10.here
    rw [show (3 : Int) = ((3 : Nat) : Int) from rfl, cutV_to, ← List.map_take] at this
    exact this
  have gvs : (vs.take 3).all gn = true := List.all_eq_true.mpr fun x hx => List.all_eq_true.mp (show (["crew", "cre", "ann", "z"] : List Str).all gn = true by decide +kernel) x (pm9.mem_iff.mp (List.mem_of_mem_take hx))
  have t010 : But b H H10 := ((t07.trans (But.of n8.same)).trans t9).trans (But.of n10.same)
  have B10 : BoxAt (n + 12) H10 b := B9.same n10.same
  have bnm : nm ≠ b := ((B5.same n6.same).ne n7.fresh).symm
  have nm10 := n10.keep (t9.at bnm (n8.keep nms))
  refine fun a x ha hx hn' => ?_
  have u1 := nw (o := .own a) hx
  have v1 : (upd H10 x (.own a)) a = none := by rw [upd_ne hn'.symm]; exact ha
  have w1 := nw (o := .ins e_Leases x []) v1
  generalize upd (upd H10 x (.own a)) a (.ins e_Leases x []) = I1 at w1 ⊢
  have i1 : Same H10 I1 := u1.same.trans w1.same
  refine ⟨a, e_Leases, x, rfl, T.a_Leases, w1.here, fun d J1 fd kp ls => ⟨rfl, ?_⟩⟩
  have j1 : Same H10 J1 := fun p o e => kp.at (by rw [List.mem_singleton]; exact ne_of_none e ha) (i1 p o e)
  refine ⟨by show 0 ≤ sizeLine; decide, fun L M1 m1 => ?_⟩
  refine ⟨⟨by decide, by decide, by decide⟩, ?_⟩
  have jm := j1.trans m1.same
  refine ⟨b, 9, _, rfl, rfl, by decide, by decide, B10.same jm, by omega, fun r H11 t11 B11 y0 y1 => ?_⟩
  refine ⟨by show 8 ≤ sizeLine; decide, fun il H12 n12 => ?_⟩
  refine ⟨by show 5 ≤ sizeLine; decide, fun s H13 n13 => ?_⟩
  have t10 : But b H10 H11 := (But.of jm).trans t11
  have s1113 := n12.same.trans n13.same
  have t13 : But b H H13 := (t010.trans t10).trans (But.of s1113)
  obtain ⟨Ca, dxa, kva, ca, hha, hhd, rwa⟩ := id ls.ex
  have B10m := B10.same jm
  obtain ⟨ys, hb⟩ := box_lst B10m
  have ha' := m1.keep hha
  have hd' := m1.keep hhd
  have ab : a ≠ b := ne_kind ha' hb (fun z => by cases z)
  have db : d ≠ b := ne_kind hd' hb (fun z => by cases z)
  have Lb : L ≠ b := ((B10.same j1).ne m1.fresh).symm
  have clb : cl ≠ b := (B9.ne n10.fresh).symm
  have ls13 : LsAt K H13 a d [] := (((ls.same m1.same).kp (Kp.but t11) (box_nt B10m) (by simp [ab]) (by simp [db])).same s1113)
  have hL13 : H13 L = some (.lst []) := s1113 _ _ (t11.at Lb m1.here)
  have nm13 := s1113 _ _ (t10.at bnm nm10)
  have cl13 := s1113 _ _ (t10.at clb cls)
  have fr : ∀ {Hx : Hp} {y : Addr}, But b H Hx → y ≠ b → Hx y = none → H y = none := fun {Hx y} t e f => t.free e f
  have t0m : But b H M1 := t010.trans (But.of jm)
  have t011 : But b H H11 := t010.trans t10
  have ilb : il ≠ b := (B11.ne n12.fresh).symm
  have sb : s ≠ b := ((B11.same n12.same).ne n13.fresh).symm
  have Lnm : L ≠ nm := (ne_of_none (j1 _ _ nm10) m1.fresh).symm
  have Lcl : L ≠ cl := (ne_of_none (j1 _ _ cls) m1.fresh).symm
  have hL11 := t11.at Lb m1.here
  have Lil : L ≠ il := ne_of_none hL11 n12.fresh
  have Ls : L ≠ s := ne_of_none (n12.keep hL11) n13.fresh
  refine q s a d L nm cl il (("ann" : Str) :: us.take c) (vs.take 3) [1, 2, 3, 4, 5, 6, 12, (10 : Int) ^ (15 : Int).toNat - 1 - r] H13 t13 ((B11.same s1113).mono (by omega)) ?_ ?_ (by simp [Ls, Lnm, Lcl, Lil])
  · intro z hz
    simp only [List.mem_cons, List.not_mem_nil, or_false] at hz
    rcases hz with rfl | rfl | rfl | rfl | rfl | rfl | rfl
    · exact fr (t011.trans (But.of n12.same)) sb n13.fresh
    · exact fr t010 ab ha
    · exact fr (t010.trans (But.of i1)) db fd
    · exact fr (t010.trans (But.of j1)) Lb m1.fresh
    · exact fr ((((((But.of n1.same).trans (But.of n2.same)).trans t3).trans (But.of n4.same)).trans t5).trans (But.of n6.same)) bnm n7.fresh
    · exact fr ((t07.trans (But.of n8.same)).trans t9) clb n10.fresh
    · exact fr t011 ilb n12.fresh
  · refine ⟨n13.here, ls13, hL13, .nil, (fun x hx => by cases hx), .nil, Nat.le_refl _, nm13, cl13, n13.keep n12.here, gnm, gvs, ?_, ⟨by simp, by rw [List.length_cons, List.length_take]; omega⟩, ⟨by rw [List.length_take]; omega, by rw [List.length_take]; omega⟩, ⟨by show 1 ≤ 8; decide, by show 8 ≤ 8; decide⟩⟩
    have ten : (10 : Int) ^ (15 : Int).toNat = 1000000000000000 := by decide
    simp only [List.all_cons, List.all_nil, ten]
    rw [okI_mk (i := (1000000000000000 : Int) - 1 - r) (by show decide (1 ≤ (1000000000000000 : Int) - 1 - r) = true; rw [decide_eq_true (by omega)]) (by omega)]
    decide

/-! ### _law_row(_law_box_here, _law_seat_here), level 2 -/
abbrev s__law_row : Stmt := top 29
abbrev N__law_row : List Str := ["_law_box_here", "_law_seat_here", "_law_rows", "_law_names", "_law_clubs", "_law_ids", "_law_who", "_law_tok", "_law_until", "_law_old"]
theorem sc__law_row : FnScope N__law_row ["_law_box_here", "_law_seat_here"] (defScope s__law_row) := ⟨rfl, rfl, rfl, by decide +kernel, rfl, by decide +kernel, by decide +kernel⟩
theorem ok__law_row (T : Txt K mg e_InvalidName e_InvalidNumber e_InvalidCount e_Held e_QueueError e_Leases) (C__law_take : Ct P w K mg base CX0 1 "_law_take" ["_law_box_here", "_law_many"] (sp__law_take K)) (D : Df K mg "_law_row" s__law_row ["_law_box_here", "_law_seat_here"]) : Ct P w K mg base CX0 2 "_law_row" ["_law_box_here", "_law_seat_here"] (sp__law_row K) := by
  refine ct2 D sc__law_row fun f cdv A outer s H a_box_here a_seat_here Q E hr h => ⟨_, (pss_cons (ps_asg (pe_slice (k_sl K) (pz 1) (po_z pe_int) po_none) (pg_lzK (n := 4) K (by rfl) (pgs_cz (pg_name (i := 2) sc__law_row.nd rfl (Or.inl rfl)) (pgs_cz (pg_name (i := 3) sc__law_row.nd rfl (Or.inl rfl)) (pgs_cz (pg_name (i := 4) sc__law_row.nd rfl (Or.inl rfl)) (pgs_cz (pg_name (i := 5) sc__law_row.nd rfl (Or.inl rfl)) pgs_nz))))))
    (pss_cons (ps_set (i := 6) sc__law_row.nd rfl (Or.inl rfl) (pe_ix (k_ix K) (pz 3) (pe_cl C__law_take (hr.mono (by decide)) pass0 (pa_cons (pz 0) (pa_cons (pe_callB (k_len K) (by rfl) T.n_len bt_len (pa_cons (pz 3) pa_nil)) pa_nil))) (fun _ _ => rfl)))
    (pss_cons (ps_parZ (i := 7) (j := 8) (by rfl) sc__law_row.nd rfl rfl (by decide) rfl rfl (pa_cons (pe_tz (pa_cons (pe_op (k_add K) pe_int (pe_cl C__law_take (hr.mono (by decide)) pass0 (pa_cons (pz 0) (pa_cons pe_int pa_nil)))) (pa_cons (pe_op (k_add K) pe_int (pe_cl C__law_take (hr.mono (by decide)) pass0 (pa_cons (pz 0) (pa_cons pe_int pa_nil)))) pa_nil))) (pa_cons (pe_ix (k_ix K) (pe_lz (pa_cons pe_int (pa_cons pe_int (pa_cons pe_int (pa_cons pe_int (pa_cons pe_int (pa_cons (pe_op o_pow pe_int pe_int) pa_nil))))))) (pe_cl C__law_take (hr.mono (by decide)) pass0 (pa_cons (pz 0) (pa_cons pe_int pa_nil))) (fun _ _ => rfl)) pa_nil)) (by rfl))
    (pss_cons (ps_if (PW.pt (pw_and (pt_cmpZ (k_ne K hr.units) (pz 2) (pe_lz pa_nil) (nomark _)) (pw_and1 (pt_cmpZ (k_eq K hr.units) (pe_cl C__law_take (hr.mono (by decide)) pass0 (pa_cons (pz 0) (pa_cons pe_int pa_nil))) pe_int (nomark _))))) 
      (pss_cons (ps_set (i := 9) sc__law_row.nd rfl (Or.inl rfl) (pe_ix (k_ix K) (pz 2) (pe_cl C__law_take (hr.mono (by decide)) pass0 (pa_cons (pz 0) (pa_cons (pe_callB (k_len K) (by rfl) T.n_len bt_len (pa_cons (pz 2) pa_nil)) pa_nil))) (fun _ _ => rfl)))
      (pss_one (ps_ret (pe_tz (pa_cons (pe_ix (k_ix K) (pz 9) pe_int (fun _ _ => rfl)) (pa_cons (pe_ix (k_ix K) (pe_lz (pa_cons (pe_ix (k_ix K) (pz 9) pe_int (fun _ _ => rfl)) (pa_cons (pe_ix (k_ix K) (pz 5) pe_int (fun _ _ => rfl)) pa_nil))) (pe_cl C__law_take (hr.mono (by decide)) pass0 (pa_cons (pz 0) (pa_cons pe_int pa_nil))) (fun _ _ => rfl)) (pa_cons (pe_ix (k_ix K) (pe_lz (pa_cons (pz 6) (pa_cons (pe_ix (k_ix K) (pz 9) pe_int (fun _ _ => rfl)) pa_nil))) (pe_cl C__law_take (hr.mono (by decide)) pass0 (pa_cons (pz 0) (pa_cons pe_int pa_nil))) (fun _ _ => rfl)) (pa_cons (pz 7) (pa_cons (pz 8) pa_nil))))))))) pss_nil)
    (pss_one (ps_ret (pe_tz (pa_cons (pe_ix (k_ix K) (pz 4) (pe_cl C__law_take (hr.mono (by decide)) pass0 (pa_cons (pz 0) (pa_cons (pe_callB (k_len K) (by rfl) T.n_len bt_len (pa_cons (pz 4) pa_nil)) pa_nil))) (fun _ _ => rfl)) (pa_cons (pe_ix (k_ix K) (pz 5) (pe_cl C__law_take (hr.mono (by decide)) pass0 (pa_cons (pz 0) (pa_cons (pe_callB (k_len K) (by rfl) T.n_len bt_len (pa_cons (pz 5) pa_nil)) pa_nil))) (fun _ _ => rfl)) (pa_cons (pz 6) (pa_cons (pz 7) (pa_cons (pz 8) pa_nil)))))))))))), ?_⟩
  obtain ⟨b, n, s, a, d, L, nm, cl, il, R, xs, names, clubs, ids, rfl, rfl, hB, hn, se, nb, q⟩ := h
  refine .inl ⟨_, SqL.of se.hs, fun p1 H1 n1 => ?_⟩
  have n1 : Nw H p1 (.lst [.ref L, .ref nm, .ref cl, .ref il]) H1 := n1
  refine ⟨_, SqL.of n1.here, rfl, ?_⟩
  have B1 := hB.same n1.same
  have s1 := se.same n1.same
  refine .inl ⟨_, .inl (SqL.of s1.hn), ?_⟩
  obtain ⟨lna, lnb⟩ := se.ln1
  obtain ⟨lca, lcb⟩ := se.lc1
  obtain ⟨lia, lib⟩ := se.li1
  refine ⟨b, _, n, rfl, rfl, by rw [List.length_map]; omega, by rw [List.length_map]; omega, B1, by omega, fun r2 H2 t2 B2 x0 x1 => ?_⟩
  have s2 := s1.box B1 nb t2
  obtain ⟨who, e2, gw⟩ := gn_at names se.gnm x0 x1
  refine ⟨_, _, .inl (SqL.of s2.hn), e2, ?_⟩
  refine ⟨b, 3, _, rfl, rfl, by decide, by decide, B2, by omega, fun r3 H3 t3 B3 y0 y1 => ?_⟩
  refine ⟨b, 3, _, rfl, rfl, by decide, by decide, B3, by omega, fun r4 H4 t4 B4 z0 z1 => ?_⟩
  refine ⟨by show 2 ≤ sizeLine; decide, fun tk H5 n5 => ?_⟩
  refine ⟨⟨by decide, by decide, by decide⟩, ?_⟩
  refine ⟨by show 6 ≤ sizeLine; decide, fun p6 H6 n6 => ?_⟩
  have B6 := (B4.same n5.same).same n6.same
  refine ⟨b, 6, _, rfl, rfl, by decide, by decide, B6, by omega, fun r7 H7 t7 B7 w0 w1 => ?_⟩
  obtain ⟨un, e7, gu⟩ := int_at [0, 3, 4, 5, 6, (10 : Int) ^ (14 : Int).toNat] (fun i => cntD (.int i) && decide (i.natAbs < 2 ^ 60)) (by decide +kernel) w0 w1
  rw [Bool.and_eq_true, decide_eq_true_iff] at gu
  have b6 : p6 ≠ b := ((B4.same n5.same).ne n6.fresh).symm
  refine ⟨_, _, .inl (SqL.of (t7.at b6 n6.here)), e7, ?_⟩
  have tkb : ∀ {Hx : Hp} {m : Nat} {ys : List V}, BoxAt m Hx b → Hx tk = some (.tup ys) → tk ≠ b := fun {Hx m ys} B e => by
    obtain ⟨zs, hb⟩ := box_lst B
    exact ne_kind e hb (fun z => by cases z)
  have htk5 := n6.keep n5.here
  have htk7 := t7.at (tkb B6 htk5) htk5
  have t17 : But b H1 H7 := (((t2.trans t3).trans t4).trans (But.of (n5.same.trans n6.same))).trans t7
  have t07 : But b H H7 := (But.of n1.same).trans t17
  have s7 := s1.box B1 nb t17
  have gtk : tokenD (.tuple [.int (1 + r3), .int (1 + r4)]) = true := by
    show ((decide (1 ≤ 1 + r3) && decide (1 + r3 ≤ 999999999999)) && (decide (1 ≤ 1 + r4) && decide (1 + r4 ≤ 999999999999))) = true
    rw [decide_eq_true (by omega), decide_eq_true (by omega), decide_eq_true (by omega), decide_eq_true (by omega)]
    rfl
  refine ⟨by show 0 ≤ sizeLine; decide, fun p8 H8 n8 => ?_⟩
  have s8 := s7.same n8.same
  have B8 : BoxAt (n + 4) H8 b := (B7.same n8.same).mono (by omega)
  have htk8 := n8.keep htk7
  have t08 : But b H H8 := t07.trans (But.of n8.same)
  refine ⟨.list (R.map Lr.d), .list [], .lst (SqL.of s8.hL) s8.fl.dp, .lst (SqL.of n8.here) .nil, rows_sh se.gd, shl_ok (ds := []) rfl, ?_⟩
  rw [eqv_nil]
  cases ee : (R.map Lr.d).isEmpty
  case' true =>
    obtain ⟨H9, e9⟩ : ∃ H9, H9 = H8 := ⟨_, rfl⟩
    subst e9
    have B9 : BoxAt (n + 5) H9 b := B8.mono (by omega)
    have t09 : But b H H9 := t08
    have s9 := s8
    have htk9 := htk8
  case' false =>
    refine ⟨b, 4, _, rfl, rfl, by decide, by decide, B8, by omega, fun r9 H9 t9 B9 u0 u1 => ?_⟩
    have s9 := s8.box B8 nb t9
    have htk9 := t9.at (tkb B8 htk8) htk8
    have t09 : But b H H9 := t08.trans t9
    refine ite2 (fun hc => ?_) (fun hc => ?_)
    · refine .inl ⟨_, .inl (SqL.of s9.hL), ?_⟩
      have pos : 0 < xs.length := by
        rw [se.fl.len]
        cases R with
        | nil => cases ee
        | cons _ _ => simp
      have lx : xs.length ≤ 5000 := by rw [se.fl.len]; exact se.ln
      refine ⟨b, _, _, rfl, rfl, by omega, by omega, B9, by omega, fun i Ha ta Ba i0 i1 => ?_⟩
      have sa := s9.box B9 nb ta
      obtain ⟨v, ea, _, e3⟩ := atI_some (xs := xs) i0 i1
      obtain ⟨y, p, t', hy, rfl, hp, ht⟩ := sa.fl.at e3
      have gy := se.gd y (List.mem_of_getElem? hy)
      refine ⟨_, _, .inl (SqL.of sa.hL), ea, ?_⟩
      refine ⟨_, _, .inr (SqT.of hp), rfl, ?_⟩
      refine ⟨_, _, .inr (SqT.of hp), rfl, ?_⟩
      obtain ⟨id0, idr, eid⟩ : ∃ id0 idr, ids = id0 :: idr := by
        cases ids with
        | nil => exact absurd lia (by decide)
        | cons i r => exact ⟨i, r, rfl⟩
      have gid0 : okI id0 = true := List.all_eq_true.mp se.gid id0 (by rw [eid]; exact List.mem_cons_self)
      refine ⟨_, .int id0, .inl (SqL.of sa.hi), by rw [eid]; exact atI_nat (j := 0) rfl, ?_⟩
      refine ⟨by show 2 ≤ sizeLine; decide, fun pb Hb nb' => ?_⟩
      have Bb := Ba.same nb'.same
      refine ⟨b, 2, _, rfl, rfl, by decide, by decide, Bb, by omega, fun rc Hc tc Bc j0 j1 => ?_⟩
      obtain ⟨nn, ec, gnn⟩ := int_at [y.n, id0] okI (by rw [List.all_cons, okI_mk gy.n gy.bn, List.all_cons, gid0]; rfl) j0 j1
      have pbb : pb ≠ b := (Ba.ne nb'.fresh).symm
      refine ⟨_, _, .inl (SqL.of (tc.at pbb nb'.here)), ec, ?_⟩
      have pb' : p ≠ b := by
        obtain ⟨zs, hb⟩ := box_lst Ba
        exact ne_kind hp hb (fun z => by cases z)
      have hpc := tc.at pb' (nb'.keep hp)
      refine ⟨_, _, .inr (SqT.of hpc), rfl, ?_⟩
      refine ⟨by show 2 ≤ sizeLine; decide, fun pd Hd nd => ?_⟩
      have Bd := Bc.same nd.same
      refine ⟨b, 2, _, rfl, rfl, by decide, by decide, Bd, by omega, fun re He te Be k0 k1 => ?_⟩
      obtain ⟨mm, ee', gmm⟩ := gn_at [who, y.m] (by rw [List.all_cons, gw, List.all_cons, gy.m]; rfl) k0 k1
      have pdb : pd ≠ b := (Bc.ne nd.fresh).symm
      refine ⟨_, _, .inl (SqL.of (te.at pdb nd.here)), ee', ?_⟩
      refine ⟨by show 5 ≤ sizeLine; decide, fun pf Hf nf => ?_⟩
      have t9e : But b H9 He := (((ta.trans (But.of nb'.same)).trans tc).trans (But.of nd.same)).trans te
      have t0e : But b H He := t09.trans t9e
      exact q pf ⟨y.g, nn, mm, 1 + r3, 1 + r4, un⟩ tk Hf (t0e.nw nf) ((Be.same nf.same).mono (by omega)) (t0e.free (Be.ne nf.fresh).symm nf.fresh) ⟨gmm, gy.g, (okI_of gnn).1, gtk, gu.1, (okI_of gnn).2, gu.2⟩ ⟨nf.here, nf.keep (t9e.at (tkb B9 htk9) htk9)⟩
  all_goals
    refine .inl ⟨_, .inl (SqL.of s9.hc), ?_⟩
    refine ⟨b, _, _, rfl, rfl, by rw [List.length_map]; omega, by rw [List.length_map]; omega, B9, by omega, fun ra Ha ta Ba i0 i1 => ?_⟩
    have sa := s9.box B9 nb ta
    obtain ⟨gg, ea, gg'⟩ := gn_at clubs se.gcl i0 i1
    refine ⟨_, _, .inl (SqL.of sa.hc), ea, ?_⟩
    refine .inl ⟨_, .inl (SqL.of sa.hi), ?_⟩
    refine ⟨b, _, _, rfl, rfl, by rw [List.length_map]; omega, by rw [List.length_map]; omega, Ba, by omega, fun rb Hb tb Bb j0 j1 => ?_⟩
    have sb := sa.box Ba nb tb
    obtain ⟨nn, eb, gnn⟩ := int_at ids okI se.gid j0 j1
    refine ⟨_, _, .inl (SqL.of sb.hi), eb, ?_⟩
    refine ⟨by show 5 ≤ sizeLine; decide, fun pf Hf nf => ?_⟩
    have t9b : But b H9 Hb := ta.trans tb
    have t0b : But b H Hb := t09.trans t9b
    exact q pf ⟨gg, nn, who, 1 + r3, 1 + r4, un⟩ tk Hf (t0b.nw nf) ((Bb.same nf.same).mono (by omega)) (t0b.free (Bb.ne nf.fresh).symm nf.fresh) ⟨gw, gg', (okI_of gnn).1, gtk, gu.1, (okI_of gnn).2, gu.2⟩ ⟨nf.here, nf.keep (t9b.at (tkb B9 htk9) htk9)⟩

/-! ### _law_holding(_law_rows, _law_club, _law_no), level 1 -/
abbrev s__law_holding : Stmt := top 26
abbrev N__law_holding : List Str := ["_law_rows", "_law_club", "_law_no", "_law_row_here"]
theorem sc__law_holding : FnScope N__law_holding ["_law_rows", "_law_club", "_law_no"] (defScope s__law_holding) := ⟨rfl, rfl, rfl, by decide +kernel, rfl, by decide +kernel, by decide +kernel⟩
theorem ok__law_holding (D : Df K mg "_law_holding" s__law_holding ["_law_rows", "_law_club", "_law_no"]) : Ct P w K mg base CX0 1 "_law_holding" ["_law_rows", "_law_club", "_law_no"] (sp__law_holding K) := by
  refine ct3 D sc__law_holding fun f cdv A outer s H a_rows a_club a_no Q E hr h => ⟨_, (pss_cons (ps_for PassesOwn.never rfl (pi_lzK K (pz 0)) (pg_name (i := 3) sc__law_holding.nd rfl (Or.inl rfl)) 
      (pss_one (ps_if (PW.pt (pw_and (pt_cmpZ (k_eq K hr.units) (pe_ix (k_ix K) (pz 3) pe_int (fun _ _ => rfl)) (pz 1) (nomark _)) (pw_and1 (pt_cmpZ (k_eq K hr.units) (pe_ix (k_ix K) (pz 3) pe_int (fun _ _ => rfl)) (pz 2) (nomark _))))) 
        (pss_one (ps_ret (pz 3))) pss_nil)))
    (pss_one (ps_ret pe_non))), ?_⟩
  obtain ⟨L, xs, R, g, n, rfl, rfl, rfl, hL, fl, q1, q2⟩ := h
  refine ⟨⟨_, SqL.of hL⟩, for_w (wk_list xs) (fun i σ H' => H' = H ∧ (∀ x ∈ R.take i, isK g n x = false) ∧ ∃ v : Option V, σ = [some (.ref L), some (.str g), some (.int n), v]) ⟨rfl, (fun x hx => by cases hx), _, rfl⟩ (fun i σ H' z => SqL.of (by rw [z.1]; exact hL)) ?_ ?_⟩
  · rintro i x σ H' hx ⟨rfl, nn, v, rfl⟩
    obtain ⟨r, p, t, hr, rfl, hp, ht⟩ := fl.at hx
    have go : isK g n r = false → ∀ x ∈ R.take (i + 1), isK g n x = false := fun e x hx => by
      rw [List.take_add_one, hr] at hx
      rcases List.mem_append.mp hx with hx | hx
      · exact nn x hx
      · obtain rfl := List.mem_singleton.mp hx
        exact e
    refine ⟨_, _, .inr (SqT.of hp), rfl, ?_⟩
    by_cases e1 : V.str r.g = V.str g
    · refine iteY (c := (false ^^ decide (V.str r.g = V.str g))) (by rw [decide_eq_true e1]; rfl) ?_
      refine ⟨_, _, .inr (SqT.of hp), rfl, ?_⟩
      by_cases e2 : V.int r.n = V.int n
      · refine iteY (c := (false ^^ decide (V.int r.n = V.int n))) (by rw [decide_eq_true e2]; rfl) ?_
        have h : isK g n r = true := by unfold isK; rw [decide_eq_true (V.str.inj e1), decide_eq_true (V.int.inj e2)]; rfl
        exact q2 i r p t hr hx nn h (find_hit hr nn h) ⟨hp, ht⟩
      · refine iteN (c := (false ^^ decide (V.int r.n = V.int n))) (by rw [decide_eq_false e2]; rfl) ?_
        exact ⟨rfl, go (by unfold isK; rw [decide_eq_false (p := r.n = n) (fun z => e2 (by rw [z])), Bool.and_false]), _, rfl⟩
    · refine iteN (c := (false ^^ decide (V.str r.g = V.str g))) (by rw [decide_eq_false e1]; rfl) ?_
      exact ⟨rfl, go (by unfold isK; rw [decide_eq_false (p := r.g = g) (fun z => e1 (by rw [z])), Bool.false_and]), _, rfl⟩
  · rintro σ H' ⟨rfl, nn, v, rfl⟩
    rw [fl.len, List.take_length] at nn
    refine q1 ?_
    rw [List.find?_eq_none]
    intro x hx
    rw [nn x hx]
    decide

/-! ### _law_held_by(_law_rows, _law_who, _law_club), level 1 -/
abbrev s__law_held_by : Stmt := top 27
abbrev N__law_held_by : List Str := ["_law_rows", "_law_who", "_law_club", "_law_row_here"]
theorem sc__law_held_by : FnScope N__law_held_by ["_law_rows", "_law_who", "_law_club"] (defScope s__law_held_by) := ⟨rfl, rfl, rfl, by decide +kernel, rfl, by decide +kernel, by decide +kernel⟩
theorem ok__law_held_by (D : Df K mg "_law_held_by" s__law_held_by ["_law_rows", "_law_who", "_law_club"]) : Ct P w K mg base CX0 1 "_law_held_by" ["_law_rows", "_law_who", "_law_club"] (sp__law_held_by K) := by
  refine ct3 D sc__law_held_by fun f cdv A outer s H a_rows a_who a_club Q E hr h => ⟨_, (pss_cons (ps_for PassesOwn.never rfl (pi_lzK K (pz 0)) (pg_name (i := 3) sc__law_held_by.nd rfl (Or.inl rfl)) 
      (pss_one (ps_if (PW.pt (pw_and (pt_cmpZ (k_eq K hr.units) (pe_ix (k_ix K) (pz 3) pe_int (fun _ _ => rfl)) (pz 2) (nomark _)) (pw_and1 (pt_cmpZ (k_eq K hr.units) (pe_ix (k_ix K) (pz 3) pe_int (fun _ _ => rfl)) (pz 1) (nomark _))))) 
        (pss_one (ps_ret (pz 3))) pss_nil)))
    (pss_one (ps_ret pe_non))), ?_⟩
  obtain ⟨L, xs, R, m, g, rfl, rfl, rfl, hL, fl, q1, q2⟩ := h
  refine ⟨⟨_, SqL.of hL⟩, for_w (wk_list xs) (fun i σ H' => H' = H ∧ (∀ x ∈ R.take i, hit (.str g) (.str m) x = false) ∧ ∃ v : Option V, σ = [some (.ref L), some (.str m), some (.str g), v]) ⟨rfl, (fun x hx => by cases hx), _, rfl⟩ (fun i σ H' z => SqL.of (by rw [z.1]; exact hL)) ?_ ?_⟩
  · rintro i x σ H' hx ⟨rfl, nn, v, rfl⟩
    obtain ⟨r, p, t, hr, rfl, hp, ht⟩ := fl.at hx
    have go : hit (.str g) (.str m) r = false → ∀ x ∈ R.take (i + 1), hit (.str g) (.str m) x = false := fun e x hx => by
      rw [List.take_add_one, hr] at hx
      rcases List.mem_append.mp hx with hx | hx
      · exact nn x hx
      · obtain rfl := List.mem_singleton.mp hx
        exact e
    refine ⟨_, _, .inr (SqT.of hp), rfl, ?_⟩
    by_cases e1 : V.str r.g = V.str g
    · refine iteY (c := (false ^^ decide (V.str r.g = V.str g))) (by rw [decide_eq_true e1]; rfl) ?_
      refine ⟨_, _, .inr (SqT.of hp), rfl, ?_⟩
      by_cases e2 : V.str r.m = V.str m
      · refine iteY (c := (false ^^ decide (V.str r.m = V.str m))) (by rw [decide_eq_true e2]; rfl) ?_
        exact q2 r p t (find_hit hr nn (by unfold hit; rw [decide_eq_true e1, decide_eq_true e2]; rfl)) ⟨hp, ht⟩
      · refine iteN (c := (false ^^ decide (V.str r.m = V.str m))) (by rw [decide_eq_false e2]; rfl) ?_
        exact ⟨rfl, go (by unfold hit; rw [decide_eq_false e2, Bool.and_false]), _, rfl⟩
    · refine iteN (c := (false ^^ decide (V.str r.g = V.str g))) (by rw [decide_eq_false e1]; rfl) ?_
      exact ⟨rfl, go (by unfold hit; rw [decide_eq_false e1, Bool.false_and]), _, rfl⟩
  · rintro σ H' ⟨rfl, nn, v, rfl⟩
    rw [fl.len, List.take_length] at nn
    refine q1 ?_
    rw [List.find?_eq_none]
    intro x hx
    rw [nn x hx]
    decide

/-! ### _law_due(_law_rows, _law_row_here), level 2 -/
abbrev s__law_due : Stmt := top 28
abbrev N__law_due : List Str := ["_law_rows", "_law_row_here", "_law_other"]
theorem sc__law_due : FnScope N__law_due ["_law_rows", "_law_row_here"] (defScope s__law_due) := ⟨rfl, rfl, rfl, by decide +kernel, rfl, by decide +kernel, by decide +kernel⟩
theorem ok__law_due (C__law_holding : Ct P w K mg base CX0 1 "_law_holding" ["_law_rows", "_law_club", "_law_no"] (sp__law_holding K)) (C__law_held_by : Ct P w K mg base CX0 1 "_law_held_by" ["_law_rows", "_law_who", "_law_club"] (sp__law_held_by K)) (D : Df K mg "_law_due" s__law_due ["_law_rows", "_law_row_here"]) : Ct P w K mg base CX0 2 "_law_due" ["_law_rows", "_law_row_here"] (sp__law_due K) := by
  refine ct2 D sc__law_due fun f cdv A outer s H a_rows a_row_here Q E hr h => ⟨_, (pss_cons (ps_if (pt_cmpZ o_isn (pe_cl C__law_holding (hr.mono (by decide)) pass0 (pa_cons (pz 0) (pa_cons (pe_ix (k_ix K) (pz 1) pe_int (fun _ _ => rfl)) (pa_cons (pe_ix (k_ix K) (pz 1) pe_int (fun _ _ => rfl)) pa_nil)))) pe_non (nomark _)) 
      (pss_one (ps_ret (pe_tz (pa_cons (pe_ix (k_ix K) (pz 1) pe_int (fun _ _ => rfl)) (pa_cons (pe_ix (k_ix K) (pz 1) pe_int (fun _ _ => rfl)) pa_nil))))) pss_nil)
    (pss_cons (ps_set (i := 2) sc__law_due.nd rfl (Or.inl rfl) (pe_cl C__law_held_by (hr.mono (by decide)) pass0 (pa_cons (pz 0) (pa_cons (pe_ix (k_ix K) (pz 1) pe_int (fun _ _ => rfl)) (pa_cons (pe_ix (k_ix K) (pz 1) pe_int (fun _ _ => rfl)) pa_nil)))))
    (pss_one (ps_ret (pe_ifExp (pt_cmpZ o_isn (pz 2) pe_non (nomark _)) (pe_tz (pa_cons (pe_ix (k_ix K) (pz 1) pe_int (fun _ _ => rfl)) (pa_cons (pe_ix (k_ix K) (pz 2) pe_int (fun _ _ => rfl)) pa_nil))) pe_non))))), ?_⟩
  obtain ⟨L, xs, R, p, r, t, rfl, rfl, hL, fl, ⟨hp, ht⟩, q1, q2, q3⟩ := h
  refine ⟨_, _, .inr (SqT.of hp), rfl, ?_⟩
  refine ⟨_, _, .inr (SqT.of hp), rfl, ?_⟩
  refine ⟨L, xs, R, r.g, r.n, rfl, rfl, rfl, hL, fl, fun f => ?_, fun j x p' t' _ _ _ _ f _ => ?_⟩
  · refine ⟨_, _, .inr (SqT.of hp), rfl, ?_⟩
    refine ⟨_, _, .inr (SqT.of hp), rfl, ?_⟩
    refine ⟨L, xs, R, r.m, r.g, rfl, rfl, rfl, hL, fl, fun g => q3 f g, fun x p' t' g hx => ?_⟩
    refine ⟨_, _, .inr (SqT.of hp), rfl, ?_⟩
    refine ⟨_, _, .inr (SqT.of hx.1), rfl, ?_⟩
    exact ⟨by show 2 ≤ sizeLine; decide, fun q H2 n2 => q2 x q H2 f g n2⟩
  · refine ⟨_, _, .inr (SqT.of hp), rfl, ?_⟩
    refine ⟨_, _, .inr (SqT.of hp), rfl, ?_⟩
    exact ⟨by show 2 ≤ sizeLine; decide, fun q H2 n2 => q1 x q H2 f n2⟩

/-! ### is_signs(value), level 1 -/
abbrev s_is_signs : Stmt := top 10
abbrev N_is_signs : List Str := ["value"]
theorem sc_is_signs : FnScope N_is_signs ["value"] (defScope s_is_signs) := ⟨rfl, rfl, rfl, by decide +kernel, rfl, by decide +kernel, by decide +kernel⟩
theorem ok_is_signs (T : Txt K mg e_InvalidName e_InvalidNumber e_InvalidCount e_Held e_QueueError e_Leases) (D : Df K mg "is_signs" s_is_signs ["value"]) : Ct P w K mg base CX0 1 "is_signs" ["value"] (sp_is_signs K) := by
  refine ct1 D sc_is_signs fun f cdv A outer s H a_value Q E hr h => ⟨_, (pss_one (ps_ret (pe_andZ (pe_callB (k_isi K) (by rfl) T.n_isinstance bt_isinstance (pa_cons (pz 0) (pa_cons (pe_bltn (v := .ty "str") (by rfl) T.n_str bt_str rfl) pa_nil))) (pe_andZ (pe_ms0 PySem.F.slot_str_isascii PySem.F.type_str_isascii m_isascii (pz 0)) (pe_one (pe_ms0 PySem.F.slot_str_isprintable PySem.F.type_str_isprintable m_isprintable (pz 0))))))), ?_⟩
  obtain ⟨d, hd, ha, q⟩ := h
  refine ⟨by decide, kindD d, hd.kind, ?_⟩
  cases d with
  | str x =>
    obtain rfl := hd.str
    have hx := (Bool.and_eq_true _ _ ▸ ha : asciiS x = true ∧ _).1
    refine iteY (isascii_D hx) ?_
    show Q (.bl (Txt.isprintable x)) H
    rw [isprintable_D hx]
    exact q
  | _ => exact q

/-! ### is_name(value), level 2 -/
abbrev s_is_name : Stmt := top 13
abbrev N_is_name : List Str := ["value"]
theorem sc_is_name : FnScope N_is_name ["value"] (defScope s_is_name) := ⟨rfl, rfl, rfl, by decide +kernel, rfl, by decide +kernel, by decide +kernel⟩
theorem ok_is_name (T : Txt K mg e_InvalidName e_InvalidNumber e_InvalidCount e_Held e_QueueError e_Leases) (C_is_signs : Ct P w K mg base CX0 1 "is_signs" ["value"] (sp_is_signs K)) (D : Df K mg "is_name" s_is_name ["value"]) : Ct P w K mg base CX0 2 "is_name" ["value"] (sp_is_name K) := by
  refine ct1 D sc_is_name fun f cdv A outer s H a_value Q E hr h => ⟨_, (pss_one (ps_ret (pe_andZ (pe_cl C_is_signs (hr.mono (by decide)) pass0 (pa_cons (pz 0) pa_nil)) (pe_andZ (pe_cmpR o_le (pe_callB (k_len K) (by rfl) T.n_len bt_len (pa_cons (pz 0) pa_nil)) (pe_gk T.c_MOST_NAME) (nomark _)) (pe_andZ (pe_ms0 PySem.F.slot_str_isalpha PySem.F.type_str_isalpha m_isalpha (pz 0)) (pe_one (pe_ms0 PySem.F.slot_str_islower PySem.F.type_str_islower m_islower (pz 0)))))))), ?_⟩
  obtain ⟨d, hd, ha, q⟩ := h
  refine ⟨d, hd, ha, ?_⟩
  cases d with
  | str x =>
    obtain rfl := hd.str
    have hz := (Bool.and_eq_true _ _ ▸ ha : asciiS x = true ∧ _)
    have hx : x.length ≤ 100000 := of_decide_eq_true hz.2
    rw [← name_law hz.1] at q
    cases hp : prS x with
    | false =>
      rw [hp] at q
      exact iteN hp q
    | true =>
      rw [hp] at q
      refine iteY hp ?_
      refine ⟨sz (by omega), ?_⟩
      refine ite2 (fun h8 => ?_) (fun h8 => ?_)
      · have h8' : (x.length : Int) ≤ 8 := dT h8
        rw [show decide (x.length ≤ 8) = true from decide_eq_true (by omega)] at q
        cases hi : Txt.isalpha x with
        | false =>
          rw [hi] at q
          exact iteN hi q
        | true =>
          rw [hi] at q
          exact iteY hi q
      · have h8' : ¬ (x.length : Int) ≤ 8 := dF h8
        rw [show decide (x.length ≤ 8) = false from decide_eq_false (by omega)] at q
        exact q
  | _ => exact q

/-! ### is_integer(value), level 1 -/
abbrev s_is_integer : Stmt := top 7
abbrev N_is_integer : List Str := ["value"]
theorem sc_is_integer : FnScope N_is_integer ["value"] (defScope s_is_integer) := ⟨rfl, rfl, rfl, by decide +kernel, rfl, by decide +kernel, by decide +kernel⟩
theorem ok_is_integer (T : Txt K mg e_InvalidName e_InvalidNumber e_InvalidCount e_Held e_QueueError e_Leases) (D : Df K mg "is_integer" s_is_integer ["value"]) : Ct P w K mg base CX0 1 "is_integer" ["value"] (sp_is_integer K) := by
  refine ct1 D sc_is_integer fun f cdv A outer s H a_value Q E hr h => ⟨_, (pss_one (ps_ret (pe_andZ (pe_callB (k_isi K) (by rfl) T.n_isinstance bt_isinstance (pa_cons (pz 0) (pa_cons (pe_bltn (v := .ty "int") (by rfl) T.n_int bt_int rfl) pa_nil))) (pe_one (pe_notZ (pe_callB (k_isi K) (by rfl) T.n_isinstance bt_isinstance (pa_cons (pz 0) (pa_cons (pe_bltn (v := .ty "bool") (by rfl) T.n_bool bt_bool rfl) pa_nil)))))))), ?_⟩
  obtain ⟨d, hd, q⟩ := h
  refine ⟨by decide, kindD d, hd.kind, ?_⟩
  cases d with
  | bool b =>
    refine ⟨by decide, _, hd.kind, ?_⟩
    exact q
  | int i =>
    refine ⟨by decide, _, hd.kind, ?_⟩
    exact q
  | _ => exact q

/-! ### is_within(value, least, most), level 2 -/
abbrev s_is_within : Stmt := top 8
abbrev N_is_within : List Str := ["value", "least", "most"]
theorem sc_is_within : FnScope N_is_within ["value", "least", "most"] (defScope s_is_within) := ⟨rfl, rfl, rfl, by decide +kernel, rfl, by decide +kernel, by decide +kernel⟩
theorem ok_is_within (C_is_integer : Ct P w K mg base CX0 1 "is_integer" ["value"] (sp_is_integer K)) (D : Df K mg "is_within" s_is_within ["value", "least", "most"]) : Ct P w K mg base CX0 2 "is_within" ["value", "least", "most"] (sp_is_within K) := by
  refine ct3 D sc_is_within fun f cdv A outer s H a_value a_least a_most Q E hr h => ⟨_, (pss_one (ps_ret (pe_andZ (pe_cl C_is_integer (hr.mono (by decide)) pass0 (pa_cons (pz 0) pa_nil)) (pe_one (pe_chZ (pe_chain (opr_mon o_le) o_le (pe_mon (pz 1)) (pe_mon (pz 0)) (pz 2))))))), ?_⟩
  obtain ⟨d, i, j, hd, rfl, rfl, q⟩ := h
  refine ⟨d, hd, ?_⟩
  cases d with
  | int k =>
    obtain rfl := hd.int
    exact within_ch (P := fun v => Q v H) q
  | _ => exact q

/-! ### is_number(value), level 3 -/
abbrev s_is_number : Stmt := top 16
abbrev N_is_number : List Str := ["value"]
theorem sc_is_number : FnScope N_is_number ["value"] (defScope s_is_number) := ⟨rfl, rfl, rfl, by decide +kernel, rfl, by decide +kernel, by decide +kernel⟩
theorem ok_is_number (T : Txt K mg e_InvalidName e_InvalidNumber e_InvalidCount e_Held e_QueueError e_Leases) (C_is_within : Ct P w K mg base CX0 2 "is_within" ["value", "least", "most"] (sp_is_within K)) (D : Df K mg "is_number" s_is_number ["value"]) : Ct P w K mg base CX0 3 "is_number" ["value"] (sp_is_number K) := by
  refine ct1 D sc_is_number fun f cdv A outer s H a_value Q E hr h => ⟨_, (pss_one (ps_ret (pe_cl C_is_within (hr.mono (by decide)) pass0 (pa_cons (pz 0) (pa_cons pe_int (pa_cons (pe_gk T.c_MOST_NUMBER) pa_nil)))))), ?_⟩
  obtain ⟨d, hd, q⟩ := h
  exact ⟨d, 1, 999999999999, hd, rfl, rfl, q⟩

/-! ### is_token(value), level 4 -/
abbrev s_is_token : Stmt := top 17
abbrev N_is_token : List Str := ["value"]
theorem sc_is_token : FnScope N_is_token ["value"] (defScope s_is_token) := ⟨rfl, rfl, rfl, by decide +kernel, rfl, by decide +kernel, by decide +kernel⟩
theorem ok_is_token (T : Txt K mg e_InvalidName e_InvalidNumber e_InvalidCount e_Held e_QueueError e_Leases) (C_is_number : Ct P w K mg base CX0 3 "is_number" ["value"] (sp_is_number K)) (D : Df K mg "is_token" s_is_token ["value"]) : Ct P w K mg base CX0 4 "is_token" ["value"] (sp_is_token K) := by
  refine ct1 D sc_is_token fun f cdv A outer s H a_value Q E hr h => ⟨_, (pss_one (ps_ret (pe_andZ (pe_callB (k_isi K) (by rfl) T.n_isinstance bt_isinstance (pa_cons (pz 0) (pa_cons (pe_bltn (v := .ty "tuple") (by rfl) T.n_tuple bt_tuple rfl) pa_nil))) (pe_andZ (pe_cmpR (k_eq K hr.units) (pe_callB (k_len K) (by rfl) T.n_len bt_len (pa_cons (pz 0) pa_nil)) pe_int (nomark _)) (pe_andZ (pe_cl C_is_number (hr.mono (by decide)) pass0 (pa_cons (pe_ix (k_ix K) (pz 0) pe_int (fun _ _ => rfl)) pa_nil)) (pe_one (pe_cl C_is_number (hr.mono (by decide)) pass0 (pa_cons (pe_ix (k_ix K) (pz 0) pe_int (fun _ _ => rfl)) pa_nil)))))))), ?_⟩
  obtain ⟨d, hd, q⟩ := h
  refine ⟨by decide, kindD d, hd.kind, ?_⟩
  cases d with
  | tuple ds =>
    obtain ⟨g, hd⟩ := hd
    cases hd with
    | @tup a xs _ h hx =>
      have ll := DzAll.len hx
      refine .inl ⟨_, .inr (SqT.of h), ?_⟩
      rcases Nat.decEq xs.length 2 with e | e
      · rw [token_len (by omega)] at q
        exact iteN (int_ne (k := 2) e) q
      · obtain ⟨x0, x1, rfl⟩ := two_of e
        cases hx with
        | @cons _ _ d0 _ h0 hx =>
          cases hx with
          | @cons _ _ d1 _ h1 hx =>
            cases hx
            have q : Q (.bl (within d0 1 999999999999 && within d1 1 999999999999)) H := q
            refine ⟨_, x0, .inr (SqT.of h), rfl, ?_⟩
            refine ⟨d0, ⟨g, h0⟩, ?_⟩
            cases e0 : within d0 1 999999999999 with
            | false =>
              rw [e0] at q
              exact q
            | true =>
              rw [e0] at q
              refine ⟨_, x1, .inr (SqT.of h), rfl, ?_⟩
              exact ⟨d1, ⟨g, h1⟩, q⟩
  | _ => exact q

/-! ### is_count(value), level 2 -/
abbrev s_is_count : Stmt := top 9
abbrev N_is_count : List Str := ["value"]
theorem sc_is_count : FnScope N_is_count ["value"] (defScope s_is_count) := ⟨rfl, rfl, rfl, by decide +kernel, rfl, by decide +kernel, by decide +kernel⟩
theorem ok_is_count (C_is_integer : Ct P w K mg base CX0 1 "is_integer" ["value"] (sp_is_integer K)) (D : Df K mg "is_count" s_is_count ["value"]) : Ct P w K mg base CX0 2 "is_count" ["value"] (sp_is_count K) := by
  refine ct1 D sc_is_count fun f cdv A outer s H a_value Q E hr h => ⟨_, (pss_one (ps_ret (pe_andZ (pe_cl C_is_integer (hr.mono (by decide)) pass0 (pa_cons (pz 0) pa_nil)) (pe_one (pe_cmpR o_ge (pz 0) pe_int (nomark _)))))), ?_⟩
  obtain ⟨d, hd, q⟩ := h
  refine ⟨d, hd, ?_⟩
  cases d with
  | int i =>
    obtain rfl := hd.int
    exact q
  | _ => exact q

/-! ### Leases_of(self, member, group), level 1 -/
abbrev s_Leases_of : Stmt := (clsB (top 19)).getD 2 (.Pass ⟨0, 0, 0, 0⟩)
abbrev N_Leases_of : List Str := ["self", "member", "group", "name", "number", "holder", "token", "_"]
theorem sc_Leases_of : FnScope N_Leases_of ["self", "member", "group"] (defScope s_Leases_of) := ⟨rfl, rfl, rfl, by decide +kernel, rfl, by decide +kernel, by decide +kernel⟩
theorem ok_Leases_of (T : Txt K mg e_InvalidName e_InvalidNumber e_InvalidCount e_Held e_QueueError e_Leases) (D : Dm K e_Leases "of" "Leases.of" s_Leases_of ["self", "member", "group"]) : Mt P w K mg base CX0 1 e_Leases "of" ["self", "member", "group"] (sp_Leases_of K) := by
  refine mt3 D sc_Leases_of fun f cdv A outer s H a_self a_member a_group Q E hr h => ⟨_, (pss_cons (ps_lock (ps_for PassesOwn.never rfl (pi_itT (pe_fdC T.k_Leases T.f_Leases__rows (pz 0))) (pg_tzK (n := 2) K (by rfl) (pgs_cz (pg_tzK (n := 2) K (by rfl) (pgs_cz (pg_name (i := 3) sc_Leases_of.nd rfl (Or.inl rfl)) (pgs_cz (pg_name (i := 4) sc_Leases_of.nd rfl (Or.inl rfl)) pgs_nz))) (pgs_cz (pg_tzK (n := 3) K (by rfl) (pgs_cz (pg_name (i := 5) sc_Leases_of.nd rfl (Or.inl rfl)) (pgs_cz (pg_name (i := 6) sc_Leases_of.nd rfl (Or.inl rfl)) (pgs_cz (pg_name (i := 7) sc_Leases_of.nd rfl (Or.inl rfl)) pgs_nz)))) pgs_nz))) 
      (pss_one (ps_if (PW.pt (pw_and (pt_cmpZ (k_eqA K hr.units) (pz 3) (pz 2) (nomark _)) (pw_and1 (pt_cmpZ (k_eqA K hr.units) (pz 5) (pz 1) (nomark _))))) 
        (pss_one (ps_ret (pe_tz (pa_cons (pz 4) (pa_cons (pz 6) pa_nil))))) pss_nil))))
    (pss_one (ps_ret pe_non))), ?_⟩
  obtain ⟨a, d, R, rfl, L, hm, hg, q1, q2⟩ := h
  have nad := L.ne
  obtain ⟨C, dx, kvs, hc, h1, h2, rw0⟩ := L.ex
  obtain rfl := hc.one T.a_Leases
  refine ⟨d, .dT kvs, h2, trivial, fun od => ?_⟩
  obtain ⟨hf, w1, back⟩ := lockF (H := H) (od := od) h2
  have rwL := rw0.tk (.wr w1 (by rw [h2]; exact fun ys z => by cases z))
  have hmL := hm.lk h2 w1
  have hgL := hg.lk h2 w1
  generalize upd H d (.frz od (.dT kvs)) = HL at hf w1 back rwL hmL hgL ⊢
  refine ⟨_, _, _, w1.keep nad h1, rfl, ?_⟩
  refine ⟨od, kvs, hf, for_y (wy_iT kvs) (fun i σ H' => Same HL H' ∧ (∀ r ∈ R.take i, hit a_group a_member r = false) ∧ ∃ v3 v4 v5 v6 v7 : Option V, σ = [some (.ref a), some a_member, some a_group, v3, v4, v5, v6, v7]) ⟨Same.refl _, (fun r hr => by cases hr), _, _, _, _, _, rfl⟩ (fun i σ H' z => z.1 _ _ hf) ?_ ?_⟩
  · rintro i x σ H1 H2 hi ⟨s1, nn, v3, v4, v5, v6, v7, rfl⟩ ⟨T', k, v, q0, hkv, hq, rfl, n2⟩
    obtain ⟨r, p, t, hr, rfl, rfl, hp, ht⟩ := rwL.at hkv
    have s2 := s1.trans n2.same
    refine ⟨_, SqT.of n2.here, rfl, ?_⟩
    refine ⟨_, SqT.of (n2.keep hq), rfl, ?_⟩
    refine ⟨_, SqT.of (s2 _ _ hp), rfl, ?_⟩
    refine ⟨_, rfl, hgL.same s2, ?_⟩
    have go : hit a_group a_member r = false → Same HL H2 ∧ (∀ x ∈ R.take (i + 1), hit a_group a_member x = false) := fun hh => ⟨s2, fun x hx => by
      rw [List.take_add_one, hr] at hx
      rcases List.mem_append.mp hx with hx | hx
      · exact nn x hx
      · obtain rfl := List.mem_singleton.mp hx
        exact hh⟩
    by_cases e1 : V.str r.g = a_group
    · refine iteY (c := decide (V.str r.g = a_group)) (decide_eq_true e1) ?_
      refine ⟨_, rfl, hmL.same s2, ?_⟩
      by_cases e2 : V.str r.m = a_member
      · refine iteY (c := decide (V.str r.m = a_member)) (decide_eq_true e2) ?_
        refine ⟨by show 2 ≤ sizeLine; decide, fun p3 H3 n3 => ?_⟩
        have s3 := s2.trans n3.same
        have hh : hit a_group a_member r = true := by unfold hit; rw [decide_eq_true e1, decide_eq_true e2]; rfl
        have np : p3 ≠ d := fun z => by have := n2.same.free n3.fresh; have := s1.free this; rw [z, hf] at this; cases this
        refine ⟨s3 _ _ hf, q2 r p3 t _ (back H3 s3) (find_hit hr nn hh) ?_ ?_ ?_⟩
        · exact wr_free w1 np (s2.free n3.fresh)
        · rw [upd_ne np]
          exact n3.here
        · rw [upd_ne (fun z => by rw [z, hf] at ht; cases ht)]
          exact s3 _ _ ht
      · refine iteN (c := decide (V.str r.m = a_member)) (decide_eq_false e2) ?_
        obtain ⟨x1, x2⟩ := go (by unfold hit; rw [decide_eq_false e2, Bool.and_false])
        exact ⟨x1, x2, _, _, _, _, _, rfl⟩
    · refine iteN (c := decide (V.str r.g = a_group)) (decide_eq_false e1) ?_
      obtain ⟨x1, x2⟩ := go (by unfold hit; rw [decide_eq_false e1, Bool.false_and])
      exact ⟨x1, x2, _, _, _, _, _, rfl⟩
  · rintro σ H1 ⟨s1, nn, v3, v4, v5, v6, v7, rfl⟩
    refine ⟨s1 _ _ hf, ?_⟩
    refine q1 _ (back H1 s1) ?_
    rw [rw0.len, List.take_length] at nn
    rw [List.find?_eq_none]
    intro x hx
    rw [nn x hx]
    decide

/-! ### Leases_give(self, member, group, number, token, end), level 5 -/
abbrev s_Leases_give : Stmt := (clsB (top 19)).getD 1 (.Pass ⟨0, 0, 0, 0⟩)
abbrev N_Leases_give : List Str := ["self", "member", "group", "number", "token", "end", "held"]
theorem sc_Leases_give : FnScope N_Leases_give ["self", "member", "group", "number", "token", "end"] (defScope s_Leases_give) := ⟨rfl, rfl, rfl, by decide +kernel, rfl, by decide +kernel, by decide +kernel⟩
theorem ok_Leases_give (T : Txt K mg e_InvalidName e_InvalidNumber e_InvalidCount e_Held e_QueueError e_Leases) (R_InvalidName : Er P w K mg base 1 "InvalidName" "given" e_InvalidName) (R_InvalidNumber : Er P w K mg base 1 "InvalidNumber" "given" e_InvalidNumber) (R_InvalidCount : Er P w K mg base 1 "InvalidCount" "given" e_InvalidCount) (R_Held : Er2 P w K mg base 1 "Held" "group" "number" e_Held) (C_is_name : Ct P w K mg base CX0 2 "is_name" ["value"] (sp_is_name K)) (C_is_integer : Ct P w K mg base CX0 1 "is_integer" ["value"] (sp_is_integer K)) (C_is_token : Ct P w K mg base CX0 4 "is_token" ["value"] (sp_is_token K)) (C_is_count : Ct P w K mg base CX0 2 "is_count" ["value"] (sp_is_count K)) (M_Leases_of : Mt P w K mg base CX0 1 e_Leases "of" ["self", "member", "group"] (sp_Leases_of K)) (D : Dm K e_Leases "give" "Leases.give" s_Leases_give ["self", "member", "group", "number", "token", "end"]) : Mt P w K mg base (L2.CX P w) 5 e_Leases "give" ["self", "member", "group", "number", "token", "end"] (sp_Leases_give K) := by
  refine mx6 D sc_Leases_give fun f cdv A outer s H a_self a_member a_group a_number a_token a_end Q E hr h => ⟨_, (pss_cons (ps_if (pt_not (pt_trK K (pe_cl C_is_name (hr.mono (by decide)) pass0 (pa_cons (pz 1) pa_nil)))) 
      (pss_one (ps_rz rfl (takes_of rfl rfl rfl rfl) R_InvalidName (hr.mono (by decide)) (pa_cons (pz 1) pa_nil))) pss_nil)
    (pss_cons (ps_if (pt_not (pt_trK K (pe_cl C_is_name (hr.mono (by decide)) pass0 (pa_cons (pz 2) pa_nil)))) 
      (pss_one (ps_rz rfl (takes_of rfl rfl rfl rfl) R_InvalidName (hr.mono (by decide)) (pa_cons (pz 2) pa_nil))) pss_nil)
    (pss_cons (ps_if (PW.pt (pw_or (pt_not (pt_trK K (pe_cl C_is_integer (hr.mono (by decide)) pass0 (pa_cons (pz 3) pa_nil)))) (pw_or1 (pt_cmpZ o_ltS (pz 3) pe_int (nomark _))))) 
      (pss_one (ps_rz rfl (takes_of rfl rfl rfl rfl) R_InvalidNumber (hr.mono (by decide)) (pa_cons (pz 3) pa_nil))) pss_nil)
    (pss_cons (ps_if (pt_not (pt_trK K (pe_cl C_is_token (hr.mono (by decide)) pass0 (pa_cons (pz 4) pa_nil)))) 
      (pss_one (ps_rz rfl (takes_of rfl rfl rfl rfl) R_InvalidNumber (hr.mono (by decide)) (pa_cons (pz 4) pa_nil))) pss_nil)
    (pss_cons (ps_if (pt_not (pt_trK K (pe_cl C_is_count (hr.mono (by decide)) pass0 (pa_cons (pz 5) pa_nil)))) 
      (pss_one (ps_rz rfl (takes_of rfl rfl rfl rfl) R_InvalidCount (hr.mono (by decide)) (pa_cons (pz 5) pa_nil))) pss_nil)
    (pss_cons (ps_if (pt_cmpZ (o_inT (hu_of hr)) (pe_tz (pa_cons (pz 2) (pa_cons (pz 3) pa_nil))) (pe_fdC T.k_Leases T.f_Leases__rows (pz 0)) (by rfl)) 
      (pss_one (ps_rz2 rfl (takes_of rfl rfl rfl rfl) R_Held (hr.mono (by decide)) (pa_cons (pz 2) (pa_cons (pz 3) pa_nil)))) pss_nil)
    (pss_cons (ps_set (i := 6) sc_Leases_give.nd rfl (Or.inl rfl) (pe_mtA M_Leases_of (hr.mono (by decide)) at0 (pz 0) (pa_cons (pz 1) (pa_cons (pz 2) pa_nil))))
    (pss_cons (ps_if (pt_cmpZ o_isn (pz 6) pe_non (nomark _)) 
      (pss_one (ps_rz2 rfl (takes_of rfl rfl rfl rfl) R_Held (hr.mono (by decide)) (pa_cons (pz 2) (pa_cons (pe_ix (k_ix K) (pz 6) pe_int (fun _ _ => rfl)) pa_nil)))) pss_nil)
    (pss_one (ps_asg (pe_tz (pa_cons (pz 1) (pa_cons (pz 4) (pa_cons (pz 5) pa_nil)))) (pg_sub (pe_fdC T.k_Leases T.f_Leases__rows (pz 0)) (pe_tz (pa_cons (pz 2) (pa_cons (pz 3) pa_nil))) (s_dictT (hu_of hr))))))))))))), ?_⟩
  obtain ⟨a, d, R, dm, dg, dn, dt, de, rfl, L, lR, hm, am, hg, ag, hn, ht, he, j⟩ := h
  obtain ⟨C, dx, kvs, hc, h1, h2, rw0⟩ := id L.ex
  obtain rfl := hc.one T.a_Leases
  refine ⟨dm, hm, am, ?_⟩
  rcases j with ⟨b, z⟩ | ⟨g1, j⟩
  · rw [b]
    exact fun dd H2 n2 => z.go T.a_InvalidName (Same.refl _) n2
  rw [g1]
  refine zTr_bl ?_; dsimp only; rw [if_neg (show ¬ (!true) = true by decide)]
  refine ⟨dg, hg, ag, ?_⟩
  rcases j with ⟨b, z⟩ | ⟨g2, j⟩
  · rw [b]
    exact fun dd H2 n2 => z.go T.a_InvalidName (Same.refl _) n2
  rw [g2]
  refine zTr_bl ?_; dsimp only; rw [if_neg (show ¬ (!true) = true by decide)]
  refine ⟨dn, hn, ?_⟩
  rcases j with ⟨b, z⟩ | ⟨g3, j⟩
  · rcases pos_no b with e | ⟨i, rfl, ni⟩
    · rw [e]
      exact fun dd H2 n2 => z.go T.a_InvalidNumber (Same.refl _) n2
    · obtain rfl := hn.int
      refine iteY (c := decide (i < 1)) (decide_eq_true (by omega)) ?_
      exact fun dd H2 n2 => z.go T.a_InvalidNumber (Same.refl _) n2
  obtain ⟨i, rfl, hi⟩ := pos_int g3
  obtain rfl := hn.int
  refine iteN (c := decide (i < 1)) (decide_eq_false (by omega)) ?_
  refine ⟨dt, ht, ?_⟩
  rcases j with ⟨b, z⟩ | ⟨g4, j⟩
  · rw [b]
    exact fun dd H2 n2 => z.go T.a_InvalidNumber (Same.refl _) n2
  rw [g4]
  refine zTr_bl ?_; dsimp only; rw [if_neg (show ¬ (!true) = true by decide)]
  refine ⟨de, he, ?_⟩
  rcases j with ⟨b, z⟩ | ⟨g5, r, rfl, rfl, e3, rfl, rfl, z1, z2, z3⟩
  · rw [b]
    exact fun dd H2 n2 => z.go T.a_InvalidCount (Same.refl _) n2
  rw [g5]
  refine zTr_bl ?_; dsimp only; rw [if_neg (show ¬ (!true) = true by decide)]
  obtain rfl : i = r.n := PyData.int.inj e3
  obtain rfl := hm.str
  obtain rfl := hg.str
  obtain rfl := he.int
  obtain ⟨tk, rfl, htk⟩ : ∃ tk, a_token = .ref tk ∧ H tk = some (.tup [.int r.t1, .int r.t2]) := by
    obtain ⟨g, ht⟩ := ht
    cases ht with
    | tup h1 h2 =>
      cases h2 with
      | cons x h2 =>
        cases h2 with
        | cons y h2 =>
          cases h2
          cases x
          cases y
          exact ⟨_, rfl, h1⟩
  refine ⟨by show 2 ≤ sizeLine; decide, fun p1 H1 n1 => ?_⟩
  refine ⟨_, _, _, n1.keep h1, rfl, ?_⟩
  refine ⟨kvs, r.key, n1.keep h2, n1.here, ?_⟩
  rcases rw0.val r.g r.n with ⟨f, e⟩ | ⟨x, p, t, f, e, hp, ht⟩
  · rw [show valV kvs r.key = none from e]
    refine ⟨_, _, n1.keep h1, rfl, ?_⟩
    refine ⟨a, d, R, rfl, L.same n1.same, trivial, trivial, fun H2 s2 e2 => ?_, fun x p t H2 s2 e2 f1 c1 c2 => ?_⟩
    · have s02 := n1.same.trans s2
      refine ⟨by show 3 ≤ sizeLine; decide, fun p3 H3 n3 => ?_⟩
      have s03 := s02.trans n3.same
      refine ⟨_, _, _, s03 _ _ h1, rfl, ?_⟩
      refine ⟨by show 2 ≤ sizeLine; decide, fun p4 H4 n4 => ?_⟩
      have s04 := s03.trans n4.same
      refine ⟨kvs, r.key, s04 _ _ h2, n4.here, by rw [rw0.len]; exact Nat.lt_of_le_of_lt lR (by decide), fun H5 w5 => ?_⟩
      have t5 : Tk H4 H5 := .wr w5 (by rw [s04 _ _ h2]; exact fun ys z => by cases z)
      refine z3 f e2 H5 (Kp.wr (Kp.same s04) (by simp) w5) ⟨_, _, _, hc, w5.keep L.ne (s04 _ _ h1), w5.here, ?_⟩
      rw [putK_new (k := r.key) _ e]
      exact (rw0.tk ((Tk.same s04).trans t5)).snoc (t5 _ _ (n4.keep n3.here)) (t5 _ _ (s04 _ _ htk))
    · refine ⟨_, .int x.n, .inr (SqT.of c1), rfl, ?_⟩
      exact fun dd H3 n3 => (z2 x f e2).go T.a_Held (n1.same.trans s2) n3
  · rw [show valV kvs r.key = some (.ref p) from e]
    exact fun dd H2 n2 => (z1 x f).go T.a_Held n1.same n2

/-! ### _law_give(_law_leases, _law_row_here, _law_by_names), level 6 -/
abbrev s__law_give : Stmt := top 30
abbrev N__law_give : List Str := ["_law_leases", "_law_row_here", "_law_by_names", "_law_told", "e"]
theorem sc__law_give : FnScope N__law_give ["_law_leases", "_law_row_here", "_law_by_names"] (defScope s__law_give) := ⟨rfl, rfl, rfl, by decide +kernel, rfl, by decide +kernel, by decide +kernel⟩
theorem ok__law_give (T : Txt K mg e_InvalidName e_InvalidNumber e_InvalidCount e_Held e_QueueError e_Leases) (M_Leases_give : Mt P w K mg base (L2.CX P w) 5 e_Leases "give" ["self", "member", "group", "number", "token", "end"] (sp_Leases_give K)) (MK_Leases_give_end_token_group_number_member : MtK P w K mg base (L2.CX P w) 5 e_Leases "give" ["self", "member", "group", "number", "token", "end"] ["end", "token", "group", "number", "member"] perm_4_2_3_1_0 (sp_Leases_give K)) (D : Df K mg "_law_give" s__law_give ["_law_leases", "_law_row_here", "_law_by_names"]) : Ct P w K mg base CX0 6 "_law_give" ["_law_leases", "_law_row_here", "_law_by_names"] (sp__law_give K) := by
  refine ct3 D sc__law_give fun f cdv A outer s H a_leases a_row_here a_by_names Q E hr h => ⟨_, (pss_cons (ps_tryC rfl rfl sc__law_give.nd takes0 (fun W pn xe tk ps => 
        (pss_one (ps_if (pt_trK K (pz 2)) 
          (pss_one (ps_set (i := 3) sc__law_give.nd rfl (Or.inl rfl) (pe_mtK MK_Leases_give_end_token_group_number_member (hr.mono (by decide)) (passAt tk) (pz 0) (pk_cons (pe_ix (k_ix K) (pz 1) pe_int (fun _ _ => rfl)) (pk_cons (pe_ix (k_ix K) (pz 1) pe_int (fun _ _ => rfl)) (pk_cons (pe_ix (k_ix K) (pz 1) pe_int (fun _ _ => rfl)) (pk_cons (pe_ix (k_ix K) (pz 1) pe_int (fun _ _ => rfl)) (pk_cons (pe_ix (k_ix K) (pz 1) pe_int (fun _ _ => rfl)) pk_nil)))))))) 
          (pss_one (ps_set (i := 3) sc__law_give.nd rfl (Or.inl rfl) (pe_mtA M_Leases_give (hr.mono (by decide)) (passAt tk) (pz 0) (pa_cons (pe_ix (k_ix K) (pz 1) pe_int (fun _ _ => rfl)) (pa_cons (pe_ix (k_ix K) (pz 1) pe_int (fun _ _ => rfl)) (pa_cons (pe_ix (k_ix K) (pz 1) pe_int (fun _ _ => rfl)) (pa_cons (pe_ix (k_ix K) (pz 1) pe_int (fun _ _ => rfl)) (pa_cons (pe_ix (k_ix K) (pz 1) pe_int (fun _ _ => rfl)) pa_nil))))))))))) (.cons (i := 4) ⟨rfl, by decide, .inl T.g_Held⟩ rfl rfl (fun a oe cls d pn hz hf => 
        (pss_one (ps_ret (pe_tz (pa_cons pe_str (pa_cons (pe_xf T.s_Held.xf T.n_Held hz hf (pz 4)) (pa_cons (pe_xf T.s_Held.xf T.m_Held hz hf (pz 4)) pa_nil))))))) .nil))
    (pss_one (ps_ret (pe_tz (pa_cons pe_str (pa_cons (pz 3) pa_nil)))))), ?_⟩
  obtain ⟨a, d, R, p, r, t, by_, rfl, rfl, rfl, L, lR, gr, ⟨hp, ht⟩, q1, q2, q3⟩ := h
  obtain ⟨C, dx, kvs, hc, h1, h2, rw0⟩ := id L.ex
  obtain rfl := hc.one T.a_Leases
  have dt : Vd H (.ref t) r.tokD := ⟨false, .tup ht (.cons (.int _) (.cons (.int _) .nil))⟩
  have dm : Vd H (.str r.m) (.str r.m) := ⟨false, .str _⟩
  have dg : Vd H (.str r.g) (.str r.g) := ⟨false, .str _⟩
  have dn : Vd H (.int r.n) (.int r.n) := ⟨false, .int _⟩
  have de : Vd H (.int r.e) (.int r.e) := ⟨false, .int _⟩
  obtain ⟨nm, am, _⟩ := gn_of gr.m
  obtain ⟨ng, ag, _⟩ := gn_of gr.g
  cases by_
  case' true =>
    refine ⟨_, _, h1, rfl, ?_⟩
  case' false =>
    refine ⟨_, _, h1, rfl, ?_⟩
  all_goals
    refine ⟨_, _, .inr (SqT.of hp), rfl, ?_⟩
    refine ⟨_, _, .inr (SqT.of hp), rfl, ?_⟩
    refine ⟨_, _, .inr (SqT.of hp), rfl, ?_⟩
    refine ⟨_, _, .inr (SqT.of hp), rfl, ?_⟩
    refine ⟨_, _, .inr (SqT.of hp), rfl, ?_⟩
    refine ⟨a, d, R, _, _, _, _, _, rfl, L, lR, dm, am, dg, ag, dn, dt, de, .inr ⟨nm, .inr ⟨ng, .inr ⟨gr.n, .inr ⟨gr.t, .inr ⟨gr.e, ?_⟩⟩⟩⟩⟩⟩
    refine ⟨r, rfl, rfl, rfl, rfl, rfl, fun x f => ?_, fun x f g => ?_, fun f g H2 kp L2 => ?_⟩
  all_goals
    first
    | refine ⟨by show 2 ≤ sizeLine; decide, fun p H3 n3 => ?_⟩
      have fr : H p = none := by
        cases e : H p with
        | none => rfl
        | some u =>
          by_cases z : p = d
          · obtain ⟨_, _, _, _, _, y, _⟩ := L2.ex
            have := n3.fresh
            rw [z, y] at this
            cases this
          · have := kp.at (by simp [z]) e
            rw [n3.fresh] at this
            cases this
      exact q3 f g p H3 (kp.nw n3) fr (L2.same n3.same) n3.here
    | refine fun CE dE H2 hcE s2 hdE => ?_
      obtain rfl := hcE.one T.a_Held
      refine ⟨true, T.s_Held.exm T.x_Held_Held, fun _ ax nax => ?_, fun z => by cases z⟩
      refine ⟨rfl, rfl, dE, _, _, rfl, hdE, rfl, ?_⟩
      refine ⟨rfl, rfl, dE, _, _, rfl, hdE, rfl, ?_⟩
      refine ⟨by show 3 ≤ sizeLine; decide, fun p H4 n4 => ?_⟩
      first
      | exact q2 x f g p H4 (s2.trans n4.same) (s2.free n4.fresh) n4.here
      | exact q1 x f p H4 (s2.trans n4.same) (s2.free n4.fresh) n4.here

/-! ### Leases_holder(self, group, number), level 3 -/
abbrev s_Leases_holder : Stmt := (clsB (top 19)).getD 3 (.Pass ⟨0, 0, 0, 0⟩)
abbrev N_Leases_holder : List Str := ["self", "group", "number"]
theorem sc_Leases_holder : FnScope N_Leases_holder ["self", "group", "number"] (defScope s_Leases_holder) := ⟨rfl, rfl, rfl, by decide +kernel, rfl, by decide +kernel, by decide +kernel⟩
theorem ok_Leases_holder (T : Txt K mg e_InvalidName e_InvalidNumber e_InvalidCount e_Held e_QueueError e_Leases) (C_is_integer : Ct P w K mg base CX0 1 "is_integer" ["value"] (sp_is_integer K)) (C_is_name : Ct P w K mg base CX0 2 "is_name" ["value"] (sp_is_name K)) (D : Dm K e_Leases "holder" "Leases.holder" s_Leases_holder ["self", "group", "number"]) : Mt P w K mg base CX0 3 e_Leases "holder" ["self", "group", "number"] (sp_Leases_holder K) := by
  refine mt3 D sc_Leases_holder fun f cdv A outer s H a_self a_group a_number Q E hr h => ⟨_, (pss_cons (ps_if (PW.pt (pw_or (pt_not (pt_trK K (pe_cl C_is_name (hr.mono (by decide)) pass0 (pa_cons (pz 1) pa_nil)))) (pw_or (pt_not (pt_trK K (pe_cl C_is_integer (hr.mono (by decide)) pass0 (pa_cons (pz 2) pa_nil)))) (pw_or1 (pt_cmpZ (o_ninT (hu_of hr)) (pe_tz (pa_cons (pz 1) (pa_cons (pz 2) pa_nil))) (pe_fdC T.k_Leases T.f_Leases__rows (pz 0)) (by rfl)))))) 
      (pss_one (ps_ret pe_non)) pss_nil)
    (pss_one (ps_ret (pe_slice (k_sl K) (pe_dgT (hu_of hr) (pe_fdC T.k_Leases T.f_Leases__rows (pz 0)) (pe_tz (pa_cons (pz 1) (pa_cons (pz 2) pa_nil))) (fun _ _ => rfl)) po_none (po_z pe_int))))), ?_⟩
  obtain ⟨a, d, R, dg, dn, rfl, L, hg, ag, hn, q1, q2⟩ := h
  obtain ⟨C, dx, kvs, hc, h1, h2, rw0⟩ := L.ex
  obtain rfl := hc.one T.a_Leases
  refine ⟨dg, hg, ag, ?_⟩
  cases eg : nameD dg with
  | false => exact q1 H (Same.refl H) (hk_bad1 eg)
  | true =>
    refine ⟨dn, hn, ?_⟩
    cases en : M3.intD dn with
    | false => exact q1 H (Same.refl H) (hk_bad2 en)
    | true =>
      obtain ⟨x, rfl⟩ := name_str eg
      obtain ⟨i, rfl⟩ := int_int en
      obtain rfl := hg.str
      obtain rfl := hn.int
      refine ⟨by show 2 ≤ sizeLine; decide, fun p1 H1 n1 => ?_⟩
      refine ⟨_, _, _, n1.keep h1, rfl, ?_⟩
      refine ⟨kvs, [.inr x, .inl i], n1.keep h2, n1.here, ?_⟩
      rw [hk_at eg] at q1 q2
      rcases rw0.val x i with ⟨f, e⟩ | ⟨r, p, t, f, e, hp, ht⟩
      · rw [e]
        exact q1 H1 n1.same f
      · rw [e]
        refine ⟨_, _, _, n1.keep h1, rfl, ?_⟩
        refine ⟨⟨kvs, n1.keep h2⟩, ?_⟩
        refine ⟨by show 2 ≤ sizeLine; decide, fun p2 H2 n2 => ?_⟩
        refine ⟨kvs, [.inr x, .inl i], p2, .ref p, n2.keep (n1.keep h2), rfl, n2.here, e, ?_⟩
        have s2 := n1.same.trans n2.same
        refine .inr ⟨_, SqT.of (s2 _ _ hp), (fun z => by have := z.2; rw [sIx_pos (by decide)] at this; exact absurd (show min (Int.toNat 2) 3 = 3 from this) (by decide)), fun _ p3 H3 n3 => ?_⟩
        have s3 := s2.trans n3.same
        exact q2 r p3 t H3 s3 f (s2.free n3.fresh) n3.here (s3 _ _ ht)

/-! ### Leases_drop(self, group, number), level 4 -/
abbrev s_Leases_drop : Stmt := (clsB (top 19)).getD 5 (.Pass ⟨0, 0, 0, 0⟩)
abbrev N_Leases_drop : List Str := ["self", "group", "number"]
theorem sc_Leases_drop : FnScope N_Leases_drop ["self", "group", "number"] (defScope s_Leases_drop) := ⟨rfl, rfl, rfl, by decide +kernel, rfl, by decide +kernel, by decide +kernel⟩
theorem ok_Leases_drop (T : Txt K mg e_InvalidName e_InvalidNumber e_InvalidCount e_Held e_QueueError e_Leases) (M_Leases_holder : Mt P w K mg base CX0 3 e_Leases "holder" ["self", "group", "number"] (sp_Leases_holder K)) (D : Dm K e_Leases "drop" "Leases.drop" s_Leases_drop ["self", "group", "number"]) : Mt P w K mg base CX0 4 e_Leases "drop" ["self", "group", "number"] (sp_Leases_drop K) := by
  refine mt3 D sc_Leases_drop fun f cdv A outer s H a_self a_group a_number Q E hr h => ⟨_, (pss_cons (ps_if (pt_cmpZ o_is (pe_mtA M_Leases_holder (hr.mono (by decide)) at0 (pz 0) (pa_cons (pz 1) (pa_cons (pz 2) pa_nil))) pe_non (nomark _)) 
      (pss_one (ps_ret pe_bl)) pss_nil)
    (pss_cons (ps_ddelT (hu_of hr) (pe_fdC T.k_Leases T.f_Leases__rows (pz 0)) (pe_tz (pa_cons (pz 1) (pa_cons (pz 2) pa_nil))))
    (pss_one (ps_ret pe_bl)))), ?_⟩
  obtain ⟨a, d, R, dg, dn, rfl, L, hg, ag, hn, q1, q2⟩ := h
  obtain ⟨C, dx, kvs, hc, h1, h2, rw0⟩ := id L.ex
  obtain rfl := hc.one T.a_Leases
  refine ⟨_, _, h1, rfl, ?_⟩
  refine ⟨a, d, R, dg, dn, rfl, L, hg, ag, hn, fun H1 s1 e => q1 H1 s1 e, fun r p t H1 s1 e f1 c1 c2 => ?_⟩
  obtain ⟨g, n, rfl, rfl, hnm, hf, rfl, rfl⟩ := hk_some e
  obtain rfl := hg.str
  obtain rfl := hn.int
  refine ⟨_, _, _, s1 _ _ h1, rfl, ?_⟩
  refine ⟨by show 2 ≤ sizeLine; decide, fun p2 H2 n2 => ?_⟩
  have s2 := s1.trans n2.same
  refine ⟨kvs, r.key, s2 _ _ h2, n2.here, ?_, fun H3 w3 => ?_⟩
  · rcases rw0.val r.g r.n with ⟨f, e⟩ | ⟨r', p', t', f, e, hp, ht⟩
    · rw [f] at hf; cases hf
    · show (valV kvs [.inr r.g, .inl r.n]).isSome = true
      rw [e]; rfl
  · refine q2 r H3 (Kp.wr (Kp.same s2) (by simp) w3) e ⟨_, _, _, hc, w3.keep L.ne (s2 _ _ h1), w3.here, ?_⟩
    exact ((rw0.drop r.g r.n).tk (.same s2)).tk (.wr w3 (by rw [s2 _ _ h2]; exact fun ys z => by cases z))

theorem did_give {K : PySem.W.Frag} {H : Hp} {D : Ends} {b s a d L nm cl il : Addr} {R : List Lr} {xs : List V} {names clubs : List Str} {ids : List Int} {m n : Nat} {way : Int} {v9 v10 v8 v11 v12 v13 : Option V}
    (hB : BoxAt n H b) (hn : n < 750000) (se : Seat K H s a d L nm cl il R xs names clubs ids m) (hm : m ≤ 4000) (nb : b ∉ [s, L, nm, cl, il]) (nL : L ∉ [s, nm, cl, il])
    (q : ∀ R' xs' H2, Kp [b, d, L] H H2 → BoxAt (n + 11) H2 b → Seat K H2 s a d L nm cl il R' xs' names clubs ids (m + 1) → D.rt (.bl true) H2) :
    tSeq (tAsg (tCl (sp__law_row K) E0 (tCons (tV 0) (tCons (tV 1) tNil))) (gName 8))
            (tSeq (tAsg (tCl (sp__law_due K) E0 (tCons (tV 3) (tCons (tV 8) tNil))) (gName 9))
              (tSeq
                (tAsg
                  (tCl (sp__law_give K) E0
                    (tCons (tV 2) (tCons (tV 8) (tCons (tOp (zEq K false) (tV 7) (tC (V.int 4))) tNil))))
                  (gName 10))
                (tSeq
                  (tIfS (tBz (tOp (zIs true) (tV 9) (tC V.non)))
                    (tRet
                      (tOp (zEq K false) (tV 10)
                        (tTz
                          (tCons (tC (V.str (Str.ofString "held")))
                            (tCons (tOp (zIx K) (tV 9) (tC (V.int 0)))
                              (tCons (tOp (zIx K) (tV 9) (tC (V.int 1))) tNil))))))
                    tNext)
                  (tSeq (tDrop (tMl K zApp (tV 3) (tCons (tV 8) tNil)))
                    (tRet
                      (tOp (zEq K false) (tV 10)
                        (tTz (tCons (tC (V.str (Str.ofString "given"))) (tCons (tC V.non) tNil)))))))))
      D [some (.ref b), some (.ref s), some (.ref a), some (.ref L), some (.ref nm), some (.ref cl), some (.ref il), some (.int way), v8, v9, v10, v11, v12, v13] H := by
  obtain ⟨C, dx, kvs, hc, h1, h2, rw0⟩ := id se.ls.ex
  have bd : b ≠ d := by
    obtain ⟨zs, hb⟩ := box_lst hB
    exact ne_kind hb h2 (fun z => by cases z)
  have Ld : L ≠ d := ne_kind se.hL h2 (fun z => by cases z)
  have aL : a ≠ L := ne_kind h1 se.hL (fun z => by cases z)
  have bL : b ≠ L := fun z => nb (by rw [z]; simp)
  have ln0 := se.ln
  refine ⟨b, _, s, a, d, L, nm, cl, il, R, xs, names, clubs, ids, rfl, rfl, hB, by omega, se.mono (by omega), nb, fun p r t H2 t2 B2 fp gr hp => ?_⟩
  have s2 := se.box hB nb t2
  have k2 : Kp [b, d, L] H H2 := (Kp.but t2).sub (by simp)
  refine ⟨L, xs, R, p, r, t, rfl, rfl, s2.hL, s2.fl, hp, fun x p3 H3 f n3 => ?_, fun x p3 H3 f f2 n3 => ?_, fun f f2 => ?_⟩
  · have s3 := s2.same n3.same
    refine ⟨a, d, R, p, r, t, _, rfl, rfl, rfl, s3.ls, by omega, gr, ⟨n3.keep hp.1, n3.keep hp.2⟩, fun x' f' p4 H4 s4 fr4 h4 => ?_, fun x' f' => (by rw [f] at f'; cases f'), fun f' => (by rw [f] at f'; cases f')⟩
    refine ⟨_, _, .inr (SqT.of (s4 _ _ n3.here)), rfl, ?_⟩
    refine ⟨_, _, .inr (SqT.of (s4 _ _ n3.here)), rfl, ?_⟩
    refine ⟨by show 3 ≤ sizeLine; decide, fun p5 H5 n5 => ?_⟩
    have sh : SeqAt.shaped (.tuple [.str "held", .str r.g, .int r.n]) = true := sht_ok (by rw [List.all_cons, List.all_cons, ok_held, show okA (.str r.g) = true from (okg gr).1]; rfl)
    refine ⟨_, _, .tup (SqT.of (n5.keep h4)) (.cons (.str _) (.cons (.str _) (.cons (.int _) .nil))), .tup (SqT.of n5.here) (.cons (.str _) (.cons (.str _) (.cons (.int _) .nil))), sh, sh, ?_⟩
    rw [eqv_self sh]
    have s25 := (n3.same.trans s4).trans n5.same
    exact q R xs H5 (k2.trans (.same s25)) ((B2.same s25).mono (by omega)) ((s2.same s25).mono (by omega))
  · have s3 := s2.same n3.same
    refine ⟨a, d, R, p, r, t, _, rfl, rfl, rfl, s3.ls, by omega, gr, ⟨n3.keep hp.1, n3.keep hp.2⟩, fun x' f' => (by rw [f] at f'; cases f'), fun x' f' f3 p4 H4 s4 fr4 h4 => ?_, fun f' f3 => (by rw [f2] at f3; cases f3)⟩
    obtain rfl : x = x' := by rw [f2] at f3; exact Option.some.inj f3
    refine ⟨_, _, .inr (SqT.of (s4 _ _ n3.here)), rfl, ?_⟩
    refine ⟨_, _, .inr (SqT.of (s4 _ _ n3.here)), rfl, ?_⟩
    refine ⟨by show 3 ≤ sizeLine; decide, fun p5 H5 n5 => ?_⟩
    have sh : SeqAt.shaped (.tuple [.str "held", .str r.g, .int x.n]) = true := sht_ok (by rw [List.all_cons, List.all_cons, ok_held, show okA (.str r.g) = true from (okg gr).1]; rfl)
    refine ⟨_, _, .tup (SqT.of (n5.keep h4)) (.cons (.str _) (.cons (.str _) (.cons (.int _) .nil))), .tup (SqT.of n5.here) (.cons (.str _) (.cons (.str _) (.cons (.int _) .nil))), sh, sh, ?_⟩
    rw [eqv_self sh]
    have s25 := (n3.same.trans s4).trans n5.same
    exact q R xs H5 (k2.trans (.same s25)) ((B2.same s25).mono (by omega)) ((s2.same s25).mono (by omega))
  · obtain ⟨_, _, kv2, _, ha2, hd2, _⟩ := id s2.ls.ex
    refine ⟨a, d, R, p, r, t, _, rfl, rfl, rfl, s2.ls, by omega, gr, hp, fun x' f' => (by rw [f] at f'; cases f'), fun x' f' f3 => (by rw [f2] at f3; cases f3), fun _ _ p4 H4 k4 fr4 ls4 h4 => ?_⟩
    have nd : ∀ x ∈ ([d] : List Addr), ∀ ys, H2 x ≠ some (.tup ys) := fun x hx ys e => by
      rw [List.mem_singleton.mp hx, hd2] at e
      cases e
    have T4 : Tk H2 H4 := .kp k4 nd
    have hL4 := k4.at (by simp [Ld]) s2.hL
    refine ⟨⟨_, SqL.of hL4⟩, ?_⟩
    refine ⟨xs, hL4, (by rw [s2.fl.len]; exact Nat.lt_of_le_of_lt ln0 (Nat.lt_of_le_of_lt hm (by decide))), fun H5 w5 => ?_⟩
    have nL4 : ∀ ys, H4 L ≠ some (.tup ys) := fun ys e => by rw [hL4] at e; cases e
    have T5 : Tk H4 H5 := .wr w5 nL4
    refine ⟨by show 2 ≤ sizeLine; decide, fun p6 H6 n6 => ?_⟩
    have sh : SeqAt.shaped (.tuple [.str "given", .none]) = true := sht_ok (by rw [List.all_cons, ok_given]; rfl)
    refine ⟨_, _, .tup (SqT.of (n6.keep (T5 _ _ h4))) (.cons (.str _) (.cons .non .nil)), .tup (SqT.of n6.here) (.cons (.str _) (.cons .non .nil)), sh, sh, ?_⟩
    rw [eqv_self sh]
    have k5 : Kp [b, d, L] H H5 := Kp.wr (k2.trans (k4.sub (by simp))) (by simp) w5
    have k6 : Kp [b, d, L] H H6 := k5.trans (.same n6.same)
    have B4 := B2.kp k4 (by simp [bd])
    have B5 := B4.kp (Kp.wr (l := [L]) .refl (by simp) w5) (by simp [bL])
    refine q (R ++ [r]) (xs ++ [.ref p]) H6 k6 ((B5.same n6.same).mono (by omega)) ?_
    have ls5 : LsAt K H5 a d (R ++ [r]) := ls4.kp (Kp.wr (l := [L]) .refl (by simp) w5) (fun x hx ys e => by rw [List.mem_singleton.mp hx] at e; exact nL4 ys e) (by simp [aL]) (by simp [Ld.symm])
    have T6 : Tk H2 H6 := (T4.trans T5).trans (.same n6.same)
    refine se.put nb nL k6 (ls5.same n6.same) (n6.keep w5.here) ((s2.fl.tk T6).snoc (T6 _ _ hp.1) (T6 _ _ hp.2)) (fun x hx => ?_) (uk_snoc se.uk f) (by rw [List.length_append, List.length_singleton]; omega)
    rcases List.mem_append.mp hx with hx | hx
    · exact se.gd x hx
    · rw [List.mem_singleton.mp hx]; exact gr
theorem did_tail {K : PySem.W.Frag} {G : Hp} {D : Ends} {C dx a d L : Addr} {R : List Lr} {xs : List V} {g : Str} {no way : Int} {v0 v1 v4 v5 v6 v8 v9 v10 v13 : Option V}
    (hc : clsAt K "Leases" C) (ha : G a = some (.ins C dx [("_rows", .ref d)])) (Ld : L ≠ d) (aL : a ≠ L) (ls : LsAt K G a d R) (hL : G L = some (.lst xs)) (fl : Fl G xs R) (uk : Uk R) (gG : gn g = true)
    (q1 : ∀ G1, Same G G1 → D.rt (.bl true) G1)
    (q2 : ∀ G1 R' xs', Kp [d, L] G G1 → LsAt K G1 a d R' → G1 L = some (.lst xs') → Fl G1 xs' R' → (∀ x ∈ R', x ∈ R) → Uk R' → R'.length ≤ R.length → D.rt (.bl true) G1) :
    tSeq (tAsg (tCl (sp__law_holding K) E0 (tCons (tV 3) (tCons (tV 11) (tCons (tV 12) tNil)))) (gName 13))
              (tSeq
                (tAsg
                  (tIf (tBz (tOp (zEq K false) (tV 7) (tC (V.int 5))))
                    (tMtK C (Str.ofString "drop") (fun {α} => perm_1_0) (sp_Leases_drop K) (fun x => E0) (tV 2)
                      (tCons (tV 12) (tCons (tV 11) tNil)))
                    (tMt C (Str.ofString "drop") (sp_Leases_drop K) (fun x => E0) (tV 2)
                      (tCons (tV 11) (tCons (tV 12) tNil))))
                  (gName 10))
                (tSeq
                  (tIfS (tBz (tOp (zIs false) (tV 13) (tC V.non))) (tRet (tOp (zIs false) (tV 10) (tC (V.bl false))))
                    tNext)
                  (tSeq (tDrop (tMl K (zRemD K) (tV 3) (tCons (tV 13) tNil)))
                    (tRet (tOp (zIs false) (tV 10) (tC (V.bl true)))))))
      D [v0, v1, some (.ref a), some (.ref L), v4, v5, v6, some (.int way), v8, v9, v10, some (.str g), some (.int no), v13] G := by
  refine ⟨L, xs, R, g, no, rfl, rfl, rfl, hL, fl, fun f => ?_, fun j x p t hj hxj nok iK f hx => ?_⟩
  all_goals
    refine ite2 (fun hc3 => ?_) (fun hc3 => ?_)
  all_goals
    refine ⟨_, _, ha, rfl, ?_⟩
    refine ⟨a, d, R, .str g, .int no, rfl, ls, ⟨false, .str _⟩, (gn_of gG).2.1, ⟨false, .int _⟩, fun G1 u1 e => ?_, fun y G1 u1 e ls1 => ?_⟩
  all_goals rw [hk_at (gn_of gG).1] at e
  all_goals rw [f] at e
  all_goals try (cases e; done)
  all_goals
    first
    | have ey := Option.some.inj e
    | exact q1 G1 u1
  all_goals
    subst ey
    have l1 : G1 L = some (.lst xs) := u1.at (by simp [Ld]) hL
    have nd : ∀ z ∈ ([d] : List Addr), ∀ ys, G z ≠ some (.tup ys) := fun z hz ys w => by
      obtain ⟨_, _, _, _, _, hd, _⟩ := ls.ex
      rw [List.mem_singleton.mp hz, hd] at w
      cases w
    have T1 : Tk G G1 := .kp u1 nd
    refine ⟨⟨_, SqL.of l1⟩, ?_⟩
    refine ⟨xs, R.map Lr.d, x.d, j, l1, (fl.tk T1).dz, ?_, plain_rows R, rfl, ?_, place hj ?_, fun G2 w2 => ?_⟩
    · exact .tup (T1 _ _ hx.1) (.cons (.str _) (.cons (.int _) (.cons (.str _) (.cons (.tup (T1 _ _ hx.2) (.cons (.int _) (.cons (.int _) .nil))) (.cons (.int _) .nil)))))
    · exact (show x.d.depth = 2 from rfl) ▸ (by decide)
    · obtain ⟨e1, e2⟩ : x.g = g ∧ x.n = no := by
        unfold isK at iK
        rw [Bool.and_eq_true, decide_eq_true_iff, decide_eq_true_iff] at iK
        exact iK
      rw [e1, e2]
      exact nok
    · rw [uk_drop uk hj] at ls1
      have nL1 : ∀ ys, G1 L ≠ some (.tup ys) := fun ys w => by rw [l1] at w; cases w
      exact q2 G2 (R.eraseIdx j) (xs.eraseIdx j) (Kp.wr (u1.sub (by simp)) (by simp) w2) (ls1.kp (Kp.wr (l := [L]) .refl (by simp) w2) (fun z hz ys w => by rw [List.mem_singleton.mp hz] at w; exact nL1 ys w) (by simp [aL]) (by simp [Ld.symm])) w2.here
        (((fl.tk T1).tk (.wr w2 nL1)).erase j) (fun z hz => (List.eraseIdx_sublist R j).subset hz) (List.Pairwise.sublist (List.eraseIdx_sublist R j) uk) (List.length_eraseIdx_le R j)
/-! ### _law_did(_law_box_here, _law_seat_here), level 7 -/
abbrev s__law_did : Stmt := top 31
abbrev N__law_did : List Str := ["_law_box_here", "_law_seat_here", "_law_leases", "_law_rows", "_law_names", "_law_clubs", "_law_ids", "_law_way", "_law_row_here", "_law_due_here", "_law_told", "_law_club", "_law_no", "_law_one"]
theorem sc__law_did : FnScope N__law_did ["_law_box_here", "_law_seat_here"] (defScope s__law_did) := ⟨rfl, rfl, rfl, by decide +kernel, rfl, by decide +kernel, by decide +kernel⟩
theorem ok__law_did (T : Txt K mg e_InvalidName e_InvalidNumber e_InvalidCount e_Held e_QueueError e_Leases) (C__law_take : Ct P w K mg base CX0 1 "_law_take" ["_law_box_here", "_law_many"] (sp__law_take K)) (C__law_row : Ct P w K mg base CX0 2 "_law_row" ["_law_box_here", "_law_seat_here"] (sp__law_row K)) (C__law_due : Ct P w K mg base CX0 2 "_law_due" ["_law_rows", "_law_row_here"] (sp__law_due K)) (C__law_give : Ct P w K mg base CX0 6 "_law_give" ["_law_leases", "_law_row_here", "_law_by_names"] (sp__law_give K)) (C__law_holding : Ct P w K mg base CX0 1 "_law_holding" ["_law_rows", "_law_club", "_law_no"] (sp__law_holding K)) (M_Leases_drop : Mt P w K mg base CX0 4 e_Leases "drop" ["self", "group", "number"] (sp_Leases_drop K)) (MK_Leases_drop_number_group : MtK P w K mg base CX0 4 e_Leases "drop" ["self", "group", "number"] ["number", "group"] perm_1_0 (sp_Leases_drop K)) (D : Df K mg "_law_did" s__law_did ["_law_box_here", "_law_seat_here"]) : Ct P w K mg base CX0 7 "_law_did" ["_law_box_here", "_law_seat_here"] (sp__law_did K) := by
  refine ct2 D sc__law_did fun f cdv A outer s H a_box_here a_seat_here Q E hr h => ⟨_, (pss_cons (ps_asg (pz 1) (pg_lzK (n := 5) K (by rfl) (pgs_cz (pg_name (i := 2) sc__law_did.nd rfl (Or.inl rfl)) (pgs_cz (pg_name (i := 3) sc__law_did.nd rfl (Or.inl rfl)) (pgs_cz (pg_name (i := 4) sc__law_did.nd rfl (Or.inl rfl)) (pgs_cz (pg_name (i := 5) sc__law_did.nd rfl (Or.inl rfl)) (pgs_cz (pg_name (i := 6) sc__law_did.nd rfl (Or.inl rfl)) pgs_nz)))))))
    (pss_cons (ps_set (i := 7) sc__law_did.nd rfl (Or.inl rfl) (pe_cl C__law_take (hr.mono (by decide)) pass0 (pa_cons (pz 0) (pa_cons pe_int pa_nil))))
    (pss_cons (ps_if (pt_cmpZ o_ltS (pz 7) pe_int (nomark _)) 
      (pss_cons (ps_set (i := 8) sc__law_did.nd rfl (Or.inl rfl) (pe_cl C__law_row (hr.mono (by decide)) pass0 (pa_cons (pz 0) (pa_cons (pz 1) pa_nil))))
      (pss_cons (ps_set (i := 9) sc__law_did.nd rfl (Or.inl rfl) (pe_cl C__law_due (hr.mono (by decide)) pass0 (pa_cons (pz 3) (pa_cons (pz 8) pa_nil))))
      (pss_cons (ps_set (i := 10) sc__law_did.nd rfl (Or.inl rfl) (pe_cl C__law_give (hr.mono (by decide)) pass0 (pa_cons (pz 2) (pa_cons (pz 8) (pa_cons (pe_cmpR (k_eq K hr.units) (pz 7) pe_int (nomark _)) pa_nil)))))
      (pss_cons (ps_if (pt_cmpZ o_isn (pz 9) pe_non (nomark _)) 
        (pss_one (ps_ret (pe_cmpR (k_eq K hr.units) (pz 10) (pe_tz (pa_cons pe_str (pa_cons (pe_ix (k_ix K) (pz 9) pe_int (fun _ _ => rfl)) (pa_cons (pe_ix (k_ix K) (pz 9) pe_int (fun _ _ => rfl)) pa_nil)))) (nomark _)))) pss_nil)
      (pss_cons (ps_expr (pe_mlK K PySem.F.slot_list_append PySem.F.type_list_append m_append (pz 3) (pa_cons (pz 8) pa_nil)))
      (pss_one (ps_ret (pe_cmpR (k_eq K hr.units) (pz 10) (pe_tz (pa_cons pe_str (pa_cons pe_non pa_nil))) (nomark _))))))))) pss_nil)
    (pss_cons (ps_parZ (i := 11) (j := 12) (by rfl) sc__law_did.nd rfl rfl (by decide) rfl rfl (pa_cons (pe_ix (k_ix K) (pz 5) (pe_cl C__law_take (hr.mono (by decide)) pass0 (pa_cons (pz 0) (pa_cons (pe_callB (k_len K) (by rfl) T.n_len bt_len (pa_cons (pz 5) pa_nil)) pa_nil))) (fun _ _ => rfl)) (pa_cons (pe_ix (k_ix K) (pz 6) (pe_cl C__law_take (hr.mono (by decide)) pass0 (pa_cons (pz 0) (pa_cons (pe_callB (k_len K) (by rfl) T.n_len bt_len (pa_cons (pz 6) pa_nil)) pa_nil))) (fun _ _ => rfl)) pa_nil)) (by rfl))
    (pss_cons (ps_if (PW.pt (pw_and (pt_cmpZ (k_ne K hr.units) (pz 3) (pe_lz pa_nil) (nomark _)) (pw_and1 (pt_cmpZ o_ltS (pz 7) pe_int (nomark _))))) 
      (pss_one (ps_asg (pe_slice (k_sl K) (pe_ix (k_ix K) (pz 3) (pe_cl C__law_take (hr.mono (by decide)) pass0 (pa_cons (pz 0) (pa_cons (pe_callB (k_len K) (by rfl) T.n_len bt_len (pa_cons (pz 3) pa_nil)) pa_nil))) (fun _ _ => rfl)) po_none (po_z pe_int)) (pg_tzK (n := 2) K (by rfl) (pgs_cz (pg_name (i := 11) sc__law_did.nd rfl (Or.inl rfl)) (pgs_cz (pg_name (i := 12) sc__law_did.nd rfl (Or.inl rfl)) pgs_nz))))) pss_nil)
    (pss_cons (ps_set (i := 13) sc__law_did.nd rfl (Or.inl rfl) (pe_cl C__law_holding (hr.mono (by decide)) pass0 (pa_cons (pz 3) (pa_cons (pz 11) (pa_cons (pz 12) pa_nil)))))
    (pss_cons (ps_set (i := 10) sc__law_did.nd rfl (Or.inl rfl) (pe_ifExp (pt_cmpZ (k_eq K hr.units) (pz 7) pe_int (nomark _)) (pe_mtK MK_Leases_drop_number_group (hr.mono (by decide)) at0 (pz 2) (pk_cons (pz 12) (pk_cons (pz 11) pk_nil))) (pe_mtA M_Leases_drop (hr.mono (by decide)) at0 (pz 2) (pa_cons (pz 11) (pa_cons (pz 12) pa_nil)))))
    (pss_cons (ps_if (pt_cmpZ o_is (pz 13) pe_non (nomark _)) 
      (pss_one (ps_ret (pe_cmpR o_is (pz 10) pe_bl (nomark _)))) pss_nil)
    (pss_cons (ps_expr (pe_mlK K PySem.F.slot_list_remove PySem.F.type_list_remove (k_removeD K hr.units) (pz 3) (pa_cons (pz 13) pa_nil)))
    (pss_one (ps_ret (pe_cmpR o_is (pz 10) pe_bl (nomark _))))))))))))), ?_⟩
  obtain ⟨b, n, s, a, d, L, nm, cl, il, R, xs, names, clubs, ids, m, rfl, rfl, hB, hn, se, hm, nb, nL, q⟩ := h
  obtain ⟨C, dx, kvs, hc, h1, h2, rw0⟩ := id se.ls.ex
  obtain rfl := hc.one T.a_Leases
  have bd : b ≠ d := by
    obtain ⟨zs, hb⟩ := box_lst hB
    exact ne_kind hb h2 (fun z => by cases z)
  have Ld : L ≠ d := ne_kind se.hL h2 (fun z => by cases z)
  have aL : a ≠ L := ne_kind h1 se.hL (fun z => by cases z)
  have bL : b ≠ L := fun z => nb (by rw [z]; simp)
  have ba : b ≠ a := by
    obtain ⟨zs, hb⟩ := box_lst hB
    exact ne_kind hb h1 (fun z => by cases z)
  have ln0 := se.ln
  refine ⟨_, SqL.of se.hs, rfl, ?_⟩
  refine ⟨b, 8, _, rfl, rfl, by decide, by decide, hB, by omega, fun way H1 t1 B1 w0 w1 => ?_⟩
  have s1 := se.box hB nb t1
  refine ite2 (fun hc => ?_) (fun hc => ?_)
  · refine did_give B1 (by omega) s1 hm nb nL fun R' xs' H2 k2 B2 s2 => q R' xs' H2 (((Kp.but t1).sub (by simp)).trans k2) (B2.mono (by omega)) s2
  · refine .inl ⟨_, .inl (SqL.of s1.hc), ?_⟩
    obtain ⟨lca, lcb⟩ := se.lc1
    obtain ⟨lia, lib⟩ := se.li1
    refine ⟨b, _, _, rfl, rfl, by rw [List.length_map]; omega, by rw [List.length_map]; omega, B1, by omega, fun r2 H2 t2 B2 x0 x1 => ?_⟩
    have s2 := s1.box B1 nb t2
    obtain ⟨gc, e2, gg2⟩ := gn_at clubs se.gcl x0 x1
    refine ⟨_, _, .inl (SqL.of s2.hc), e2, ?_⟩
    refine .inl ⟨_, .inl (SqL.of s2.hi), ?_⟩
    refine ⟨b, _, _, rfl, rfl, by rw [List.length_map]; omega, by rw [List.length_map]; omega, B2, by omega, fun r3 H3 t3 B3 y0 y1 => ?_⟩
    have s3 := s2.box B2 nb t3
    obtain ⟨nc, e3, gn3⟩ := int_at ids okI se.gid y0 y1
    refine ⟨_, _, .inl (SqL.of s3.hi), e3, ?_⟩
    refine ⟨by show 0 ≤ sizeLine; decide, fun p4 H4 n4 => ?_⟩
    have s4 := s3.same n4.same
    have B4 := B3.same n4.same
    have t4 : But b H H4 := ((t1.trans t2).trans t3).trans (But.of n4.same)
    refine ⟨.list (R.map Lr.d), .list [], .lst (SqL.of s4.hL) s4.fl.dp, .lst (SqL.of n4.here) .nil, rows_sh se.gd, shl_ok (ds := []) rfl, ?_⟩
    rw [eqv_nil]
    cases ee : (R.map Lr.d).isEmpty
    case' true =>
      obtain ⟨G, eG⟩ : ∃ G, G = H4 := ⟨_, rfl⟩
      subst eG
      have sG := s4
      have tG := t4
      have gG := gg2
      have BG : BoxAt (n + 4) G b := B4.mono (by omega)
    case' false =>
      refine ite2 (fun hc2 => ?_) (fun hc2 => ?_)
    case' false.refine_1 =>
      refine .inl ⟨_, .inl (SqL.of s4.hL), ?_⟩
      have pos : 0 < xs.length := by
        rw [se.fl.len]
        cases R with
        | nil => cases ee
        | cons _ _ => simp
      have lx : xs.length ≤ 5000 := by rw [se.fl.len]; omega
      refine ⟨b, _, _, rfl, rfl, by omega, by omega, B4, by omega, fun i H5 t5 B5 i0 i1 => ?_⟩
      have s5 := s4.box B4 nb t5
      obtain ⟨v, ea, _, e5⟩ := atI_some (xs := xs) i0 i1
      obtain ⟨y, p, t, hy, rfl, hp, ht⟩ := s5.fl.at e5
      have gy := se.gd y (List.mem_of_getElem? hy)
      refine ⟨_, _, .inl (SqL.of s5.hL), ea, ?_⟩
      refine .inr ⟨_, SqT.of hp, (fun z => by have := z.2; rw [sIx_pos (by decide)] at this; exact absurd (show min (Int.toNat 2) 5 = 5 from this) (by decide)), fun _ p6 G n6 => ?_⟩
      refine ⟨_, SqT.of n6.here, rfl, ?_⟩
      have sG := s5.same n6.same
      have tG : But b H G := (t4.trans t5).trans (But.of n6.same)
      have gG := gy.g
      have BG : BoxAt (n + 4) G b := (B5.same n6.same).mono (by omega)
    case' false.refine_2 =>
      obtain ⟨G, eG⟩ : ∃ G, G = H4 := ⟨_, rfl⟩
      subst eG
      have sG := s4
      have tG := t4
      have gG := gg2
      have BG : BoxAt (n + 4) G b := B4.mono (by omega)
    all_goals
      have aG := tG.at ba.symm h1
      have kG : Kp [b, d, L] H G := (Kp.but tG).sub (by simp)
      refine did_tail T.a_Leases aG Ld aL sG.ls sG.hL sG.fl se.uk gG (fun G1 u1 => q R xs G1 (kG.trans (.same u1)) ((BG.same u1).mono (by omega)) ((sG.same u1).mono (by omega))) (fun G1 R' xs' k1 ls1 l1 fl1 sub uk1 le => ?_)
      have k2 : Kp [b, d, L] H G1 := kG.trans (k1.sub (by simp))
      exact q R' xs' G1 k2 ((BG.kp k1 (by simp [bd, bL])).mono (by omega)) (se.put nb nL k2 ls1 l1 fl1 (fun x hx => se.gd x (sub x hx)) uk1 (by omega))

/-! ### _law_pair_right(_law_leases, _law_rows, _law_who, _law_club, _law_no), level 4 -/
abbrev s__law_pair_right : Stmt := top 32
abbrev N__law_pair_right : List Str := ["_law_leases", "_law_rows", "_law_who", "_law_club", "_law_no", "_law_one", "_law_other", "_law_mine", "_law_ours"]
theorem sc__law_pair_right : FnScope N__law_pair_right ["_law_leases", "_law_rows", "_law_who", "_law_club", "_law_no"] (defScope s__law_pair_right) := ⟨rfl, rfl, rfl, by decide +kernel, rfl, by decide +kernel, by decide +kernel⟩
theorem ok__law_pair_right (T : Txt K mg e_InvalidName e_InvalidNumber e_InvalidCount e_Held e_QueueError e_Leases) (C__law_holding : Ct P w K mg base CX0 1 "_law_holding" ["_law_rows", "_law_club", "_law_no"] (sp__law_holding K)) (C__law_held_by : Ct P w K mg base CX0 1 "_law_held_by" ["_law_rows", "_law_who", "_law_club"] (sp__law_held_by K)) (M_Leases_of : Mt P w K mg base CX0 1 e_Leases "of" ["self", "member", "group"] (sp_Leases_of K)) (M_Leases_holder : Mt P w K mg base CX0 3 e_Leases "holder" ["self", "group", "number"] (sp_Leases_holder K)) (MK_Leases_of_group_member : MtK P w K mg base CX0 1 e_Leases "of" ["self", "member", "group"] ["group", "member"] perm_1_0 (sp_Leases_of K)) (MK_Leases_holder_number_group : MtK P w K mg base CX0 3 e_Leases "holder" ["self", "group", "number"] ["number", "group"] perm_1_0 (sp_Leases_holder K)) (D : Df K mg "_law_pair_right" s__law_pair_right ["_law_leases", "_law_rows", "_law_who", "_law_club", "_law_no"]) : Ct P w K mg base CX0 4 "_law_pair_right" ["_law_leases", "_law_rows", "_law_who", "_law_club", "_law_no"] (sp__law_pair_right K) := by
  refine ct5 D sc__law_pair_right fun f cdv A outer s H a_leases a_rows a_who a_club a_no Q E hr h => ⟨_, (pss_cons (ps_parZ (i := 5) (j := 6) (by rfl) sc__law_pair_right.nd rfl rfl (by decide) rfl rfl (pa_cons (pe_cl C__law_held_by (hr.mono (by decide)) pass0 (pa_cons (pz 1) (pa_cons (pz 2) (pa_cons (pz 3) pa_nil)))) (pa_cons (pe_cl C__law_holding (hr.mono (by decide)) pass0 (pa_cons (pz 1) (pa_cons (pz 3) (pa_cons (pz 4) pa_nil)))) pa_nil)) (by rfl))
    (pss_cons (ps_parZ (i := 7) (j := 8) (by rfl) sc__law_pair_right.nd rfl rfl (by decide) rfl rfl (pa_cons (pe_ifExp (pt_cmpZ o_isn (pz 5) pe_non (nomark _)) (pe_tz (pa_cons (pe_ix (k_ix K) (pz 5) pe_int (fun _ _ => rfl)) (pa_cons (pe_ix (k_ix K) (pz 5) pe_int (fun _ _ => rfl)) pa_nil))) pe_non) (pa_cons (pe_ifExp (pt_cmpZ o_isn (pz 6) pe_non (nomark _)) (pe_tz (pa_cons (pe_ix (k_ix K) (pz 6) pe_int (fun _ _ => rfl)) (pa_cons (pe_ix (k_ix K) (pz 6) pe_int (fun _ _ => rfl)) pa_nil))) pe_non) pa_nil)) (by rfl))
    (pss_cons (ps_if (PW.pt (pw_or (pt_cmpZ (k_ne K hr.units) (pe_mtA M_Leases_of (hr.mono (by decide)) at0 (pz 0) (pa_cons (pz 2) (pa_cons (pz 3) pa_nil))) (pz 7) (nomark _)) (pw_or1 (pt_cmpZ (k_ne K hr.units) (pe_mtK MK_Leases_of_group_member (hr.mono (by decide)) at0 (pz 0) (pk_cons (pz 3) (pk_cons (pz 2) pk_nil))) (pz 7) (nomark _))))) 
      (pss_one (ps_ret pe_bl)) pss_nil)
    (pss_one (ps_ret (pe_andZ (pe_cmpR (k_eq K hr.units) (pe_mtA M_Leases_holder (hr.mono (by decide)) at0 (pz 0) (pa_cons (pz 3) (pa_cons (pz 4) pa_nil))) (pz 8) (nomark _)) (pe_one (pe_cmpR (k_eq K hr.units) (pe_mtK MK_Leases_holder_number_group (hr.mono (by decide)) at0 (pz 0) (pk_cons (pz 4) (pk_cons (pz 3) pk_nil))) (pz 8) (nomark _))))))))), ?_⟩
  obtain ⟨a, d, L, R, xs, m, g, n, rfl, rfl, rfl, rfl, rfl, ls, hL, fl, gd, gg, q⟩ := h
  obtain ⟨C, dx, kvs, hc, h1, h2, rw0⟩ := id ls.ex
  obtain rfl := hc.one T.a_Leases
  have sh1 := mine_sh (R.find? (hit (.str g) (.str m)))
  have sh2 := ours_sh gd (isK g n)
  refine ⟨L, xs, R, m, g, rfl, rfl, rfl, hL, fl, fun f => ?_, fun r p t f hr => ?_⟩
  all_goals
    refine ⟨L, xs, R, g, n, rfl, rfl, rfl, hL, fl, fun f2 => ?_, fun j r2 p2 t2 _ _ _ _ f2 hr2 => ?_⟩
  case' refine_1.refine_1 =>
    have d1 : An H (fun r => .int r.n) .non (R.find? (hit (.str g) (.str m))) := .inl ⟨f, rfl⟩
    have d2 : An H (fun r => .str r.m) .non (R.find? (isK g n)) := .inl ⟨f2, rfl⟩
    obtain ⟨G, eG⟩ : ∃ G, G = H := ⟨_, rfl⟩
    subst eG
    have s0 : Same G G := Same.refl _
  case' refine_1.refine_2 =>
    refine ⟨_, _, .inr (SqT.of hr2.1), rfl, ?_⟩
    refine ⟨_, _, .inr (SqT.of hr2.1), rfl, ?_⟩
    refine ⟨by show 2 ≤ sizeLine; decide, fun p4 G n4 => ?_⟩
    have s0 : Same H G := n4.same
    have d1 : An G (fun r => .int r.n) .non (R.find? (hit (.str g) (.str m))) := .inl ⟨f, rfl⟩
    have d2 : An G (fun r => .str r.m) (.ref p4) (R.find? (isK g n)) := .inr ⟨_, _, _, f2, rfl, n4.here, n4.keep hr2.2⟩
  case' refine_2.refine_1 =>
    refine ⟨_, _, .inr (SqT.of hr.1), rfl, ?_⟩
    refine ⟨_, _, .inr (SqT.of hr.1), rfl, ?_⟩
    refine ⟨by show 2 ≤ sizeLine; decide, fun p4 G n4 => ?_⟩
    have s0 : Same H G := n4.same
    have d2 : An G (fun r => .str r.m) .non (R.find? (isK g n)) := .inl ⟨f2, rfl⟩
    have d1 : An G (fun r => .int r.n) (.ref p4) (R.find? (hit (.str g) (.str m))) := .inr ⟨_, _, _, f, rfl, n4.here, n4.keep hr.2⟩
  case' refine_2.refine_2 =>
    refine ⟨_, _, .inr (SqT.of hr.1), rfl, ?_⟩
    refine ⟨_, _, .inr (SqT.of hr.1), rfl, ?_⟩
    refine ⟨by show 2 ≤ sizeLine; decide, fun p3 G3 n3 => ?_⟩
    refine ⟨_, _, .inr (SqT.of (n3.keep hr2.1)), rfl, ?_⟩
    refine ⟨_, _, .inr (SqT.of (n3.keep hr2.1)), rfl, ?_⟩
    refine ⟨by show 2 ≤ sizeLine; decide, fun p4 G n4 => ?_⟩
    have s0 : Same H G := n3.same.trans n4.same
    have d1 : An G (fun r => .int r.n) (.ref p3) (R.find? (hit (.str g) (.str m))) := .inr ⟨_, _, _, f, rfl, n4.keep n3.here, s0 _ _ hr.2⟩
    have d2 : An G (fun r => .str r.m) (.ref p4) (R.find? (isK g n)) := .inr ⟨_, _, _, f2, rfl, n4.here, s0 _ _ hr2.2⟩
  all_goals
    refine ⟨_, _, (s0) _ _ h1, rfl, ?_⟩
    refine ⟨a, d, R, rfl, ls.same (s0), trivial, trivial, fun G1 s1 e => ?_, fun r' p' t' G1 s1 e fr' hp' ht' => ?_⟩
  all_goals first | (rw [f] at e; cases e; done) | skip
  all_goals
    first
    | have e1 : An G1 (fun r => .int r.n) .non (R.find? (hit (.str g) (.str m))) := .inl ⟨e, rfl⟩
    | have e1 : An G1 (fun r => .int r.n) (.ref p') (R.find? (hit (.str g) (.str m))) := .inr ⟨_, _, _, e, rfl, hp', ht'⟩
    clear e
    have t1 := (s0).trans s1
    have z1 := (d1).same s1
    first
    | refine ⟨_, _, e1.mine, z1.mine, sh1, sh1, ?_⟩
      rw [eqv_self sh1]
    | skip
  all_goals
    refine ⟨_, _, (t1) _ _ h1, rfl, ?_⟩
    refine ⟨a, d, R, rfl, ls.same (t1), trivial, trivial, fun G2 s2 e => ?_, fun r' p' t' G2 s2 e fr' hp' ht' => ?_⟩
  all_goals first | (rw [f] at e; cases e; done) | skip
  all_goals
    first
    | have e2 : An G2 (fun r => .int r.n) .non (R.find? (hit (.str g) (.str m))) := .inl ⟨e, rfl⟩
    | have e2 : An G2 (fun r => .int r.n) (.ref p') (R.find? (hit (.str g) (.str m))) := .inr ⟨_, _, _, e, rfl, hp', ht'⟩
    clear e
    have t2 := (t1).trans s2
    have z2 := (z1).same s2
    first
    | refine ⟨_, _, e2.mine, z2.mine, sh1, sh1, ?_⟩
      rw [eqv_self sh1]
    | skip
  all_goals
    refine ⟨_, _, (t2) _ _ h1, rfl, ?_⟩
    refine ⟨a, d, R, .str g, .int n, rfl, ls.same (t2), ⟨false, .str _⟩, (gn_of gg).2.1, ⟨false, .int _⟩, fun G3 s3 e => ?_, fun r' p' t' G3 s3 e fr' hp' ht' => ?_⟩
  all_goals rw [hk_at (gn_of gg).1] at e
  all_goals first | (rw [f2] at e; cases e; done) | skip
  all_goals
    first
    | have e3 : An G3 (fun r => .str r.m) .non (R.find? (isK g n)) := .inl ⟨e, rfl⟩
    | have e3 : An G3 (fun r => .str r.m) (.ref p') (R.find? (isK g n)) := .inr ⟨_, _, _, e, rfl, hp', ht'⟩
    clear e
    have t3 := (t2).trans s3
    have z3 := (d2).same ((s1.trans s2).trans s3)
    first
    | refine ⟨_, _, e3.ours, z3.ours, sh2, sh2, ?_⟩
      rw [eqv_self sh2]
    | skip
  all_goals
    refine ⟨_, _, (t3) _ _ h1, rfl, ?_⟩
    refine ⟨a, d, R, .str g, .int n, rfl, ls.same (t3), ⟨false, .str _⟩, (gn_of gg).2.1, ⟨false, .int _⟩, fun G4 s4 e => ?_, fun r' p' t' G4 s4 e fr' hp' ht' => ?_⟩
  all_goals rw [hk_at (gn_of gg).1] at e
  all_goals first | (rw [f2] at e; cases e; done) | skip
  all_goals
    first
    | have e4 : An G4 (fun r => .str r.m) .non (R.find? (isK g n)) := .inl ⟨e, rfl⟩
    | have e4 : An G4 (fun r => .str r.m) (.ref p') (R.find? (isK g n)) := .inr ⟨_, _, _, e, rfl, hp', ht'⟩
    clear e
    have t4 := (t3).trans s4
    have z4 := (z3).same (s4)
    first
    | refine ⟨_, _, e4.ours, z4.ours, sh2, sh2, ?_⟩
      rw [eqv_self sh2]
    | skip
    exact q _ t4

/-! ### Leases_listed(self), level 1 -/
abbrev s_Leases_listed : Stmt := (clsB (top 19)).getD 7 (.Pass ⟨0, 0, 0, 0⟩)
abbrev N_Leases_listed : List Str := ["self", "pair", "row"]
theorem sc_Leases_listed : FnScope N_Leases_listed ["self"] (defScope s_Leases_listed) := ⟨rfl, rfl, rfl, by decide +kernel, rfl, by decide +kernel, by decide +kernel⟩
theorem ok_Leases_listed (T : Txt K mg e_InvalidName e_InvalidNumber e_InvalidCount e_Held e_QueueError e_Leases) (D : Dm K e_Leases "listed" "Leases.listed" s_Leases_listed ["self"]) : Mt P w K mg base CX0 1 e_Leases "listed" ["self"] (sp_Leases_listed K) := by
  refine mt1 D sc_Leases_listed fun f cdv A outer s H a_self Q E hr h => ⟨_, (pss_one (ps_ret (pe_callB (k_sortD K hr.units) (by rfl) T.n_sorted bt_sorted (pa_cons (pe_lock (pe_lcz (own := [("pair", 1), ("row", 2)]) (by rfl) sc_Leases_listed.nd (pi_itT (pe_fdC T.k_Leases T.f_Leases__rows (pz 0))) (blkOk_by (own := [("pair", 1), ("row", 2)]) (N := N_Leases_listed) (sc := defScope s_Leases_listed) (by decide +kernel)) (fun _ _ _ _ _ => (pg_tzK (n := 2) K (by rfl) (pgs_cz (pg_name (i := 1) sc_Leases_listed.nd rfl (Or.inl rfl)) (pgs_cz (pg_name (i := 2) sc_Leases_listed.nd rfl (Or.inl rfl)) pgs_nz)))) (fun _ _ _ _ _ => pts_nil) (fun _ _ _ _ _ => (pe_op (k_add K) (pz 1) (pz 2))))) pa_nil)))), ?_⟩
  obtain ⟨a, d, R, rfl, L, lR, q⟩ := h
  have nad := L.ne
  obtain ⟨C, dx, kvs, hc, h1, h2, rw0⟩ := L.ex
  obtain rfl := hc.one T.a_Leases
  refine ⟨d, .dT kvs, h2, trivial, fun od => ?_⟩
  obtain ⟨hf, w1, back⟩ := lockF (H := H) (od := od) h2
  have rwL := rw0.tk (.wr w1 (by rw [h2]; exact fun ys z => by cases z))
  generalize upd H d (.frz od (.dT kvs)) = HL at hf w1 back rwL ⊢
  refine ⟨_, _, _, w1.keep nad h1, rfl, ?_⟩
  refine ⟨od, kvs, hf, fun D hD => lc_y (wy_iT kvs) (by rw [rw0.len]; omega) (fun i acc H' => Same HL H' ∧ Fl H' acc (R.take i)) (fun H2 n2 => ⟨n2.same, .nil⟩) (fun i acc H' z => z.1 _ _ hf)
    (fun i acc H' z => by rw [z.2.len, List.length_take]; omega) ?_ ?_⟩
  · rintro i x acc H1 H2 hi hDa ⟨s1, fl⟩ ⟨T', k, v, q0, hkv, hq, rfl, n2⟩
    obtain ⟨r, p, t, hr, rfl, rfl, hp, ht⟩ := rwL.at hkv
    have s2 := s1.trans n2.same
    have e1 : R.take (i + 1) = R.take i ++ [r] := by rw [List.take_add_one, hr]; rfl
    refine ⟨_, SqT.of n2.here, rfl, ?_⟩
    refine ⟨rfl, ?_⟩
    refine .inr ⟨_, _, SqT.of (n2.keep hq), SqT.of (s2 _ _ hp), by show 2 + 3 ≤ sizeLine; decide, (fun z => by cases z), (fun _ z => by cases z), fun _ _ p4 H4 n4 => ?_⟩
    have hD4 := n4.keep (n2.keep hDa)
    refine ⟨hD4, fun H5 w5 => ⟨(s2.trans n4.same).wr hD w5, ?_⟩⟩
    rw [e1]
    have t5 : Tk H4 H5 := .wr w5 (by rw [hD4]; exact fun ys z => by cases z)
    exact (fl.tk ((Tk.same (n2.same.trans n4.same)).trans t5)).snoc (t5 _ _ n4.here) (t5 _ _ (n4.keep (s2 _ _ ht)))
  · rintro acc H1 _ hDa ⟨s1, fl⟩
    have nD : D ≠ d := fun z => by rw [z, hf] at hD; cases hD
    rw [rw0.len, List.take_length] at fl
    refine ⟨s1 _ _ hf, ?_⟩
    have hDb : (upd H1 d (.dT kvs)) D = some (.lst acc) := by rw [upd_ne nD]; exact hDa
    have sb := back H1 s1
    have flb : Fl (upd H1 d (.dT kvs)) acc R := fl.tk (.wr wr (by rw [s1 _ _ hf]; exact fun ys z => by cases z))
    generalize upd H1 d (.dT kvs) = H2 at hDb sb flb ⊢
    refine sortD_go (SqL.of hDb) flb.dz (alike_d R) (sortable_d R) (depth_d R) fun ys p H3 dz n3 => ?_
    exact q ys p H3 (sb.trans n3.same) (sb.free n3.fresh) n3.here (dz.same n3.same)

/-! ### Leases_held(self, group), level 1 -/
abbrev s_Leases_held : Stmt := (clsB (top 19)).getD 4 (.Pass ⟨0, 0, 0, 0⟩)
abbrev N_Leases_held : List Str := ["self", "group", "name", "number"]
theorem sc_Leases_held : FnScope N_Leases_held ["self", "group"] (defScope s_Leases_held) := ⟨rfl, rfl, rfl, by decide +kernel, rfl, by decide +kernel, by decide +kernel⟩
theorem ok_Leases_held (T : Txt K mg e_InvalidName e_InvalidNumber e_InvalidCount e_Held e_QueueError e_Leases) (D : Dm K e_Leases "held" "Leases.held" s_Leases_held ["self", "group"]) : Mt P w K mg base CX0 1 e_Leases "held" ["self", "group"] (sp_Leases_held K) := by
  refine mt2 D sc_Leases_held fun f cdv A outer s H a_self a_group Q E hr h => ⟨_, (pss_one (ps_ret (pe_callB (k_sortI K) (by rfl) T.n_sorted bt_sorted (pa_cons (pe_lock (pe_lcz (own := [("name", 2), ("number", 3)]) (by rfl) sc_Leases_held.nd (pi_ktz (pe_fdC T.k_Leases T.f_Leases__rows (pz 0))) (blkOk_by (own := [("name", 2), ("number", 3)]) (N := N_Leases_held) (sc := defScope s_Leases_held) (by decide +kernel)) (fun _ _ _ _ _ => (pg_tzK (n := 2) K (by rfl) (pgs_cz (pg_name (i := 2) sc_Leases_held.nd rfl (Or.inl rfl)) (pgs_cz (pg_name (i := 3) sc_Leases_held.nd rfl (Or.inl rfl)) pgs_nz)))) (fun _ _ _ _ _ => (pts_one (pt_cmpZ (k_eqA K hr.units) (pz 2) (pz 1) (nomark _)))) (fun _ _ _ _ _ => (pz 3)))) pa_nil)))), ?_⟩
  obtain ⟨a, d, R, rfl, L, lR, hg, q⟩ := h
  have nad := L.ne
  obtain ⟨C, dx, kvs, hc, h1, h2, rw0⟩ := L.ex
  obtain rfl := hc.one T.a_Leases
  refine ⟨d, .dT kvs, h2, trivial, fun od => ?_⟩
  obtain ⟨hf, w1, back⟩ := lockF (H := H) (od := od) h2
  have rwL := rw0.tk (.wr w1 (by rw [h2]; exact fun ys z => by cases z))
  have hgL := hg.lk h2 w1
  generalize upd H d (.frz od (.dT kvs)) = HL at hf w1 back rwL hgL ⊢
  refine ⟨_, _, _, w1.keep nad h1, rfl, ?_⟩
  refine ⟨od, kvs, hf, fun D hD => lc_y (wy_kT kvs) (by rw [rw0.len]; omega) (fun i acc H' => Same HL H' ∧ acc = ((R.take i).filter fun r => decide (V.str r.g = a_group)).map fun r => V.int r.n) (fun H2 n2 => ⟨n2.same, rfl⟩) (fun i acc H' z => z.1 _ _ hf)
    (fun i acc H' z => by rw [z.2, List.length_map]; exact Nat.le_trans (List.length_filter_le _ _) (by rw [List.length_take]; omega)) ?_ ?_⟩
  · rintro i x acc H1 H2 hi hDa ⟨s1, rfl⟩ ⟨rfl, k, v, q0, hkv, rfl, hq⟩
    obtain ⟨r, p, t, hr, rfl, rfl, hp, ht⟩ := rwL.at hkv
    have e1 : R.take (i + 1) = R.take i ++ [r] := by rw [List.take_add_one, hr]; rfl
    refine ⟨_, SqT.of hq, rfl, ?_⟩
    refine ⟨rfl, ?_⟩
    refine ⟨_, rfl, hgL.same s1, ?_⟩
    by_cases e : V.str r.g = a_group
    · refine iteY (c := decide (V.str r.g = a_group)) (decide_eq_true e) ?_
      refine ⟨hDa, fun H5 w5 => ⟨s1.wr hD w5, ?_⟩⟩
      rw [e1, List.filter_append, List.map_append, List.filter_cons_of_pos (by rw [decide_eq_true e])]
      rfl
    · refine iteN (c := decide (V.str r.g = a_group)) (decide_eq_false e) ?_
      refine ⟨hDa, s1, ?_⟩
      rw [e1, List.filter_append, List.map_append, List.filter_cons_of_neg (by rw [decide_eq_false e]; decide)]
      simp
  · rintro acc H1 _ hDa ⟨s1, rfl⟩
    have nD : D ≠ d := fun z => by rw [z, hf] at hD; cases hD
    rw [rw0.len, List.take_length] at hDa
    refine ⟨s1 _ _ hf, ?_⟩
    have hDb : (upd H1 d (.dT kvs)) D = some (.lst ((R.filter fun r => decide (V.str r.g = a_group)).map fun r => V.int r.n)) := by rw [upd_ne nD]; exact hDa
    have sb := back H1 s1
    generalize upd H1 d (.dT kvs) = H2 at hDb sb ⊢
    refine ⟨(R.filter fun r => decide (V.str r.g = a_group)).map (·.n), SqL.of (by rw [List.map_map]; exact hDb), fun ms p H3 pm so n3 => ?_⟩
    exact q ms p H3 (sb.trans n3.same) (sb.free n3.fresh) n3.here pm so

/-! ### Leases_ended(self, time), level 3 -/
abbrev s_Leases_ended : Stmt := (clsB (top 19)).getD 6 (.Pass ⟨0, 0, 0, 0⟩)
abbrev N_Leases_ended : List Str := ["self", "time", "pair", "row"]
theorem sc_Leases_ended : FnScope N_Leases_ended ["self", "time"] (defScope s_Leases_ended) := ⟨rfl, rfl, rfl, by decide +kernel, rfl, by decide +kernel, by decide +kernel⟩
theorem ok_Leases_ended (T : Txt K mg e_InvalidName e_InvalidNumber e_InvalidCount e_Held e_QueueError e_Leases) (R_InvalidCount : Er P w K mg base 1 "InvalidCount" "given" e_InvalidCount) (C_is_count : Ct P w K mg base CX0 2 "is_count" ["value"] (sp_is_count K)) (D : Dm K e_Leases "ended" "Leases.ended" s_Leases_ended ["self", "time"]) : Mt P w K mg base (L2.CX P w) 3 e_Leases "ended" ["self", "time"] (sp_Leases_ended K) := by
  refine mx2 D sc_Leases_ended fun f cdv A outer s H a_self a_time Q E hr h => ⟨_, (pss_cons (ps_if (pt_not (pt_trK K (pe_cl C_is_count (hr.mono (by decide)) pass0 (pa_cons (pz 1) pa_nil)))) 
      (pss_one (ps_rz rfl (takes_of rfl rfl rfl rfl) R_InvalidCount (hr.mono (by decide)) (pa_cons (pz 1) pa_nil))) pss_nil)
    (pss_one (ps_ret (pe_callB (k_sortD K hr.units) (by rfl) T.n_sorted bt_sorted (pa_cons (pe_lock (pe_lcz (own := [("pair", 2), ("row", 3)]) (by rfl) sc_Leases_ended.nd (pi_itT (pe_fdC T.k_Leases T.f_Leases__rows (pz 0))) (blkOk_by (own := [("pair", 2), ("row", 3)]) (N := N_Leases_ended) (sc := defScope s_Leases_ended) (by decide +kernel)) (fun _ _ _ _ _ => (pg_tzK (n := 2) K (by rfl) (pgs_cz (pg_name (i := 2) sc_Leases_ended.nd rfl (Or.inl rfl)) (pgs_cz (pg_name (i := 3) sc_Leases_ended.nd rfl (Or.inl rfl)) pgs_nz)))) (fun _ _ _ _ _ => (pts_one (pt_cmpZ o_le (pe_ix (k_ix K) (pz 3) pe_int (fun _ _ => rfl)) (pz 1) (nomark _)))) (fun _ _ _ _ _ => (pz 2)))) pa_nil))))), ?_⟩
  obtain ⟨a, d, R, dt, rfl, L, lR, ht, q1, q2⟩ := h
  have nad := L.ne
  obtain ⟨C, dx, kvs, hc, h1, h2, rw0⟩ := L.ex
  obtain rfl := hc.one T.a_Leases
  refine ⟨dt, ht, ?_⟩
  cases ec : cntD dt with
  | false => exact fun dd H2 n2 => (q1 ec).go T.a_InvalidCount (Same.refl _) n2
  | true =>
    obtain ⟨tm, rfl⟩ : ∃ i, dt = .int i := by
      cases dt with
      | int i => exact ⟨i, rfl⟩
      | _ => cases ec
    obtain rfl := ht.int
    refine ⟨d, .dT kvs, h2, trivial, fun od => ?_⟩
    obtain ⟨hf, w1, back⟩ := lockF (H := H) (od := od) h2
    have rwL := rw0.tk (.wr w1 (by rw [h2]; exact fun ys z => by cases z))
    generalize upd H d (.frz od (.dT kvs)) = HL at hf w1 back rwL ⊢
    refine ⟨_, _, _, w1.keep nad h1, rfl, ?_⟩
    refine ⟨od, kvs, hf, fun D hD => lc_y (wy_iT kvs) (by rw [rw0.len]; omega) (fun i acc H' => Same HL H' ∧ Kl H' acc ((R.take i).filter fun r => decide (r.e ≤ tm))) (fun H2 n2 => ⟨n2.same, .nil⟩) (fun i acc H' z => z.1 _ _ hf)
      (fun i acc H' z => by rw [z.2.len]; exact Nat.le_trans (List.length_filter_le _ _) (by rw [List.length_take]; omega)) ?_ ?_⟩
    · rintro i x acc H1 H2 hi hDa ⟨s1, fl⟩ ⟨T', k, v, q0, hkv, hq, rfl, n2⟩
      obtain ⟨r, p, t, hr, rfl, rfl, hp, ht⟩ := rwL.at hkv
      have s2 := s1.trans n2.same
      have e1 : R.take (i + 1) = R.take i ++ [r] := by rw [List.take_add_one, hr]; rfl
      refine ⟨_, SqT.of n2.here, rfl, ?_⟩
      refine ⟨rfl, ?_⟩
      refine ⟨_, _, .inr (SqT.of (s2 _ _ hp)), rfl, ?_⟩
      by_cases e : r.e ≤ tm
      · refine iteY (c := decide (r.e ≤ tm)) (decide_eq_true e) ?_
        have hD4 := n2.keep hDa
        refine ⟨hD4, fun H5 w5 => ⟨s2.wr hD w5, ?_⟩⟩
        have t5 : Tk H2 H5 := .wr w5 (by rw [hD4]; exact fun ys z => by cases z)
        rw [e1, List.filter_append, List.filter_cons_of_pos (by rw [decide_eq_true e])]
        exact (fl.tk ((Tk.same n2.same).trans t5)).snoc (t5 _ _ (n2.keep hq))
      · refine iteN (c := decide (r.e ≤ tm)) (decide_eq_false e) ?_
        refine ⟨n2.keep hDa, s2, ?_⟩
        rw [e1, List.filter_append, List.filter_cons_of_neg (by rw [decide_eq_false e]; decide), List.filter_nil, List.append_nil]
        exact fl.tk (.same n2.same)
    · rintro acc H1 _ hDa ⟨s1, fl⟩
      have nD : D ≠ d := fun z => by rw [z, hf] at hD; cases hD
      rw [rw0.len, List.take_length] at fl
      refine ⟨s1 _ _ hf, ?_⟩
      have hDb : (upd H1 d (.dT kvs)) D = some (.lst acc) := by rw [upd_ne nD]; exact hDa
      have sb := back H1 s1
      have flb : Kl (upd H1 d (.dT kvs)) acc (R.filter fun r => decide (r.e ≤ tm)) := fl.tk (.wr wr (by rw [s1 _ _ hf]; exact fun ys z => by cases z))
      generalize upd H1 d (.dT kvs) = H2 at hDb sb flb ⊢
      refine sortD_go (SqL.of hDb) flb.dz (alike_k _) (sortable_k _) (depth_k _) fun ys p H3 dz n3 => ?_
      exact q2 tm ys p H3 rfl ec (sb.trans n3.same) (sb.free n3.fresh) n3.here (dz.same n3.same)

theorem told_a {K : PySem.W.Frag} {H : Hp} {D : Ends} {L : Addr} {R : List Lr} {xs : List V} {club : Str} {now : Int} {v0 v1 v2 v4 v5 v6 v9 v10 v11 v12 v13 v14 v15 : Option V}
    (hL : H L = some (.lst xs)) (fl : Fl H xs R) (ln : R.length ≤ 5000)
    (q : ∀ p9 p10 ys (ms : List Int) H2, Same H H2 → H p9 = none → H p10 = none → H2 p9 = some (.lst ys) → DzAll false H2 ys (srtD ((lateR R now).map Lr.kd)) → H2 p10 = some (.lst (ms.map V.int)) → ms.Perm ((ofR R club).map (·.n)) → ms.Pairwise (· ≤ ·) →
      D.nx [v0, v1, v2, some (.ref L), v4, v5, v6, some (.str club), some (.int now), some (.ref p9), some (.ref p10), v11, v12, v13, v14, v15, none] H2) :
    tPrz 9 10
          (tCons
            (tCB (zSortD K)
              (tCons
                (tLcz (tItL K (tV 3)) (gName 16)
                  (tBz (tOp (zI fun i j => V.bl (decide (i ≤ j))) (tOp (zIx K) (tV 16) (tC (V.int 4))) (tV 8)))
                  (tSl (zSl K) (tV 16) tNoPart (tPz (tC (V.int 2))))
                  (List.map (fun x => x.snd) [(Str.ofString "_law_row_here", 16)]))
                tNil))
            (tCons
              (tCB (zSortI K)
                (tCons
                  (tLcz (tItL K (tV 3)) (gName 16) (tBz (tOp (zEq K false) (tOp (zIx K) (tV 16) (tC (V.int 0))) (tV 7)))
                    (tOp (zIx K) (tV 16) (tC (V.int 1)))
                    (List.map (fun x => x.snd) [(Str.ofString "_law_row_here", 16)]))
                  tNil))
              tNil))
      D [v0, v1, v2, some (.ref L), v4, v5, v6, some (.str club), some (.int now), v9, v10, v11, v12, v13, v14, v15, none] H := by
  have lx := fl.len
  refine ⟨⟨_, SqL.of hL⟩, fun D1 hD1 => lc_w (wk_list xs) (by omega) (fun i acc H' => Same H H' ∧ Kl H' acc (lateR (R.take i) now)) (fun H2 n2 => ⟨n2.same, .nil⟩) (fun i acc H' z => SqL.of (z.1 _ _ hL))
    (fun i acc H' z => by rw [z.2.len]; exact Nat.le_trans (List.length_filter_le _ _) (by rw [List.length_take]; omega)) ?_ ?_⟩
  · rintro i x acc H1 hx hDa ⟨s1, kl⟩
    obtain ⟨r, p, t, hr, rfl, hp, ht⟩ := fl.at hx
    have e1 : R.take (i + 1) = R.take i ++ [r] := by rw [List.take_add_one, hr]; rfl
    refine ⟨rfl, ?_⟩
    refine ⟨_, _, .inr (SqT.of (s1 _ _ hp)), rfl, ?_⟩
    by_cases e : r.e ≤ now
    · refine iteY (c := decide (r.e ≤ now)) (decide_eq_true e) ?_
      refine .inr ⟨_, SqT.of (s1 _ _ hp), (fun z => by have := z.2; rw [sIx_pos (by decide)] at this; exact absurd (show min (Int.toNat 2) 5 = 5 from this) (by decide)), fun _ p3 H3 n3 => ?_⟩
      have hD4 := n3.keep hDa
      refine ⟨hD4, fun H5 w5 => ⟨(s1.trans n3.same).wr hD1 w5, ?_⟩⟩
      have t5 : Tk H3 H5 := .wr w5 (by rw [hD4]; exact fun ys z => by cases z)
      unfold lateR
      rw [e1, List.filter_append, List.filter_cons_of_pos (by rw [decide_eq_true e])]
      exact (kl.tk ((Tk.same n3.same).trans t5)).snoc (t5 _ _ n3.here)
    · refine iteN (c := decide (r.e ≤ now)) (decide_eq_false e) ?_
      refine ⟨hDa, s1, ?_⟩
      unfold lateR
      rw [e1, List.filter_append, List.filter_cons_of_neg (by rw [decide_eq_false e]; decide), List.filter_nil, List.append_nil]
      exact kl
  · rintro acc H1 _ hDa ⟨s1, kl⟩
    rw [lx, List.take_length] at kl
    obtain ⟨ps, e1, e2, e3, z⟩ := zip_packD kl.dz
    refine ⟨ps, by rw [e1]; exact SqL.of hDa, e3, by rw [e2]; exact alike_k _, by rw [e2]; exact sortable_k _, fun p hp => depth_k _ _ (by rw [← e2]; exact List.mem_map.mpr ⟨p, hp, rfl⟩), fun p9 H2 n2 => ?_⟩
    have s2 := s1.trans n2.same
    have hL2 := s2 _ _ hL
    refine ⟨⟨_, SqL.of hL2⟩, fun D2 hD2 => lc_w (wk_list xs) (by omega) (fun i acc H' => Same H2 H' ∧ acc = ((ofR (R.take i) club).map (·.n)).map V.int) (fun H3 n3 => ⟨n3.same, rfl⟩) (fun i acc H' z => SqL.of (z.1 _ _ hL2))
      (fun i acc H' z => by rw [z.2, List.length_map, List.length_map]; exact Nat.le_trans (List.length_filter_le _ _) (by rw [List.length_take]; omega)) ?_ ?_⟩
    · rintro i x acc H3 hx hDb ⟨s3, rfl⟩
      obtain ⟨r, p, t, hr, rfl, hp, ht⟩ := fl.at hx
      have e1 : R.take (i + 1) = R.take i ++ [r] := by rw [List.take_add_one, hr]; rfl
      have hp3 := s3 _ _ (s2 _ _ hp)
      refine ⟨rfl, ?_⟩
      refine ⟨_, _, .inr (SqT.of hp3), rfl, ?_⟩
      by_cases e : V.str r.g = V.str club
      · refine iteY (c := false ^^ decide (V.str r.g = V.str club)) (by rw [decide_eq_true e]; rfl) ?_
        refine ⟨_, _, .inr (SqT.of hp3), rfl, ?_⟩
        refine ⟨hDb, fun H5 w5 => ⟨s3.wr hD2 w5, ?_⟩⟩
        unfold ofR
        rw [e1, List.filter_append, List.filter_cons_of_pos (by rw [decide_eq_true e])]
        simp
      · refine iteN (c := false ^^ decide (V.str r.g = V.str club)) (by rw [decide_eq_false e]; rfl) ?_
        refine ⟨hDb, s3, ?_⟩
        unfold ofR
        rw [e1, List.filter_append, List.filter_cons_of_neg (by rw [decide_eq_false e]; decide), List.filter_nil, List.append_nil]
    · rintro acc H3 _ hDb ⟨s3, rfl⟩
      rw [lx, List.take_length] at hDb
      refine ⟨_, SqL.of hDb, fun ms p10 H4 pm sd n4 => ?_⟩
      have s24 : Same H2 H4 := s3.trans n4.same
      exact q p9 p10 _ ms H4 (s2.trans s24) (s1.free n2.fresh) ((s2.trans s3).free n4.fresh) (s24 _ _ n2.here) ((z.same n2.same).same s24) n4.here pm sd
theorem told_b {K : PySem.W.Frag} {H : Hp} {D : Ends} {C dx a d : Addr} {R : List Lr} {club : Str} {now : Int} {v0 v1 v3 v4 v5 v6 v9 v10 v11 v12 v13 v14 v15 v16 : Option V}
    (ha : H a = some (.ins C dx [("_rows", .ref d)])) (ls : LsAt K H a d R) (ln : R.length ≤ 5000) (cn : cntD (.int now) = true)
    (q : ∀ p11 p12 p13 zs (ms : List Int) ws H2, Same H H2 → H p11 = none → H p12 = none → H p13 = none → p11 ≠ p12 → p11 ≠ p13 → p12 ≠ p13 → H2 p11 = some (.lst zs) → DzAll false H2 zs (srtD ((lateR R now).map Lr.kd)) → H2 p12 = some (.lst (ms.map V.int)) → ms.Perm ((ofR R club).map (·.n)) → ms.Pairwise (· ≤ ·) →
      H2 p13 = some (.lst ws) → DzAll false H2 ws (srtD (R.map Lr.d)) → D.nx [v0, v1, some (.ref a), v3, v4, v5, v6, some (.str club), some (.int now), v9, v10, some (.ref p11), some (.ref p12), some (.ref p13), v14, v15, v16] H2) :
    tPar3 11 12 13
            (tCons (tMt C (Str.ofString "ended") (sp_Leases_ended K) (fun x => E0) (tV 2) (tCons (tV 8) tNil))
              (tCons (tMt C (Str.ofString "held") (sp_Leases_held K) (fun x => E0) (tV 2) (tCons (tV 7) tNil))
                (tCons (tMt C (Str.ofString "listed") (sp_Leases_listed K) (fun x => E0) (tV 2) tNil) tNil)))
      D [v0, v1, some (.ref a), v3, v4, v5, v6, some (.str club), some (.int now), v9, v10, v11, v12, v13, v14, v15, v16] H := by
  refine ⟨_, _, ha, rfl, ?_⟩
  refine ⟨a, d, R, .int now, rfl, ls, ln, ⟨false, .int _⟩, fun z => (by rw [cn] at z; cases z), fun t zs p11 H1 et _ s1 f1 h1 z1 => ?_⟩
  cases et
  refine ⟨_, _, s1 _ _ ha, rfl, ?_⟩
  refine ⟨a, d, R, rfl, ls.same s1, ln, trivial, fun ms p12 H2 s2 f2 h2 pm sd => ?_⟩
  have s12 := s1.trans s2
  refine ⟨_, _, s12 _ _ ha, rfl, ?_⟩
  refine ⟨a, d, R, rfl, ls.same s12, ln, fun ws p13 H3 s3 f3 h3 z3 => ?_⟩
  have s23 := s2.trans s3
  exact ⟨_, _, _, rfl, q p11 p12 p13 zs ms ws H3 (s12.trans s3) f1 (s1.free f2) (s12.free f3) (ne_of_none h1 f2) (ne_of_none (s2 _ _ h1) f3) (ne_of_none h2 f3) (s23 _ _ h1) (z1.same s23) (s3 _ _ h2) pm sd h3 z3⟩
theorem told_c {K : PySem.W.Frag} {H : Hp} {D : Ends} {L p9 p10 p11 p12 p13 : Addr} {R : List Lr} {xs ys zs ws : List V} {k9 k12 : List Int} {club : Str} {now : Int} {v0 v1 v2 v4 v5 v6 v7 v8 v14 v15 v16 : Option V}
    (hL : H L = some (.lst xs)) (fl : Fl H xs R) (gd : ∀ x ∈ R, Gd x)
    (h9 : H p9 = some (.lst ys)) (z9 : DzAll false H ys (srtD ((lateR R now).map Lr.kd))) (h10 : H p10 = some (.lst (k9.map V.int))) (pm9 : k9.Perm ((ofR R club).map (·.n))) (sd9 : k9.Pairwise (· ≤ ·))
    (h11 : H p11 = some (.lst zs)) (z11 : DzAll false H zs (srtD ((lateR R now).map Lr.kd))) (h12 : H p12 = some (.lst (k12.map V.int))) (pm12 : k12.Perm ((ofR R club).map (·.n))) (sd12 : k12.Pairwise (· ≤ ·))
    (h13 : H p13 = some (.lst ws)) (z13 : DzAll false H ws (srtD (R.map Lr.d)))
    (q : ∀ H2, Same H H2 → D.nx [v0, v1, v2, some (.ref L), v4, v5, v6, v7, v8, some (.ref p9), some (.ref p10), some (.ref p11), some (.ref p12), some (.ref p13), v14, v15, v16] H2) :
    tIfS
              (tOr (tBz (tOp (zEq K true) (tV 11) (tV 9)))
                (tOr (tBz (tOp (zEq K true) (tV 12) (tV 10)))
                  (tBz (tOp (zEq K true) (tV 13) (tCB (zSortD K) (tCons (tV 3) tNil))))))
              (tRet (tC (V.bl false))) tNext
      D [v0, v1, v2, some (.ref L), v4, v5, v6, v7, v8, some (.ref p9), some (.ref p10), some (.ref p11), some (.ref p12), some (.ref p13), v14, v15, v16] H := by
  obtain ⟨D1, x1, x2, sh1⟩ := sortedK_go (K := K) (R := lateR R now) (fun x hx => gd x (List.mem_filter.mp hx).1) h11 h9 z11 z9
  refine ⟨D1, D1, x1, x2, sh1, sh1, ?_⟩
  rw [eqv_self sh1]
  obtain ⟨D2, y1, y2, sh2⟩ := ints_go (K := K) pm12 pm9 sd12 sd9 h12 h10
  refine ⟨D2, D2, y1, y2, sh2, sh2, ?_⟩
  rw [eqv_self sh2]
  obtain ⟨ps, e1, e2, e3, z⟩ := zip_pack fl.dz
  refine ⟨ps, by rw [e1]; exact SqL.of hL, e3, by rw [e2]; exact alike_d _, by rw [e2]; exact sortable_d _, fun p hp => depth_d _ _ (by rw [← e2]; exact List.mem_map.mpr ⟨p, hp, rfl⟩), fun p14 H2 n2 => ?_⟩
  obtain ⟨D3, w1, w2, sh3⟩ := sortedN_go (K := K) gd (n2.keep h13) n2.here (z13.same n2.same) (z.same n2.same)
  refine ⟨D3, D3, w1, w2, sh3, sh3, ?_⟩
  rw [eqv_self sh3]
  exact q H2 n2.same
theorem told_e {K : PySem.W.Frag} {H : Hp} {D : Ends} {C dx a d L p9 p10 : Addr} {R : List Lr} {xs ys : List V} {k9 : List Int} {club who : Str} {now no : Int} {v0 v1 v4 v5 v6 v11 v12 v13 v16 : Option V}
    (ha : H a = some (.ins C dx [("_rows", .ref d)])) (ls : LsAt K H a d R) (ln : R.length ≤ 5000) (cn : cntD (.int now) = true)
    (hL : H L = some (.lst xs)) (fl : Fl H xs R) (gd : ∀ x ∈ R, Gd x) (gg : gn club = true)
    (h9 : H p9 = some (.lst ys)) (z9 : DzAll false H ys (srtD ((lateR R now).map Lr.kd))) (h10 : H p10 = some (.lst (k9.map V.int))) (pm9 : k9.Perm ((ofR R club).map (·.n))) (sd9 : k9.Pairwise (· ≤ ·))
    (q : ∀ H2, Same H H2 → D.rt (.bl true) H2) :
    tSeq
                      (tIfS
                        (tOr
                          (tBz
                            (tOp (zEq K true)
                              (tMtK C (Str.ofString "ended") (fun {α} => perm_0) (sp_Leases_ended K)
                                (fun x => E0) (tV 2) (tCons (tV 8) tNil))
                              (tV 9)))
                          (tBz
                            (tOp (zEq K true)
                              (tMtK C (Str.ofString "held") (fun {α} => perm_0) (sp_Leases_held K) (fun x => E0)
                                (tV 2) (tCons (tV 7) tNil))
                              (tV 10))))
                        (tRet (tC (V.bl false))) tNext)
                      (tRet
                        (tAndZ
                          (tOp (zEq K false)
                            (tMt C (Str.ofString "listed") (sp_Leases_listed K) (fun x => E0) (tV 2) tNil)
                            (tCB (zSortD K) (tCons (tV 3) tNil)))
                          (tCl (sp__law_pair_right K) E0
                            (tCons (tV 2)
                              (tCons (tV 3) (tCons (tV 14) (tCons (tV 7) (tCons (tV 15) tNil))))))))
      D [v0, v1, some (.ref a), some (.ref L), v4, v5, v6, some (.str club), some (.int now), some (.ref p9), some (.ref p10), v11, v12, v13, some (.str who), some (.int no), v16] H := by
  refine ⟨_, _, ha, rfl, ?_⟩
  refine ⟨a, d, R, .int now, rfl, ls, ln, ⟨false, .int _⟩, fun z => (by rw [cn] at z; cases z), fun t zs p11 H1 et _ s1 f1 h1 z1 => ?_⟩
  cases et
  obtain ⟨D1, x1, x2, sh1⟩ := sortedK_go (K := K) (R := lateR R now) (fun x hx => gd x (List.mem_filter.mp hx).1) h1 (s1 _ _ h9) z1 (z9.same s1)
  refine ⟨D1, D1, x1, x2, sh1, sh1, ?_⟩
  rw [eqv_self sh1]
  refine ⟨_, _, s1 _ _ ha, rfl, ?_⟩
  refine ⟨a, d, R, rfl, ls.same s1, ln, trivial, fun ms p12 H2 s2 f2 h2 pm sd => ?_⟩
  have s12 := s1.trans s2
  obtain ⟨D2, y1, y2, sh2⟩ := ints_go (K := K) pm pm9 sd sd9 h2 (s12 _ _ h10)
  refine ⟨D2, D2, y1, y2, sh2, sh2, ?_⟩
  rw [eqv_self sh2]
  refine ⟨_, _, s12 _ _ ha, rfl, ?_⟩
  refine ⟨a, d, R, rfl, ls.same s12, ln, fun ws p13 H3 s3 f3 h3 z3 => ?_⟩
  have s13 := s12.trans s3
  have fl3 := fl.tk (.same s13)
  obtain ⟨ps, e1, e2, e3, z⟩ := zip_pack fl3.dz
  refine ⟨ps, by rw [e1]; exact SqL.of (s13 _ _ hL), e3, by rw [e2]; exact alike_d _, by rw [e2]; exact sortable_d _, fun p hp => depth_d _ _ (by rw [← e2]; exact List.mem_map.mpr ⟨p, hp, rfl⟩), fun p14 H4 n4 => ?_⟩
  obtain ⟨D3, w1, w2, sh3⟩ := sortedN_go (K := K) gd (n4.keep h3) n4.here (z3.same n4.same) (z.same n4.same)
  refine ⟨D3, D3, w1, w2, sh3, sh3, ?_⟩
  rw [eqv_self sh3]
  have s14 := s13.trans n4.same
  exact ⟨a, d, L, R, xs, who, club, no, rfl, rfl, rfl, rfl, rfl, ls.same s14, s14 _ _ hL, fl.tk (.same s14), gd, gg, fun H5 s5 => q H5 (s14.trans s5)⟩
/-! ### _law_told_right(_law_box_here, _law_seat_here), level 5 -/
abbrev s__law_told_right : Stmt := top 33
abbrev N__law_told_right : List Str := ["_law_box_here", "_law_seat_here", "_law_leases", "_law_rows", "_law_names", "_law_clubs", "_law_ids", "_law_club", "_law_now", "_law_late", "_law_mine", "_law_ended", "_law_held", "_law_told", "_law_who", "_law_no", "_law_row_here"]
theorem sc__law_told_right : FnScope N__law_told_right ["_law_box_here", "_law_seat_here"] (defScope s__law_told_right) := ⟨rfl, rfl, rfl, by decide +kernel, rfl, by decide +kernel, by decide +kernel⟩
theorem ok__law_told_right (T : Txt K mg e_InvalidName e_InvalidNumber e_InvalidCount e_Held e_QueueError e_Leases) (C__law_take : Ct P w K mg base CX0 1 "_law_take" ["_law_box_here", "_law_many"] (sp__law_take K)) (C__law_pair_right : Ct P w K mg base CX0 4 "_law_pair_right" ["_law_leases", "_law_rows", "_law_who", "_law_club", "_law_no"] (sp__law_pair_right K)) (M_Leases_listed : Mt P w K mg base CX0 1 e_Leases "listed" ["self"] (sp_Leases_listed K)) (M_Leases_held : Mt P w K mg base CX0 1 e_Leases "held" ["self", "group"] (sp_Leases_held K)) (M_Leases_ended : Mt P w K mg base (L2.CX P w) 3 e_Leases "ended" ["self", "time"] (sp_Leases_ended K)) (MK_Leases_held_group : MtK P w K mg base CX0 1 e_Leases "held" ["self", "group"] ["group"] perm_0 (sp_Leases_held K)) (MK_Leases_ended_time : MtK P w K mg base (L2.CX P w) 3 e_Leases "ended" ["self", "time"] ["time"] perm_0 (sp_Leases_ended K)) (D : Df K mg "_law_told_right" s__law_told_right ["_law_box_here", "_law_seat_here"]) : Ct P w K mg base CX0 5 "_law_told_right" ["_law_box_here", "_law_seat_here"] (sp__law_told_right K) := by
  refine ct2 D sc__law_told_right fun f cdv A outer s H a_box_here a_seat_here Q E hr h => ⟨_, (pss_cons (ps_asg (pz 1) (pg_lzK (n := 5) K (by rfl) (pgs_cz (pg_name (i := 2) sc__law_told_right.nd rfl (Or.inl rfl)) (pgs_cz (pg_name (i := 3) sc__law_told_right.nd rfl (Or.inl rfl)) (pgs_cz (pg_name (i := 4) sc__law_told_right.nd rfl (Or.inl rfl)) (pgs_cz (pg_name (i := 5) sc__law_told_right.nd rfl (Or.inl rfl)) (pgs_cz (pg_name (i := 6) sc__law_told_right.nd rfl (Or.inl rfl)) pgs_nz)))))))
    (pss_cons (ps_asg (pe_tz (pa_cons (pe_ix (k_ix K) (pz 5) (pe_cl C__law_take (hr.mono (by decide)) pass0 (pa_cons (pz 0) (pa_cons (pe_callB (k_len K) (by rfl) T.n_len bt_len (pa_cons (pz 5) pa_nil)) pa_nil))) (fun _ _ => rfl)) (pa_cons (pe_ix (k_ix K) (pe_lz (pa_cons pe_int (pa_cons pe_int (pa_cons pe_int (pa_cons pe_int (pa_cons pe_int (pa_cons (pe_op o_pow pe_int pe_int) pa_nil))))))) (pe_cl C__law_take (hr.mono (by decide)) pass0 (pa_cons (pz 0) (pa_cons pe_int pa_nil))) (fun _ _ => rfl)) pa_nil))) (pg_tzK (n := 2) K (by rfl) (pgs_cz (pg_name (i := 7) sc__law_told_right.nd rfl (Or.inr rfl)) (pgs_cz (pg_name (i := 8) sc__law_told_right.nd rfl (Or.inr rfl)) pgs_nz))))
    (pss_cons (ps_parZ (i := 9) (j := 10) (by rfl) sc__law_told_right.nd rfl rfl (by decide) rfl rfl (pa_cons (pe_callB (k_sortD K hr.units) (by rfl) T.n_sorted bt_sorted (pa_cons (pe_lcz (own := [("_law_row_here", 16)]) (by rfl) sc__law_told_right.nd (pi_lzK K (pz 3)) (blkOk_by (own := [("_law_row_here", 16)]) (N := N__law_told_right) (sc := defScope s__law_told_right) (by decide +kernel)) (fun _ _ _ _ _ => (pg_name (i := 16) sc__law_told_right.nd rfl (Or.inl rfl))) (fun _ _ _ _ _ => (pts_one (pt_cmpZ o_le (pe_ix (k_ix K) (pz 16) pe_int (fun _ _ => rfl)) (pz 8) (nomark _)))) (fun _ _ _ _ _ => (pe_slice (k_sl K) (pz 16) po_none (po_z pe_int)))) pa_nil)) (pa_cons (pe_callB (k_sortI K) (by rfl) T.n_sorted bt_sorted (pa_cons (pe_lcz (own := [("_law_row_here", 16)]) (by rfl) sc__law_told_right.nd (pi_lzK K (pz 3)) (blkOk_by (own := [("_law_row_here", 16)]) (N := N__law_told_right) (sc := defScope s__law_told_right) (by decide +kernel)) (fun _ _ _ _ _ => (pg_name (i := 16) sc__law_told_right.nd rfl (Or.inl rfl))) (fun _ _ _ _ _ => (pts_one (pt_cmpZ (k_eq K hr.units) (pe_ix (k_ix K) (pz 16) pe_int (fun _ _ => rfl)) (pz 7) (nomark _)))) (fun _ _ _ _ _ => (pe_ix (k_ix K) (pz 16) pe_int (fun _ _ => rfl)))) pa_nil)) pa_nil)) (by rfl))
    (pss_cons (ps_par3 (i := 11) (j := 12) (l := 13) (by rfl) sc__law_told_right.nd rfl rfl rfl (by decide) (by decide) (by decide) rfl rfl rfl (pa_cons (pe_mtA M_Leases_ended (hr.mono (by decide)) atL (pz 2) (pa_cons (pz 8) pa_nil)) (pa_cons (pe_mtA M_Leases_held (hr.mono (by decide)) at0 (pz 2) (pa_cons (pz 7) pa_nil)) (pa_cons (pe_mtA0 M_Leases_listed (hr.mono (by decide)) at0 (pz 2)) pa_nil))) (by rfl))
    (pss_cons (ps_if (PW.pt (pw_or (pt_cmpZ (k_ne K hr.units) (pz 11) (pz 9) (nomark _)) (pw_or (pt_cmpZ (k_ne K hr.units) (pz 12) (pz 10) (nomark _)) (pw_or1 (pt_cmpZ (k_ne K hr.units) (pz 13) (pe_callB (k_sortD K hr.units) (by rfl) T.n_sorted bt_sorted (pa_cons (pz 3) pa_nil)) (nomark _)))))) 
      (pss_one (ps_ret pe_bl)) pss_nil)
    (pss_cons (ps_expr (pe_mlK K PySem.F.slot_list_append PySem.F.type_list_append m_append (pz 11) (pa_cons (pe_tz (pa_cons pe_str (pa_cons pe_int pa_nil))) pa_nil)))
    (pss_cons (ps_expr (pe_mlK K PySem.F.slot_list_append PySem.F.type_list_append m_append (pz 12) (pa_cons pe_int pa_nil)))
    (pss_cons (ps_expr (pe_mlK K PySem.F.slot_list_append PySem.F.type_list_append m_append (pz 13) (pa_cons (pe_tz (pa_cons pe_str (pa_cons pe_int (pa_cons pe_str (pa_cons (pe_tz (pa_cons pe_int (pa_cons pe_int pa_nil))) (pa_cons pe_int pa_nil)))))) pa_nil)))
    (pss_cons (ps_parZ (i := 14) (j := 15) (by rfl) sc__law_told_right.nd rfl rfl (by decide) rfl rfl (pa_cons (pe_ix (k_ix K) (pz 4) (pe_cl C__law_take (hr.mono (by decide)) pass0 (pa_cons (pz 0) (pa_cons (pe_callB (k_len K) (by rfl) T.n_len bt_len (pa_cons (pz 4) pa_nil)) pa_nil))) (fun _ _ => rfl)) (pa_cons (pe_ix (k_ix K) (pz 6) (pe_cl C__law_take (hr.mono (by decide)) pass0 (pa_cons (pz 0) (pa_cons (pe_callB (k_len K) (by rfl) T.n_len bt_len (pa_cons (pz 6) pa_nil)) pa_nil))) (fun _ _ => rfl)) pa_nil)) (by rfl))
    (pss_cons (ps_if (PW.pt (pw_or (pt_cmpZ (k_ne K hr.units) (pe_mtK MK_Leases_ended_time (hr.mono (by decide)) atL (pz 2) (pk_cons (pz 8) pk_nil)) (pz 9) (nomark _)) (pw_or1 (pt_cmpZ (k_ne K hr.units) (pe_mtK MK_Leases_held_group (hr.mono (by decide)) at0 (pz 2) (pk_cons (pz 7) pk_nil)) (pz 10) (nomark _))))) 
      (pss_one (ps_ret pe_bl)) pss_nil)
    (pss_one (ps_ret (pe_andZ (pe_cmpR (k_eq K hr.units) (pe_mtA0 M_Leases_listed (hr.mono (by decide)) at0 (pz 2)) (pe_callB (k_sortD K hr.units) (by rfl) T.n_sorted bt_sorted (pa_cons (pz 3) pa_nil)) (nomark _)) (pe_one (pe_cl C__law_pair_right (hr.mono (by decide)) pass0 (pa_cons (pz 2) (pa_cons (pz 3) (pa_cons (pz 14) (pa_cons (pz 7) (pa_cons (pz 15) pa_nil)))))))))))))))))))), ?_⟩
  obtain ⟨b, n, s, a, d, L, nm, cl, il, R, xs, names, clubs, ids, m, rfl, rfl, hB, hn, se, hm, nb, nL, q⟩ := h
  obtain ⟨C, dx, kvs, hc, h1, h2, rw0⟩ := id se.ls.ex
  obtain rfl := hc.one T.a_Leases
  have ba : b ≠ a := by
    obtain ⟨zs, hb⟩ := box_lst hB
    exact ne_kind hb h1 (fun z => by cases z)
  have ln0 := se.ln
  have sl : 5000 < sizeLine := by decide
  obtain ⟨lna, lnb⟩ := se.ln1
  obtain ⟨lca, lcb⟩ := se.lc1
  obtain ⟨lia, lib⟩ := se.li1
  refine ⟨_, SqL.of se.hs, rfl, ?_⟩
  refine .inl ⟨_, .inl (SqL.of se.hc), ?_⟩
  refine ⟨b, _, _, rfl, rfl, by rw [List.length_map]; omega, by rw [List.length_map]; omega, hB, by omega, fun r1 H1 t1 B1 x0 x1 => ?_⟩
  have s1 := se.box hB nb t1
  obtain ⟨gc, e1, gg⟩ := gn_at clubs se.gcl x0 x1
  refine ⟨_, _, .inl (SqL.of s1.hc), e1, ?_⟩
  refine ⟨⟨by decide, by decide, by decide⟩, ?_⟩
  refine ⟨by show 6 ≤ sizeLine; decide, fun p2 H2 n2 => ?_⟩
  have B2 := B1.same n2.same
  refine ⟨b, 6, _, rfl, rfl, by decide, by decide, B2, by omega, fun r3 H3 t3 B3 w0 w1 => ?_⟩
  obtain ⟨now, e3, cn⟩ := int_at [3, 4, 0, 5, 7, (10 : Int) ^ (14 : Int).toNat] (fun i => cntD (.int i)) (by decide +kernel) w0 w1
  have b2 : p2 ≠ b := (B1.ne n2.fresh).symm
  refine ⟨_, _, .inl (SqL.of (t3.at b2 n2.here)), e3, ?_⟩
  refine ⟨by show 2 ≤ sizeLine; decide, fun p4 H4 n4 => ?_⟩
  refine ⟨_, SqT.of n4.here, rfl, ?_⟩
  have s4 := ((s1.same n2.same).box B2 nb t3).same n4.same
  have B4 := B3.same n4.same
  have t4 : But b H H4 := (((t1.trans (But.of n2.same)).trans t3).trans (But.of n4.same))
  have a4 := t4.at ba.symm h1
  refine told_a s4.hL s4.fl (by omega) fun p9 p10 ys ms H5 u5 f9 f10 h9 z9 h10 pm9 sd9 => ?_
  refine told_b (u5 _ _ a4) (s4.ls.same u5) (by omega) cn fun p11 p12 p13 zs ks ws H6 u6 f11 f12 f13 n12 n13 n23 h11 z11 h12 pm12 sd12 h13 z13 => ?_
  have s6 := (s4.same u5).same u6
  refine told_c s6.hL s6.fl se.gd (u6 _ _ h9) (z9.same u6) (u6 _ _ h10) pm9 sd9 h11 z11 h12 pm12 sd12 h13 z13 fun H7 u7 => ?_
  have s7 := s6.same u7
  have u57 := u6.trans u7
  have t7 : But b H H7 := t4.trans (But.of (u5.trans u57))
  have B5 := B4.same u5
  have B7 := B5.same u57
  have lz : zs.length ≤ R.length := by rw [len_srt z11]; exact List.length_filter_le _ _
  have lk : ks.length ≤ R.length := by rw [pm12.length_eq, List.length_map]; exact List.length_filter_le _ _
  have lw : ws.length = R.length := len_srt z13
  have g11 := u7 _ _ h11
  have g12 := u7 _ _ h12
  have g13 := u7 _ _ h13
  have ntup : ∀ x ∈ ([p11, p12, p13] : List Addr), ∀ ys, H7 x ≠ some (.tup ys) := fun x hx ys e => by
    simp only [List.mem_cons, List.not_mem_nil, or_false] at hx
    rcases hx with rfl | rfl | rfl
    · rw [g11] at e; cases e
    · rw [g12] at e; cases e
    · rw [g13] at e; cases e
  have off : ∀ {x : Addr} {o : HO}, H5 x = some o → x ∉ ([p11, p12, p13] : List Addr) := fun h => by
    simp only [List.mem_cons, List.not_mem_nil, or_false, not_or]
    exact ⟨ne_of_none h f11, ne_of_none h f12, ne_of_none h f13⟩
  have s5 := s4.same u5
  refine ⟨⟨_, SqL.of g11⟩, ?_⟩
  refine ⟨by show 2 ≤ sizeLine; decide, fun q1 J1 m1 => ?_⟩
  refine ⟨_, m1.keep g11, by omega, fun J2 w2 => ?_⟩
  have g12 := w2.keep n12.symm (m1.keep g12)
  have g13 := w2.keep n13.symm (m1.keep g13)
  refine ⟨⟨_, SqL.of g12⟩, ?_⟩
  refine ⟨_, g12, by rw [List.length_map]; omega, fun J3 w3 => ?_⟩
  have g13 := w3.keep n23.symm g13
  refine ⟨⟨_, SqL.of g13⟩, ?_⟩
  refine ⟨by show 2 ≤ sizeLine; decide, fun q2 J4 m4 => ?_⟩
  refine ⟨by show 5 ≤ sizeLine; decide, fun q3 J5 m5 => ?_⟩
  refine ⟨_, m5.keep (m4.keep g13), by omega, fun J6 w6 => ?_⟩
  have kJ : Kp [p11, p12, p13] H7 J6 := ((((((Kp.refl (l := [p11, p12, p13]) (H := H7)).nw m1).wr (by simp) w2).wr (by simp) w3).nw m4).nw m5).wr (by simp) w6
  obtain ⟨_, _, _, _, a5, d5, _⟩ := s5.ls.ex
  have sJ := s7.kp kJ ntup (fun x hx => by
    simp only [List.mem_cons, List.not_mem_nil, or_false] at hx
    rcases hx with rfl | rfl | rfl | rfl | rfl | rfl | rfl
    · exact off s5.hs
    · exact off a5
    · exact off d5
    · exact off s5.hL
    · exact off s5.hn
    · exact off s5.hc
    · exact off s5.hi)
  obtain ⟨_, b5⟩ := box_lst B5
  obtain ⟨_, b4⟩ := box_lst B4
  have BJ := B7.kp kJ (off b5)
  have h9J := kJ.at (off h9) (u57 _ _ h9)
  have h10J := kJ.at (off h10) (u57 _ _ h10)
  have z9J := srtk_tk (Tk.kp kJ ntup) (z9.same u57)
  have tJ : But b H J6 := fun x o ne h => kJ x o (off (u5 _ _ (t4 x o ne h))) (t7 x o ne h)
  have n9 : p9 ≠ b := (ne_of_none b4 f9).symm
  have n10 : p10 ≠ b := (ne_of_none b4 f10).symm
  refine .inl ⟨_, .inl (SqL.of sJ.hn), ?_⟩
  refine ⟨b, _, _, rfl, rfl, by rw [List.length_map]; omega, by rw [List.length_map]; omega, BJ, by omega, fun r5 G1 v1 C1 y0 y1 => ?_⟩
  have sG := sJ.box BJ nb v1
  obtain ⟨who, e5, _⟩ := gn_at names se.gnm y0 y1
  refine ⟨_, _, .inl (SqL.of sG.hn), e5, ?_⟩
  refine .inl ⟨_, .inl (SqL.of sG.hi), ?_⟩
  refine ⟨b, _, _, rfl, rfl, by rw [List.length_map]; omega, by rw [List.length_map]; omega, C1, by omega, fun r6 G2 v2 C2 y2 y3 => ?_⟩
  have sG2 := sG.box C1 nb v2
  obtain ⟨no, e6, _⟩ := int_at ids okI se.gid y2 y3
  refine ⟨_, _, .inl (SqL.of sG2.hi), e6, ?_⟩
  have vv := v1.trans v2
  have TT : Tk J6 G2 := Tk.but vv (box_nt BJ b (by simp))
  refine told_e ((tJ.trans vv).at ba.symm h1) sG2.ls (by omega) cn sG2.hL sG2.fl se.gd gg (vv.at n9 h9J) (srtk_tk TT z9J) (vv.at n10 h10J) pm9 sd9 fun G3 u3 => ?_
  exact q G3 ((tJ.trans vv).trans (But.of u3)) ((C2.same u3).mono (by omega))

/-! ### _law_all_right(_law_seat_here), level 5 -/
abbrev s__law_all_right : Stmt := top 34
abbrev N__law_all_right : List Str := ["_law_seat_here", "_law_leases", "_law_rows", "_law_names", "_law_clubs", "_law_ids", "_law_club", "_law_k"]
theorem sc__law_all_right : FnScope N__law_all_right ["_law_seat_here"] (defScope s__law_all_right) := ⟨rfl, rfl, rfl, by decide +kernel, rfl, by decide +kernel, by decide +kernel⟩
theorem ok__law_all_right (T : Txt K mg e_InvalidName e_InvalidNumber e_InvalidCount e_Held e_QueueError e_Leases) (C__law_pair_right : Ct P w K mg base CX0 4 "_law_pair_right" ["_law_leases", "_law_rows", "_law_who", "_law_club", "_law_no"] (sp__law_pair_right K)) (D : Df K mg "_law_all_right" s__law_all_right ["_law_seat_here"]) : Ct P w K mg base CX0 5 "_law_all_right" ["_law_seat_here"] (sp__law_all_right K) := by
  refine ct1 D sc__law_all_right fun f cdv A outer s H a_seat_here Q E hr h => ⟨_, (pss_cons (ps_asg (pz 0) (pg_lzK (n := 5) K (by rfl) (pgs_cz (pg_name (i := 1) sc__law_all_right.nd rfl (Or.inl rfl)) (pgs_cz (pg_name (i := 2) sc__law_all_right.nd rfl (Or.inl rfl)) (pgs_cz (pg_name (i := 3) sc__law_all_right.nd rfl (Or.inl rfl)) (pgs_cz (pg_name (i := 4) sc__law_all_right.nd rfl (Or.inl rfl)) (pgs_cz (pg_name (i := 5) sc__law_all_right.nd rfl (Or.inl rfl)) pgs_nz)))))))
    (pss_cons (ps_for PassesOwn.never rfl (pi_lzK K (pz 4)) (pg_name (i := 6) sc__law_all_right.nd rfl (Or.inl rfl)) 
      (pss_one (ps_for PassesOwn.never rfl (pi_rngZ (by rfl) T.n_range (pa_cons (pe_callB (c_max rfl) (by rfl) T.n_max bt_max (pa_cons (pe_callB (k_len K) (by rfl) T.n_len bt_len (pa_cons (pz 3) pa_nil)) (pa_cons (pe_callB (k_len K) (by rfl) T.n_len bt_len (pa_cons (pz 5) pa_nil)) pa_nil))) pa_nil)) (pg_name (i := 7) sc__law_all_right.nd rfl (Or.inl rfl)) 
        (pss_one (ps_if (pt_not (pt_trK K (pe_cl C__law_pair_right (hr.mono (by decide)) pass0 (pa_cons (pz 1) (pa_cons (pz 2) (pa_cons (pe_ix (k_ix K) (pz 3) (pe_op o_mod (pe_callTy c_int (by rfl) T.n_int bt_int (pa_cons (pz 7) pa_nil)) (pe_callB (k_len K) (by rfl) T.n_len bt_len (pa_cons (pz 3) pa_nil))) (fun _ _ => rfl)) (pa_cons (pz 6) (pa_cons (pe_ix (k_ix K) (pz 5) (pe_op o_mod (pe_callTy c_int (by rfl) T.n_int bt_int (pa_cons (pz 7) pa_nil)) (pe_callB (k_len K) (by rfl) T.n_len bt_len (pa_cons (pz 5) pa_nil))) (fun _ _ => rfl)) pa_nil)))))))) 
          (pss_one (ps_ret pe_bl)) pss_nil)))))
    (pss_one (ps_ret pe_bl)))), ?_⟩
  obtain ⟨s, a, d, L, nm, cl, il, R, xs, names, clubs, ids, m, rfl, se, hm, q⟩ := h
  obtain ⟨lna, lnb⟩ := se.ln1
  obtain ⟨lca, lcb⟩ := se.lc1
  obtain ⟨lia, lib⟩ := se.li1
  refine ⟨_, SqL.of se.hs, rfl, ?_⟩
  refine ⟨⟨_, SqL.of se.hc⟩, for_w (wk_list (clubs.map V.str)) (fun i σ H' => Same H H' ∧ ∃ v6 v7 : Option V, σ = [some (.ref s), some (.ref a), some (.ref L), some (.ref nm), some (.ref cl), some (.ref il), v6, v7]) ⟨Same.refl H, _, _, rfl⟩ (fun i σ H' z => SqL.of (z.1 _ _ se.hc)) ?_ ?_⟩
  case' refine_2 =>
    rintro σ H' ⟨s1, v6, v7, rfl⟩
    exact q H' s1
  rintro i x σ H1 hx ⟨s1, v6, v7, rfl⟩
  obtain ⟨g, hg, rfl⟩ := List.mem_map.mp (List.mem_of_getElem? hx)
  have gg := List.all_eq_true.mp se.gcl g hg
  refine .inl ⟨_, .inl (SqL.of (s1 _ _ se.hn)), ?_⟩
  refine .inl ⟨_, .inl (SqL.of (s1 _ _ se.hi)), ?_⟩
  rw [List.length_map, List.length_map]
  have rb : ∀ z : Int, (if (ids.length : Int) > (names.length : Int) then (ids.length : Int) else (names.length : Int)) = z → 0 ≤ z ∧ z ≤ 100 := fun z e => by
    subst e
    split <;> omega
  generalize hz : (if (ids.length : Int) > (names.length : Int) then (ids.length : Int) else (names.length : Int)) = z
  obtain ⟨z0, z1⟩ := rb z hz
  refine ⟨by omega, by omega, for_w (wk_rng 0 _) (fun i σ H' => Same H H' ∧ ∃ v7 : Option V, σ = [some (.ref s), some (.ref a), some (.ref L), some (.ref nm), some (.ref cl), some (.ref il), some (.str g), v7]) ⟨s1, _, rfl⟩ (fun _ _ _ _ => trivial) ?_ ?_⟩
  case' refine_2 =>
    rintro σ H' ⟨s2, v7, rfl⟩
    exact ⟨s2, _, _, rfl⟩
  rintro j x σ H2 hx2 ⟨s2, v7, rfl⟩
  obtain ⟨hj, rfl⟩ := rngV_at hx2
  have sn := SqL.of (K := K) (s2 _ _ se.hn)
  have si := SqL.of (K := K) (s2 _ _ se.hi)
  refine .inl ⟨_, .inl sn, ?_⟩
  have pn : (0 : Int) < ((names.map V.str).length : Int) := by rw [List.length_map]; omega
  have pi : (0 : Int) < ((ids.map V.int).length : Int) := by rw [List.length_map]; omega
  refine ⟨pn, ?_⟩
  obtain ⟨who, e3, _⟩ := gn_at names se.gnm (r := (0 + (j : Nat)) % ((names.map V.str).length : Int)) (Int.emod_nonneg _ (by omega)) (Int.emod_lt_of_pos _ pn)
  refine ⟨_, _, .inl sn, e3, ?_⟩
  refine .inl ⟨_, .inl si, ?_⟩
  refine ⟨pi, ?_⟩
  obtain ⟨no, e5, _⟩ := int_at ids okI se.gid (r := (0 + (j : Nat)) % ((ids.map V.int).length : Int)) (Int.emod_nonneg _ (by omega)) (Int.emod_lt_of_pos _ pi)
  refine ⟨_, _, .inl si, e5, ?_⟩
  exact ⟨a, d, L, R, xs, who, g, no, rfl, rfl, rfl, rfl, rfl, se.ls.same s2, s2 _ _ se.hL, se.fl.tk (.same s2), se.gd, gg, fun H3 s3 => ⟨s2.trans s3, _, rfl⟩⟩

theorem ShAt.weak {H0 H1 H : Hp} {v : V} {dd : PyData} (h : ShAt H0 H v dd) (f : ∀ x, H0 x = none → H1 x = none) : ShAt H1 H v dd := by
  obtain ⟨q, l, h', e, xs, zs, ks, R1, R2, rfl, nw', r⟩ := h
  exact ⟨q, l, h', e, xs, zs, ks, R1, R2, rfl, fun x hx => f x (nw' x hx), r⟩
theorem ShAll.weak {H0 H1 H : Hp} {vs : List V} {ds : List PyData} (h : ShAll H0 H vs ds) (f : ∀ x, H0 x = none → H1 x = none) : ShAll H1 H vs ds := by
  induction h with
  | nil => exact .nil
  | snoc _ a ih => exact .snoc ih (a.weak f)
theorem law_show {K : PySem.W.Frag} {Hb H : Hp} {D : Ends} {C b SS : Addr} {A B : Sa} {m n : Nat} {v0 v1 v2 v4 v5 v6 v7 : Option V} (hc : clsAt K "Leases" C) (two : Two K Hb H b SS A.s B.s A B m n) (hm : m ≤ 40)
    (q : ∀ p vs ds H2, Same H H2 → H p = none → H2 p = some (.lst vs) → ShAll H H2 vs ds → vs.length ≤ 2 → D.nx [v0, v1, v2, some (.ref SS), v4, some (.ref p), v6, v7] H2) :
    tAsg
                  (tLcz (tItL K (tV 3)) (gName 7) tYes
                    (tLz
                      (tCons
                        (tMt C (Str.ofString "listed") (sp_Leases_listed K) (fun x => E0)
                          (tOp (zIx K) (tV 7) (tC (V.int 0))) tNil)
                        (tCons
                          (tMt C (Str.ofString "held") (sp_Leases_held K) (fun x => E0)
                            (tOp (zIx K) (tV 7) (tC (V.int 0)))
                            (tCons (tOp (zIx K) (tOp (zIx K) (tV 7) (tC (V.int 3))) (tC (V.int 0))) tNil))
                          (tCons
                            (tMt C (Str.ofString "ended") (sp_Leases_ended K) (fun x => E0)
                              (tOp (zIx K) (tV 7) (tC (V.int 0))) (tCons (tC (V.int 5)) tNil))
                            tNil))))
                    (List.map (fun x => x.snd) [(Str.ofString "_law_seat_here", 7)]))
                  (gName 5)
      D [v0, v1, v2, some (.ref SS), v4, v5, v6, v7] H := by
  have key : ∀ (i : Nat) (x : V), ([V.ref A.s, V.ref B.s] : List V)[i]? = some x → ∃ S : Sa, x = .ref S.s ∧ S.At K H m := by
    intro i x hx
    match i, hx with
    | 0, hx => exact ⟨A, (Option.some.inj hx).symm, two.a⟩
    | 1, hx => exact ⟨B, (Option.some.inj hx).symm, two.b⟩
  refine ⟨⟨_, SqL.of two.ss⟩, fun D1 hD1 => lc_w (wk_list [V.ref A.s, V.ref B.s]) (by show 2 ≤ 1000000; decide) (fun i acc H' => Same H H' ∧ acc.length = i ∧ ∃ ds, ShAll (upd H D1 (.lst [])) H' acc ds) (fun H2 n2 => ⟨n2.same, rfl, _, .nil⟩) (fun i acc H' z => SqL.of (z.1 _ _ two.ss)) (fun i acc H' z => Nat.le_of_eq z.2.1) ?_ ?_⟩
  · rintro i x acc H1 hx hDa ⟨s1, la, ds, sh⟩
    obtain ⟨S, rfl, R, xs, se⟩ := key i x hx
    have se := se.same s1
    obtain ⟨C', dx, kvs, hc', ha, hd, rw0⟩ := id se.ls.ex
    obtain rfl := hc'.one hc
    have ln : R.length ≤ 5000 := Nat.le_trans se.ln (by omega)
    refine ⟨rfl, ?_⟩
    refine ⟨_, .ref S.a, .inl (SqL.of se.hs), rfl, ?_⟩
    refine ⟨_, _, ha, rfl, ?_⟩
    refine ⟨S.a, S.d, R, rfl, se.ls, ln, fun ws p1 H2 s2 f2 h2 z2 => ?_⟩
    refine ⟨_, .ref S.a, .inl (SqL.of (s2 _ _ se.hs)), rfl, ?_⟩
    refine ⟨_, _, s2 _ _ ha, rfl, ?_⟩
    refine ⟨_, .ref S.c, .inl (SqL.of (s2 _ _ se.hs)), rfl, ?_⟩
    obtain ⟨c0, cr, ec⟩ : ∃ c0 cr, S.clubs = c0 :: cr := by
      have := se.lc1.1
      cases e : S.clubs with
      | nil => rw [e] at this; exact absurd this (by decide)
      | cons c r => exact ⟨c, r, rfl⟩
    refine ⟨_, .str c0, .inl (SqL.of (s2 _ _ se.hc)), by rw [ec]; exact atI_nat (j := 0) rfl, ?_⟩
    refine ⟨S.a, S.d, R, rfl, se.ls.same s2, ln, trivial, fun ks p3 H3 s3 f3 h3 pm sd => ?_⟩
    have s23 := s2.trans s3
    refine ⟨_, .ref S.a, .inl (SqL.of (s23 _ _ se.hs)), rfl, ?_⟩
    refine ⟨_, _, s23 _ _ ha, rfl, ?_⟩
    refine ⟨S.a, S.d, R, .int 5, rfl, se.ls.same s23, ln, ⟨false, .int _⟩, fun z => absurd z (by decide), fun t zs p4 H4 et _ s4 f4 h4 z4 => ?_⟩
    cases et
    refine ⟨by show 3 ≤ sizeLine; decide, fun p5 H5 n5 => ?_⟩
    have s24 := s23.trans s4
    have s25 := s24.trans n5.same
    have s35 := (s3.trans s4).trans n5.same
    have s45 := s4.trans n5.same
    have up : ∀ {G : Hp} {x : Addr} {o : HO}, Same H G → G D1 = some o → G x = none → (upd H D1 (.lst [])) x = none := fun s h f => by
      rw [upd_ne (ne_of_none h f).symm]
      exact s.free f
    obtain ⟨dd, sd2⟩ := ShAt.mk (H0 := upd H D1 (.lst [])) (H := H5) (t := 5) se.gd (Nat.le_trans se.ln hm) (fun x hx => by
      simp only [List.mem_cons, List.not_mem_nil, or_false] at hx
      rcases hx with rfl | rfl | rfl | rfl
      · exact up (s1.trans s24) (s24 _ _ hDa) n5.fresh
      · exact up s1 hDa f2
      · exact up (s1.trans s2) (s2 _ _ hDa) f3
      · exact up (s1.trans s23) (s23 _ _ hDa) f4) n5.here (s35 _ _ h2) (z2.same s35) (s45 _ _ h3) pm (n5.keep h4) (z4.same n5.same)
    refine ⟨s25 _ _ hDa, fun H6 w6 => ⟨(s1.trans s25).wr hD1 w6, by rw [List.length_append, la]; rfl, ds ++ [dd], ?_⟩⟩
    have k6 : Kp [D1] H1 H6 := (Kp.same s25).wr (by simp) w6
    have nt : ∀ {G : Hp}, G D1 = some (.lst acc) → ∀ x ∈ ([D1] : List Addr), ∀ ys, G x ≠ some (.tup ys) := fun h x hx ys e => by
      rw [List.mem_singleton.mp hx, h] at e
      cases e
    have o1 : ∀ x ∈ ([D1] : List Addr), (upd H D1 (.lst [])) x ≠ none := fun x hx e => by
      rw [List.mem_singleton.mp hx, (nw (o := .lst []) hD1).here] at e
      cases e
    exact .snoc (sh.kp k6 (nt hDa) o1) (sd2.kp (Kp.wr (l := [D1]) .refl (by simp) w6) (nt (s25 _ _ hDa)) o1)
  · rintro acc H1 l1 hDa ⟨s1, la, ds, sh⟩
    exact q D1 acc ds H1 s1 hD1 hDa (sh.weak fun x f => by
      by_cases e : x = D1
      · rw [e]; exact hD1
      · rw [upd_ne e] at f; exact f) l1
theorem law_didz {K : PySem.W.Frag} {Hb H0 H : Hp} {D : Ends} {b SS p : Addr} {A B : Sa} {m n : Nat} {vs : List V} {ds : List PyData} {v0 v1 v4 v5 v6 v7 : Option V} (far : Far Hb b SS A B) (two : Two K Hb H b SS A.s B.s A B m n) (hn : n < 600000) (hm : m ≤ 40)
    (o : ∀ x ∈ [b, A.d, A.L, B.d, B.L], H0 x ≠ none) (hp0 : H0 p = none) (hp : H p = some (.lst vs)) (sh : ShAll H0 H vs ds)
    (q : ∀ H2, Two K Hb H2 b SS A.s B.s A B (m + 1) (n + 13) → H2 p = some (.lst vs) → ShAll H0 H2 vs ds → D.nx [v0, v1, some (.ref b), some (.ref SS), v4, v5, v6, v7] H2) :
    tIfS
                      (tNot
                        (tTr K
                          (tCl (sp__law_did K) E0
                            (tCons (tV 2)
                              (tCons
                                (tOp (zIx K) (tV 3)
                                  (tCl (sp__law_take K) E0 (tCons (tV 2) (tCons (tC (V.int 2)) tNil))))
                                tNil)))))
                      (tRet (tC (V.bl false))) tNext
      D [v0, v1, some (.ref b), some (.ref SS), v4, v5, v6, v7] H := by
  have np : ∀ x ∈ [b, A.d, A.L, B.d, B.L], p ≠ x := fun x hx e => o x hx (e ▸ hp0)
  refine ⟨b, 2, _, rfl, rfl, by decide, by decide, two.bx, by omega, fun r H1 t1 B1 r0 r1 => ?_⟩
  have two1 := two.box far t1 B1
  have sh1 := sh.kp (Kp.but t1) (box_nt two.bx) (fun x hx => o x (by rw [List.mem_singleton.mp hx]; simp))
  have hp1 := t1.at (np b (by simp)) hp
  rcases (show r = 0 ∨ r = 1 by omega) with rfl | rfl
  · refine ⟨_, .ref A.s, .inl (SqL.of two1.ss), rfl, ?_⟩
    obtain ⟨R, xs, se⟩ := id two1.a
    refine ⟨b, _, A.s, A.a, A.d, A.L, A.n, A.c, A.i, R, xs, A.names, A.clubs, A.ids, m, rfl, rfl, B1, by omega, se, by omega, far.bA, far.LA, fun R' xs' H2 k2 B2 s2 => ?_⟩
    have two2 := two1.did far k2 B2 ⟨_, _, s2⟩
    exact q H2 (two2.mono (by omega)) (k2.at (by
      simp only [List.mem_cons, List.not_mem_nil, or_false, not_or]
      exact ⟨np _ (by simp), np _ (by simp), np _ (by simp)⟩) hp1) (sh1.kp k2 (fun x hx => (two1.nt x hx).1) (fun x hx => o x (by
      simp only [List.mem_cons, List.not_mem_nil, or_false] at hx ⊢
      rcases hx with h | h | h
      · exact .inl h
      · exact .inr (.inl h)
      · exact .inr (.inr (.inl h)))))
  · refine ⟨_, .ref B.s, .inl (SqL.of two1.ss), rfl, ?_⟩
    obtain ⟨R, xs, se⟩ := id two1.b
    refine ⟨b, _, B.s, B.a, B.d, B.L, B.n, B.c, B.i, R, xs, B.names, B.clubs, B.ids, m, rfl, rfl, B1, by omega, se, by omega, far.bB, far.LB, fun R' xs' H2 k2 B2 s2 => ?_⟩
    have two2 := (two1.swap.did far.swap k2 B2 ⟨_, _, s2⟩).swap
    exact q H2 (two2.mono (by omega)) (k2.at (by
      simp only [List.mem_cons, List.not_mem_nil, or_false, not_or]
      exact ⟨np _ (by simp), np _ (by simp), np _ (by simp)⟩) hp1) (sh1.kp k2 (fun x hx => (two1.swap.nt x hx).1) (fun x hx => o x (by
      simp only [List.mem_cons, List.not_mem_nil, or_false] at hx ⊢
      rcases hx with h | h | h
      · exact .inl h
      · exact .inr (.inr (.inr (.inl h)))
      · exact .inr (.inr (.inr (.inr h))))))
theorem law_told {K : PySem.W.Frag} {Hb H0 H : Hp} {D : Ends} {b SS p : Addr} {A B : Sa} {m n : Nat} {vs : List V} {ds : List PyData} {v0 v1 v4 v5 v6 v7 : Option V} (far : Far Hb b SS A B) (two : Two K Hb H b SS A.s B.s A B m n) (hn : n < 600000) (hm : m ≤ 41)
    (o : ∀ x ∈ [b, A.d, A.L, B.d, B.L], H0 x ≠ none) (hp0 : H0 p = none) (hp : H p = some (.lst vs)) (sh : ShAll H0 H vs ds)
    (q : ∀ H2 v7', Two K Hb H2 b SS A.s B.s A B m (n + 8) → H2 p = some (.lst vs) → ShAll H0 H2 vs ds → D.nx [v0, v1, some (.ref b), some (.ref SS), v4, v5, v6, v7'] H2) :
    tFor (tItL K (tV 3)) (gName 7)
                        (tIfS (tNot (tTr K (tCl (sp__law_told_right K) E0 (tCons (tV 2) (tCons (tV 7) tNil)))))
                          (tRet (tC (V.bl false))) tNext)
      D [v0, v1, some (.ref b), some (.ref SS), v4, v5, v6, v7] H := by
  have np : p ≠ b := fun e => o b (by simp) (e ▸ hp0)
  refine ⟨⟨_, SqL.of two.ss⟩, for_w (wk_list [V.ref A.s, V.ref B.s]) (fun i σ H' => Two K Hb H' b SS A.s B.s A B m (n + 4 * i) ∧ H' p = some (.lst vs) ∧ ShAll H0 H' vs ds ∧ ∃ v7' : Option V, σ = [v0, v1, some (.ref b), some (.ref SS), v4, v5, v6, v7']) ⟨two, hp, sh, _, rfl⟩ (fun i σ H' z => SqL.of z.1.ss) ?_ ?_⟩
  case' refine_2 =>
    rintro σ H' ⟨two1, hp1, sh1, v7', rfl⟩
    exact q H' v7' two1 hp1 sh1
  rintro i x σ H1 hx ⟨two1, hp1, sh1, v7', rfl⟩
  have keep : ∀ {H2 : Hp}, But b H1 H2 → BoxAt (n + 4 * i + 4) H2 b → Two K Hb H2 b SS A.s B.s A B m (n + 4 * (i + 1)) ∧ H2 p = some (.lst vs) ∧ ShAll H0 H2 vs ds := fun t x =>
    ⟨(two1.box far t x).mono (by omega), t.at np hp1, sh1.kp (Kp.but t) (box_nt two1.bx) (fun x hx => o x (by rw [List.mem_singleton.mp hx]; simp))⟩
  have two : (i = 0 ∧ x = .ref A.s) ∨ (i = 1 ∧ x = .ref B.s) := by
    match i, hx with
    | 0, hx => exact .inl ⟨rfl, (Option.some.inj hx).symm⟩
    | 1, hx => exact .inr ⟨rfl, (Option.some.inj hx).symm⟩
  rcases two with ⟨rfl, rfl⟩ | ⟨rfl, rfl⟩
  · obtain ⟨R, xs, se⟩ := id two1.a
    exact ⟨b, _, A.s, A.a, A.d, A.L, A.n, A.c, A.i, R, xs, A.names, A.clubs, A.ids, m, rfl, rfl, two1.bx, by omega, se, by omega, far.bA, far.LA, fun H2 t B2 => by
      obtain ⟨x1, x2, x3⟩ := keep t B2
      exact ⟨x1, x2, x3, _, rfl⟩⟩
  · obtain ⟨R, xs, se⟩ := id two1.b
    exact ⟨b, _, B.s, B.a, B.d, B.L, B.n, B.c, B.i, R, xs, B.names, B.clubs, B.ids, m, rfl, rfl, two1.bx, by omega, se, by omega, far.bB, far.LB, fun H2 t B2 => by
      obtain ⟨x1, x2, x3⟩ := keep t B2
      exact ⟨x1, x2, x3, _, rfl⟩⟩
theorem Seat.some {K : PySem.W.Frag} {H : Hp} {s a d L nm cl il : Addr} {R : List Lr} {xs : List V} {names clubs : List Str} {ids : List Int} {m : Nat} (h : Seat K H s a d L nm cl il R xs names clubs ids m) : ∀ x ∈ [s, a, d, L, nm, cl, il], ∃ u, H x = some u := by
  obtain ⟨_, _, _, _, ha, hd, _⟩ := h.ls.ex
  intro x hx
  simp only [List.mem_cons, List.not_mem_nil, or_false] at hx
  rcases hx with rfl | rfl | rfl | rfl | rfl | rfl | rfl
  · exact ⟨_, h.hs⟩
  · exact ⟨_, ha⟩
  · exact ⟨_, hd⟩
  · exact ⟨_, h.hL⟩
  · exact ⟨_, h.hn⟩
  · exact ⟨_, h.hc⟩
  · exact ⟨_, h.hi⟩
/-! ### law(_law_script), level 8 -/
abbrev s_law : Stmt := top 35
abbrev N_law : List Str := ["_law_script", "_law_k", "_law_box_here", "_law_seats", "_law_turn", "_law_shown", "_law_due_here", "_law_seat_here"]
theorem sc_law : FnScope N_law ["_law_script"] (defScope s_law) := ⟨rfl, rfl, rfl, by decide +kernel, rfl, by decide +kernel, by decide +kernel⟩
theorem ok_law (T : Txt K mg e_InvalidName e_InvalidNumber e_InvalidCount e_Held e_QueueError e_Leases) (C__law_box : Ct P w K mg base CX0 1 "_law_box" ["_law_great"] (sp__law_box K)) (C__law_cell : Ct P w K mg base CX0 1 "_law_cell" ["_law_script", "_law_k"] (sp__law_cell K)) (C__law_seat : Ct P w K mg base CX0 3 "_law_seat" ["_law_box_here"] (sp__law_seat K)) (C__law_did : Ct P w K mg base CX0 7 "_law_did" ["_law_box_here", "_law_seat_here"] (sp__law_did K)) (C__law_take : Ct P w K mg base CX0 1 "_law_take" ["_law_box_here", "_law_many"] (sp__law_take K)) (C__law_told_right : Ct P w K mg base CX0 5 "_law_told_right" ["_law_box_here", "_law_seat_here"] (sp__law_told_right K)) (C__law_all_right : Ct P w K mg base CX0 5 "_law_all_right" ["_law_seat_here"] (sp__law_all_right K)) (M_Leases_ended : Mt P w K mg base (L2.CX P w) 3 e_Leases "ended" ["self", "time"] (sp_Leases_ended K)) (M_Leases_held : Mt P w K mg base CX0 1 e_Leases "held" ["self", "group"] (sp_Leases_held K)) (M_Leases_listed : Mt P w K mg base CX0 1 e_Leases "listed" ["self"] (sp_Leases_listed K)) (D : Df K mg "law" s_law ["_law_script"]) : Cg P w K mg base CX0 8 "law" ["_law_script"] (sp_law K) := by
  refine cg1 D sc_law fun f cdv A outer s H a_script Q E hr h => ⟨_, (pss_cons (ps_for PassesOwn.never rfl (pi_rngZ (by rfl) T.n_range (pa_cons (pe_callB (c_max rfl) (by rfl) T.n_max bt_max (pa_cons pe_int (pa_cons (pe_callB (c_min rfl) (by rfl) T.n_min bt_min (pa_cons pe_int (pa_cons (pe_callB (k_len K) (by rfl) T.n_len bt_len (pa_cons (pz 0) pa_nil)) pa_nil))) pa_nil))) pa_nil)) (pg_name (i := 1) sc_law.nd rfl (Or.inl rfl)) 
      (pss_cons (ps_set (i := 2) sc_law.nd rfl (Or.inl rfl) (pe_cl C__law_box (hr.room.mono (by decide)) pass0 (pa_cons (pe_cl C__law_cell (hr.room.mono (by decide)) pass0 (pa_cons (pz 0) (pa_cons (pz 1) pa_nil))) pa_nil)))
      (pss_cons (ps_set (i := 3) sc_law.nd rfl (Or.inl rfl) (pe_lz (pa_cons (pe_cl C__law_seat (hr.room.mono (by decide)) pass0 (pa_cons (pz 2) pa_nil)) (pa_cons (pe_cl C__law_seat (hr.room.mono (by decide)) pass0 (pa_cons (pz 2) pa_nil)) pa_nil))))
      (pss_cons (ps_for PassesOwn.never rfl (pi_rngZ (by rfl) T.n_range (pa_cons pe_int pa_nil)) (pg_name (i := 4) sc_law.nd rfl (Or.inl rfl)) 
        (pss_cons (ps_setLcz (i := 5) (own := [("_law_seat_here", 7)]) (by rfl) sc_law.nd rfl rfl (sw_true rfl rfl rfl (by decide +kernel)) (pi_lzK K (pz 3)) (blkOk_by (own := [("_law_seat_here", 7)]) (N := N_law) (sc := defScope s_law) (by decide +kernel)) (fun _ _ _ _ _ => (pg_name (i := 7) sc_law.nd rfl (Or.inl rfl))) (fun _ _ _ _ _ => pts_nil) (fun _ _ _ _ _ => (pe_lz (pa_cons (pe_mtA0 M_Leases_listed (hr.room.mono (by decide)) at0 (pe_ix (k_ix K) (pz 7) pe_int (fun _ _ => rfl))) (pa_cons (pe_mtA M_Leases_held (hr.room.mono (by decide)) at0 (pe_ix (k_ix K) (pz 7) pe_int (fun _ _ => rfl)) (pa_cons (pe_ix (k_ix K) (pe_ix (k_ix K) (pz 7) pe_int (fun _ _ => rfl)) pe_int (fun _ _ => rfl)) pa_nil)) (pa_cons (pe_mtA M_Leases_ended (hr.room.mono (by decide)) atL (pe_ix (k_ix K) (pz 7) pe_int (fun _ _ => rfl)) (pa_cons pe_int pa_nil)) pa_nil))))))
        (pss_cons (ps_set (i := 6) sc_law.nd rfl (Or.inl rfl) (pe_callB (c_repr hr) (by rfl) T.n_repr bt_repr (pa_cons (pz 5) pa_nil)))
        (pss_cons (ps_if (pt_not (pt_trK K (pe_cl C__law_did (hr.room.mono (by decide)) pass0 (pa_cons (pz 2) (pa_cons (pe_ix (k_ix K) (pz 3) (pe_cl C__law_take (hr.room.mono (by decide)) pass0 (pa_cons (pz 2) (pa_cons pe_int pa_nil))) (fun _ _ => rfl)) pa_nil))))) 
          (pss_one (ps_ret pe_bl)) pss_nil)
        (pss_cons (ps_for PassesOwn.never rfl (pi_lzK K (pz 3)) (pg_name (i := 7) sc_law.nd rfl (Or.inl rfl)) 
          (pss_one (ps_if (pt_not (pt_trK K (pe_cl C__law_told_right (hr.room.mono (by decide)) pass0 (pa_cons (pz 2) (pa_cons (pz 7) pa_nil))))) 
            (pss_one (ps_ret pe_bl)) pss_nil)))
        (pss_one (ps_if (pt_cmpZ (k_ne K hr.room.units) (pe_callB (c_repr hr) (by rfl) T.n_repr bt_repr (pa_cons (pz 5) pa_nil)) (pz 6) (nomark _)) 
          (pss_one (ps_ret pe_bl)) pss_nil)))))))
      (pss_one (ps_if (PW.pt (pw_or (pt_not (pt_trK K (pe_cl C__law_all_right (hr.room.mono (by decide)) pass0 (pa_cons (pe_ix (k_ix K) (pz 3) pe_int (fun _ _ => rfl)) pa_nil)))) (pw_or1 (pt_not (pt_trK K (pe_cl C__law_all_right (hr.room.mono (by decide)) pass0 (pa_cons (pe_ix (k_ix K) (pz 3) pe_int (fun _ _ => rfl)) pa_nil))))))) 
        (pss_one (ps_ret pe_bl)) pss_nil))))))
    (pss_one (ps_ret pe_bl))), ?_⟩
  obtain ⟨a, ns, rfl, hS, hl, k⟩ := h
  refine .inl ⟨_, .inl hS, ?_⟩
  rw [List.length_map]
  have rb : ∀ z : Int, (if (if (ns.length : Int) < 3 then (ns.length : Int) else 3) > 1 then (if (ns.length : Int) < 3 then (ns.length : Int) else 3) else 1) = z → 1 ≤ z ∧ z ≤ 3 := fun z e => by
    subst e
    split <;> split <;> omega
  generalize hz : (if (if (ns.length : Int) < 3 then (ns.length : Int) else 3) > 1 then (if (ns.length : Int) < 3 then (ns.length : Int) else 3) else 1) = z
  obtain ⟨z2, z4⟩ := rb z hz
  refine ⟨by omega, by omega, for_w (wk_rng 0 _) (fun i σ H' => Same H H' ∧ ∃ v1 v2 v3 v4 v5 v6 v7 : Option V, σ = [some (.ref a), v1, v2, v3, v4, v5, v6, v7]) ⟨Same.refl H, _, _, _, _, _, _, _, rfl⟩ (fun _ _ _ _ => trivial) ?_ (fun σ H' p => k H')⟩
  rintro i x σ Hb hx ⟨s0', v1, v2, v3, v4, v5, v6, v7, rfl⟩
  obtain ⟨hi, rfl⟩ := rngV_at hx
  refine ⟨a, _, ns, rfl, rfl, by omega, by omega, sqL_same s0' hS, hl, fun g H1 s1' => ?_⟩
  refine ⟨g, rfl, fun b H2 fb s2 B2 => ?_⟩
  refine ⟨b, 0, rfl, B2, by omega, fun s0 a0 d0 L0 n0 c0 i0 names0 clubs0 ids0 H3 t3 B3 f3 q0 o0 => ?_⟩
  refine ⟨b, _, rfl, B3, by omega, fun s1 a1 d1 L1 n1 c1 i1 names1 clubs1 ids1 H4 t4 B4 f4 q1 o1 => ?_⟩
  refine ⟨by show 2 ≤ sizeLine; decide, fun SS H5 n5 => ?_⟩
  have b0 : Same Hb H2 := s1'.trans s2
  have fbb : Hb b = none := s1'.free fb
  have b3 : Same Hb H3 := fun p o e => t3 p o (ne_of_none e fbb) (b0 p o e)
  have b4 : Same Hb H4 := fun p o e => t4 p o (ne_of_none e fbb) (b3 p o e)
  obtain ⟨_, hb2⟩ := box_lst B2
  obtain ⟨_, hb3⟩ := box_lst B3
  have ba0 : ∀ x ∈ [s0, a0, d0, L0, n0, c0, i0], b ≠ x := fun x hx => ne_of_none hb2 (f3 x hx)
  have ba1 : ∀ x ∈ [s1, a1, d1, L1, n1, c1, i1], b ≠ x := fun x hx => ne_of_none hb3 (f4 x hx)
  have nb0 : b ∉ [s0, L0, n0, c0, i0] := by
    simp only [List.mem_cons, List.not_mem_nil, or_false, not_or]
    exact ⟨ba0 _ (by simp), ba0 _ (by simp), ba0 _ (by simp), ba0 _ (by simp), ba0 _ (by simp)⟩
  have nb1 : b ∉ [s1, L1, n1, c1, i1] := by
    simp only [List.mem_cons, List.not_mem_nil, or_false, not_or]
    exact ⟨ba1 _ (by simp), ba1 _ (by simp), ba1 _ (by simp), ba1 _ (by simp), ba1 _ (by simp)⟩
  have q04 := q0.box B3 nb0 t4
  have far : Far Hb b SS ⟨s0, a0, d0, L0, n0, c0, i0, names0, clubs0, ids0⟩ ⟨s1, a1, d1, L1, n1, c1, i1, names1, clubs1, ids1⟩ := by
    refine ⟨fbb, fun x hx => b0.free (f3 x hx), fun x hx => b3.free (f4 x hx), nb0, nb1, o0, o1, fun x hx hy => ?_, fun hx => ?_, fun hx => ?_, (B4.ne n5.fresh).symm⟩
    · obtain ⟨u, hu⟩ := q0.some x hx
      rw [f4 x hy] at hu
      cases hu
    · obtain ⟨u, hu⟩ := q04.some SS hx
      rw [n5.fresh] at hu
      cases hu
    · obtain ⟨u, hu⟩ := q1.some SS hx
      rw [n5.fresh] at hu
      cases hu
  have two0 : Two K Hb H5 b SS s0 s1 ⟨s0, a0, d0, L0, n0, c0, i0, names0, clubs0, ids0⟩ ⟨s1, a1, d1, L1, n1, c1, i1, names1, clubs1, ids1⟩ 0 30 :=
    ⟨b4.trans n5.same, B4.same n5.same, n5.here, ⟨_, _, q04.same n5.same⟩, ⟨_, _, q1.same n5.same⟩⟩
  obtain ⟨A, eA⟩ : ∃ A : Sa, A = ⟨s0, a0, d0, L0, n0, c0, i0, names0, clubs0, ids0⟩ := ⟨_, rfl⟩
  obtain ⟨B, eB⟩ : ∃ B : Sa, B = ⟨s1, a1, d1, L1, n1, c1, i1, names1, clubs1, ids1⟩ := ⟨_, rfl⟩
  have two0 : Two K Hb H5 b SS A.s B.s A B 0 30 := by rw [eA, eB]; exact two0
  rw [← eA, ← eB] at far
  clear eA eB
  refine ⟨by decide, by decide, for_w (wk_rng 0 _) (fun t σ H' => Two K Hb H' b SS A.s B.s A B t (30 + 30 * t) ∧ ∃ v4 v5 v6 v7 : Option V, σ = [some (.ref a), some (.int (0 + (i : Nat))), some (.ref b), some (.ref SS), v4, v5, v6, v7])
    ⟨two0, _, _, _, _, rfl⟩ (fun _ _ _ _ => trivial) ?_ ?_⟩
  case' refine_2 =>
    rintro σ H' ⟨two, v4, v5, v6, v7, rfl⟩
    have lm : (rngV 0 40).length ≤ 4000 := by rw [rngV_len]; decide
    refine ⟨_, .ref A.s, .inl (SqL.of two.ss), rfl, ?_⟩
    obtain ⟨R, xs, se⟩ := id two.a
    refine ⟨A.s, A.a, A.d, A.L, A.n, A.c, A.i, R, xs, A.names, A.clubs, A.ids, _, rfl, se, lm, fun H6 u6 => ?_⟩
    have two := two.same u6
    refine ⟨_, .ref B.s, .inl (SqL.of two.ss), rfl, ?_⟩
    obtain ⟨R1, xs1, se1⟩ := id two.b
    refine ⟨B.s, B.a, B.d, B.L, B.n, B.c, B.i, R1, xs1, B.names, B.clubs, B.ids, _, rfl, se1, lm, fun H7 u7 => ?_⟩
    exact ⟨s0'.trans (two.same u7).sb, _, _, _, _, _, _, _, rfl⟩
  rintro t x σ G0 hx ⟨two, v4, v5, v6, v7, rfl⟩
  obtain ⟨ht, rfl⟩ := rngV_at hx
  have ht : t < 40 := ht
  have o : ∀ x ∈ [b, A.d, A.L, B.d, B.L], G0 x ≠ none := fun x hx => by
    simp only [List.mem_cons, List.not_mem_nil, or_false] at hx
    rcases hx with rfl | rfl | rfl | rfl | rfl
    · exact (two.nt _ (by simp)).2
    · exact (two.nt _ (by simp)).2
    · exact (two.nt _ (by simp)).2
    · exact (two.swap.nt _ (by simp)).2
    · exact (two.swap.nt _ (by simp)).2
  refine law_show T.a_Leases two (by omega) fun p vs ds G1 u1 fp hp sh lv => ?_
  obtain ⟨dz1, nd1, sa1, sb1, sc1⟩ := sh.repr hp lv
  refine ⟨false, _, dz1, nd1, sa1, sb1, sc1, ?_⟩
  refine law_didz far (two.same u1) (by omega) (by omega) o fp hp sh fun G2 two2 hp2 sh2 => ?_
  refine law_told far two2 (by omega) (by omega) o fp hp2 sh2 fun G3 v7' two3 hp3 sh3 => ?_
  obtain ⟨dz3, nd3, sa3, sb3, sc3⟩ := sh3.repr hp3 lv
  refine ⟨false, _, dz3, nd3, sa3, sb3, sc3, ?_⟩
  refine iteN (c := true ^^ decide (V.str (PyData.list ds).shown = V.str (PyData.list ds).shown)) (nself _) ?_
  exact ⟨two3.mono (by omega), _, _, _, _, rfl⟩


end
theorem law_asks {K : PySem.W.Frag} {H : Hp} {E : XK} (a : Addr) (ns : List Int) (hl : ns.length ≤ 63) (hS : SqL K H a (ns.map V.int)) : sp_law K [.ref a] H (fun v _ => v = .bl true) E := ⟨a, ns, rfl, hS, hl, fun _ => rfl⟩
theorem all_mk {l : PySem.W.OpenLaw} {w : World} {K : PySem.W.Frag} {h : Heap} {mg : Str → Option Value} {fa : Addr} (X : K.In h) (G : h.Ns mainGlobals mg) (hfa : mg "law" = some (.ref fa))
    {f22 : Addr} {od22 an22 : Option Addr} {sl22 : Array (Option Value)} {oc22 kV22 dc22 pm22 cd22 ct22 : Value}
    (a22 : PySem.W.nsIn K mainGlobals "_law_box" = some (some (.ref f22))) (l22 : K.lookup f22 = some ⟨oc22, od22, .func (PySem.W.fnOf "_law_box" "_law_box" (defArgs s__law_box) (defBody s__law_box) (defScope s__law_box) .none kV22 dc22 pm22 an22 cd22 ct22), sl22⟩) (c22 : PySem.W.codeIn K cd22 "_law_box" = true) (k22 : PySem.W.keepIn K (.ref f22) = true)
    {f21 : Addr} {od21 an21 : Option Addr} {sl21 : Array (Option Value)} {oc21 kV21 dc21 pm21 cd21 ct21 : Value}
    (a21 : PySem.W.nsIn K mainGlobals "_law_cell" = some (some (.ref f21))) (l21 : K.lookup f21 = some ⟨oc21, od21, .func (PySem.W.fnOf "_law_cell" "_law_cell" (defArgs s__law_cell) (defBody s__law_cell) (defScope s__law_cell) .none kV21 dc21 pm21 an21 cd21 ct21), sl21⟩) (c21 : PySem.W.codeIn K cd21 "_law_cell" = true) (k21 : PySem.W.keepIn K (.ref f21) = true)
    {f23 : Addr} {od23 an23 : Option Addr} {sl23 : Array (Option Value)} {oc23 kV23 dc23 pm23 cd23 ct23 : Value}
    (a23 : PySem.W.nsIn K mainGlobals "_law_take" = some (some (.ref f23))) (l23 : K.lookup f23 = some ⟨oc23, od23, .func (PySem.W.fnOf "_law_take" "_law_take" (defArgs s__law_take) (defBody s__law_take) (defScope s__law_take) .none kV23 dc23 pm23 an23 cd23 ct23), sl23⟩) (c23 : PySem.W.codeIn K cd23 "_law_take" = true) (k23 : PySem.W.keepIn K (.ref f23) = true)
    {f24 : Addr} {od24 an24 : Option Addr} {sl24 : Array (Option Value)} {oc24 kV24 dc24 pm24 cd24 ct24 : Value}
    (a24 : PySem.W.nsIn K mainGlobals "_law_mixed" = some (some (.ref f24))) (l24 : K.lookup f24 = some ⟨oc24, od24, .func (PySem.W.fnOf "_law_mixed" "_law_mixed" (defArgs s__law_mixed) (defBody s__law_mixed) (defScope s__law_mixed) .none kV24 dc24 pm24 an24 cd24 ct24), sl24⟩) (c24 : PySem.W.codeIn K cd24 "_law_mixed" = true) (k24 : PySem.W.keepIn K (.ref f24) = true)
    {f25 : Addr} {od25 an25 : Option Addr} {sl25 : Array (Option Value)} {oc25 kV25 dc25 pm25 cd25 ct25 : Value}
    (a25 : PySem.W.nsIn K mainGlobals "_law_seat" = some (some (.ref f25))) (l25 : K.lookup f25 = some ⟨oc25, od25, .func (PySem.W.fnOf "_law_seat" "_law_seat" (defArgs s__law_seat) (defBody s__law_seat) (defScope s__law_seat) .none kV25 dc25 pm25 an25 cd25 ct25), sl25⟩) (c25 : PySem.W.codeIn K cd25 "_law_seat" = true) (k25 : PySem.W.keepIn K (.ref f25) = true)
    {f29 : Addr} {od29 an29 : Option Addr} {sl29 : Array (Option Value)} {oc29 kV29 dc29 pm29 cd29 ct29 : Value}
    (a29 : PySem.W.nsIn K mainGlobals "_law_row" = some (some (.ref f29))) (l29 : K.lookup f29 = some ⟨oc29, od29, .func (PySem.W.fnOf "_law_row" "_law_row" (defArgs s__law_row) (defBody s__law_row) (defScope s__law_row) .none kV29 dc29 pm29 an29 cd29 ct29), sl29⟩) (c29 : PySem.W.codeIn K cd29 "_law_row" = true) (k29 : PySem.W.keepIn K (.ref f29) = true)
    {f26 : Addr} {od26 an26 : Option Addr} {sl26 : Array (Option Value)} {oc26 kV26 dc26 pm26 cd26 ct26 : Value}
    (a26 : PySem.W.nsIn K mainGlobals "_law_holding" = some (some (.ref f26))) (l26 : K.lookup f26 = some ⟨oc26, od26, .func (PySem.W.fnOf "_law_holding" "_law_holding" (defArgs s__law_holding) (defBody s__law_holding) (defScope s__law_holding) .none kV26 dc26 pm26 an26 cd26 ct26), sl26⟩) (c26 : PySem.W.codeIn K cd26 "_law_holding" = true) (k26 : PySem.W.keepIn K (.ref f26) = true)
    {f27 : Addr} {od27 an27 : Option Addr} {sl27 : Array (Option Value)} {oc27 kV27 dc27 pm27 cd27 ct27 : Value}
    (a27 : PySem.W.nsIn K mainGlobals "_law_held_by" = some (some (.ref f27))) (l27 : K.lookup f27 = some ⟨oc27, od27, .func (PySem.W.fnOf "_law_held_by" "_law_held_by" (defArgs s__law_held_by) (defBody s__law_held_by) (defScope s__law_held_by) .none kV27 dc27 pm27 an27 cd27 ct27), sl27⟩) (c27 : PySem.W.codeIn K cd27 "_law_held_by" = true) (k27 : PySem.W.keepIn K (.ref f27) = true)
    {f28 : Addr} {od28 an28 : Option Addr} {sl28 : Array (Option Value)} {oc28 kV28 dc28 pm28 cd28 ct28 : Value}
    (a28 : PySem.W.nsIn K mainGlobals "_law_due" = some (some (.ref f28))) (l28 : K.lookup f28 = some ⟨oc28, od28, .func (PySem.W.fnOf "_law_due" "_law_due" (defArgs s__law_due) (defBody s__law_due) (defScope s__law_due) .none kV28 dc28 pm28 an28 cd28 ct28), sl28⟩) (c28 : PySem.W.codeIn K cd28 "_law_due" = true) (k28 : PySem.W.keepIn K (.ref f28) = true)
    {f10 : Addr} {od10 an10 : Option Addr} {sl10 : Array (Option Value)} {oc10 kV10 dc10 pm10 cd10 ct10 : Value}
    (a10 : PySem.W.nsIn K mainGlobals "is_signs" = some (some (.ref f10))) (l10 : K.lookup f10 = some ⟨oc10, od10, .func (PySem.W.fnOf "is_signs" "is_signs" (defArgs s_is_signs) (defBody s_is_signs) (defScope s_is_signs) .none kV10 dc10 pm10 an10 cd10 ct10), sl10⟩) (c10 : PySem.W.codeIn K cd10 "is_signs" = true) (k10 : PySem.W.keepIn K (.ref f10) = true)
    {f13 : Addr} {od13 an13 : Option Addr} {sl13 : Array (Option Value)} {oc13 kV13 dc13 pm13 cd13 ct13 : Value}
    (a13 : PySem.W.nsIn K mainGlobals "is_name" = some (some (.ref f13))) (l13 : K.lookup f13 = some ⟨oc13, od13, .func (PySem.W.fnOf "is_name" "is_name" (defArgs s_is_name) (defBody s_is_name) (defScope s_is_name) .none kV13 dc13 pm13 an13 cd13 ct13), sl13⟩) (c13 : PySem.W.codeIn K cd13 "is_name" = true) (k13 : PySem.W.keepIn K (.ref f13) = true)
    {f7 : Addr} {od7 an7 : Option Addr} {sl7 : Array (Option Value)} {oc7 kV7 dc7 pm7 cd7 ct7 : Value}
    (a7 : PySem.W.nsIn K mainGlobals "is_integer" = some (some (.ref f7))) (l7 : K.lookup f7 = some ⟨oc7, od7, .func (PySem.W.fnOf "is_integer" "is_integer" (defArgs s_is_integer) (defBody s_is_integer) (defScope s_is_integer) .none kV7 dc7 pm7 an7 cd7 ct7), sl7⟩) (c7 : PySem.W.codeIn K cd7 "is_integer" = true) (k7 : PySem.W.keepIn K (.ref f7) = true)
    {f8 : Addr} {od8 an8 : Option Addr} {sl8 : Array (Option Value)} {oc8 kV8 dc8 pm8 cd8 ct8 : Value}
    (a8 : PySem.W.nsIn K mainGlobals "is_within" = some (some (.ref f8))) (l8 : K.lookup f8 = some ⟨oc8, od8, .func (PySem.W.fnOf "is_within" "is_within" (defArgs s_is_within) (defBody s_is_within) (defScope s_is_within) .none kV8 dc8 pm8 an8 cd8 ct8), sl8⟩) (c8 : PySem.W.codeIn K cd8 "is_within" = true) (k8 : PySem.W.keepIn K (.ref f8) = true)
    {f16 : Addr} {od16 an16 : Option Addr} {sl16 : Array (Option Value)} {oc16 kV16 dc16 pm16 cd16 ct16 : Value}
    (a16 : PySem.W.nsIn K mainGlobals "is_number" = some (some (.ref f16))) (l16 : K.lookup f16 = some ⟨oc16, od16, .func (PySem.W.fnOf "is_number" "is_number" (defArgs s_is_number) (defBody s_is_number) (defScope s_is_number) .none kV16 dc16 pm16 an16 cd16 ct16), sl16⟩) (c16 : PySem.W.codeIn K cd16 "is_number" = true) (k16 : PySem.W.keepIn K (.ref f16) = true)
    {f17 : Addr} {od17 an17 : Option Addr} {sl17 : Array (Option Value)} {oc17 kV17 dc17 pm17 cd17 ct17 : Value}
    (a17 : PySem.W.nsIn K mainGlobals "is_token" = some (some (.ref f17))) (l17 : K.lookup f17 = some ⟨oc17, od17, .func (PySem.W.fnOf "is_token" "is_token" (defArgs s_is_token) (defBody s_is_token) (defScope s_is_token) .none kV17 dc17 pm17 an17 cd17 ct17), sl17⟩) (c17 : PySem.W.codeIn K cd17 "is_token" = true) (k17 : PySem.W.keepIn K (.ref f17) = true)
    {f9 : Addr} {od9 an9 : Option Addr} {sl9 : Array (Option Value)} {oc9 kV9 dc9 pm9 cd9 ct9 : Value}
    (a9 : PySem.W.nsIn K mainGlobals "is_count" = some (some (.ref f9))) (l9 : K.lookup f9 = some ⟨oc9, od9, .func (PySem.W.fnOf "is_count" "is_count" (defArgs s_is_count) (defBody s_is_count) (defScope s_is_count) .none kV9 dc9 pm9 an9 cd9 ct9), sl9⟩) (c9 : PySem.W.codeIn K cd9 "is_count" = true) (k9 : PySem.W.keepIn K (.ref f9) = true)
    {f30 : Addr} {od30 an30 : Option Addr} {sl30 : Array (Option Value)} {oc30 kV30 dc30 pm30 cd30 ct30 : Value}
    (a30 : PySem.W.nsIn K mainGlobals "_law_give" = some (some (.ref f30))) (l30 : K.lookup f30 = some ⟨oc30, od30, .func (PySem.W.fnOf "_law_give" "_law_give" (defArgs s__law_give) (defBody s__law_give) (defScope s__law_give) .none kV30 dc30 pm30 an30 cd30 ct30), sl30⟩) (c30 : PySem.W.codeIn K cd30 "_law_give" = true) (k30 : PySem.W.keepIn K (.ref f30) = true)
    {f31 : Addr} {od31 an31 : Option Addr} {sl31 : Array (Option Value)} {oc31 kV31 dc31 pm31 cd31 ct31 : Value}
    (a31 : PySem.W.nsIn K mainGlobals "_law_did" = some (some (.ref f31))) (l31 : K.lookup f31 = some ⟨oc31, od31, .func (PySem.W.fnOf "_law_did" "_law_did" (defArgs s__law_did) (defBody s__law_did) (defScope s__law_did) .none kV31 dc31 pm31 an31 cd31 ct31), sl31⟩) (c31 : PySem.W.codeIn K cd31 "_law_did" = true) (k31 : PySem.W.keepIn K (.ref f31) = true)
    {f32 : Addr} {od32 an32 : Option Addr} {sl32 : Array (Option Value)} {oc32 kV32 dc32 pm32 cd32 ct32 : Value}
    (a32 : PySem.W.nsIn K mainGlobals "_law_pair_right" = some (some (.ref f32))) (l32 : K.lookup f32 = some ⟨oc32, od32, .func (PySem.W.fnOf "_law_pair_right" "_law_pair_right" (defArgs s__law_pair_right) (defBody s__law_pair_right) (defScope s__law_pair_right) .none kV32 dc32 pm32 an32 cd32 ct32), sl32⟩) (c32 : PySem.W.codeIn K cd32 "_law_pair_right" = true) (k32 : PySem.W.keepIn K (.ref f32) = true)
    {f33 : Addr} {od33 an33 : Option Addr} {sl33 : Array (Option Value)} {oc33 kV33 dc33 pm33 cd33 ct33 : Value}
    (a33 : PySem.W.nsIn K mainGlobals "_law_told_right" = some (some (.ref f33))) (l33 : K.lookup f33 = some ⟨oc33, od33, .func (PySem.W.fnOf "_law_told_right" "_law_told_right" (defArgs s__law_told_right) (defBody s__law_told_right) (defScope s__law_told_right) .none kV33 dc33 pm33 an33 cd33 ct33), sl33⟩) (c33 : PySem.W.codeIn K cd33 "_law_told_right" = true) (k33 : PySem.W.keepIn K (.ref f33) = true)
    {f34 : Addr} {od34 an34 : Option Addr} {sl34 : Array (Option Value)} {oc34 kV34 dc34 pm34 cd34 ct34 : Value}
    (a34 : PySem.W.nsIn K mainGlobals "_law_all_right" = some (some (.ref f34))) (l34 : K.lookup f34 = some ⟨oc34, od34, .func (PySem.W.fnOf "_law_all_right" "_law_all_right" (defArgs s__law_all_right) (defBody s__law_all_right) (defScope s__law_all_right) .none kV34 dc34 pm34 an34 cd34 ct34), sl34⟩) (c34 : PySem.W.codeIn K cd34 "_law_all_right" = true) (k34 : PySem.W.keepIn K (.ref f34) = true)
    {f35 : Addr} {od35 an35 : Option Addr} {sl35 : Array (Option Value)} {oc35 kV35 dc35 pm35 cd35 ct35 : Value}
    (a35 : PySem.W.nsIn K mainGlobals "law" = some (some (.ref f35))) (l35 : K.lookup f35 = some ⟨oc35, od35, .func (PySem.W.fnOf "law" "law" (defArgs s_law) (defBody s_law) (defScope s_law) .none kV35 dc35 pm35 an35 cd35 ct35), sl35⟩) (c35 : PySem.W.codeIn K cd35 "law" = true) (k35 : PySem.W.keepIn K (.ref f35) = true)
    (zhn : PySem.W.specialIn K (.builtin "object.__class__") "__get__" = some (some (.builtin "getset_descriptor.__get__"))) (zht : PySem.W.takesIn K (.builtin "object.__class__") = some true)
    {e_InvalidName : Addr} (ga_InvalidName : PySem.W.nsIn K mainGlobals "InvalidName" = some (some (.ref e_InvalidName)))
    {e_InvalidNumber : Addr} (ga_InvalidNumber : PySem.W.nsIn K mainGlobals "InvalidNumber" = some (some (.ref e_InvalidNumber)))
    {e_InvalidCount : Addr} (ga_InvalidCount : PySem.W.nsIn K mainGlobals "InvalidCount" = some (some (.ref e_InvalidCount)))
    {e_Held : Addr} (ga_Held : PySem.W.nsIn K mainGlobals "Held" = some (some (.ref e_Held)))
    {e_QueueError : Addr} (ga_QueueError : PySem.W.nsIn K mainGlobals "QueueError" = some (some (.ref e_QueueError)))
    {e_Leases : Addr} (ga_Leases : PySem.W.nsIn K mainGlobals "Leases" = some (some (.ref e_Leases)))
    (qa_QueueError : PySem.W.specialIn K (.ref e_QueueError) "__getattribute__" = some (some (.builtin "type.__getattribute__"))) (qb_QueueError : PySem.W.readsIn K e_QueueError (.type "type") = true) (qc_QueueError : PySem.W.findCls K (.ref e_QueueError) (.type "type") "__init__" = some (.val (.builtin "Exception.__init__")))
    {nm_InvalidName q_InvalidName : Str} {N_InvalidName : Addr} {bs_InvalidName sub_InvalidName : List Value} {sn_InvalidName : List Str} {ab_InvalidName : Bool} {col_InvalidName : Option Bool} {dd_InvalidName : Option Addr} {k0_InvalidName k1_InvalidName k2_InvalidName k3_InvalidName k5_InvalidName : Option Value} (cl_InvalidName : K.lookup e_InvalidName = some (excClassObj nm_InvalidName q_InvalidName e_InvalidName N_InvalidName bs_InvalidName (.ref e_QueueError :: tailE) true sn_InvalidName sub_InvalidName ab_InvalidName col_InvalidName dd_InvalidName k0_InvalidName k1_InvalidName k2_InvalidName k3_InvalidName k5_InvalidName "Exception.__new__"))
    (sa_InvalidName : PySem.W.findIn K (.ref e_InvalidName) "__setattr__" = some (some (.builtin "object.__setattr__"))) (ex_InvalidName : PySem.W.subIn K (.ref e_InvalidName) (.type "BaseException") = some true) (ty_InvalidName : PySem.W.typeIn K (.ref e_InvalidName) = some (.type "type")) (kc_InvalidName : PySem.W.keepIn K (.ref e_InvalidName) = true)
    (xa_InvalidName : PySem.W.findIn K (.ref e_InvalidName) "__getattribute__" = some (some (.builtin "BaseException.__getattribute__"))) (xb_InvalidName : PySem.W.findIn K (.ref e_InvalidName) "__getattr__" = some none) (xd_InvalidName : PySem.W.hasDictIn K e_InvalidName = true) (xe_InvalidName : PySem.W.findIn K (.ref e_InvalidName) "__class__" = some (some (.builtin "object.__class__"))) (xm_InvalidName : PySem.W.mroIn K e_InvalidName (.type "object") = some true) (no_InvalidName : PySem.W.findIn K (.ref e_InvalidName) "given" = some none)
    {fI_InvalidName : Addr} {od_InvalidName an_InvalidName : Option Addr} {sl_InvalidName : Array (Option Value)} {oc_InvalidName kV_InvalidName dc_InvalidName pm_InvalidName cd_InvalidName ct_InvalidName : Value} (ia_InvalidName : PySem.W.findIn K (.ref e_InvalidName) "__init__" = some (some (.ref fI_InvalidName))) (it_InvalidName : PySem.W.typeIn K (.ref fI_InvalidName) = some (.type "function"))
    (il_InvalidName : K.lookup fI_InvalidName = some ⟨oc_InvalidName, od_InvalidName, .func (PySem.W.fnOf "__init__" "InvalidName.__init__" (defArgs si_InvalidName) (defBody si_InvalidName) (defScope si_InvalidName) .none kV_InvalidName dc_InvalidName pm_InvalidName an_InvalidName cd_InvalidName ct_InvalidName), sl_InvalidName⟩) (ic_InvalidName : PySem.W.codeIn K cd_InvalidName "InvalidName.__init__" = true) (ik_InvalidName : PySem.W.keepIn K (.ref fI_InvalidName) = true)
    (sx_InvalidName_Held : PySem.W.subIn K (.ref e_InvalidName) (.ref e_Held) = some false)
    {nm_InvalidNumber q_InvalidNumber : Str} {N_InvalidNumber : Addr} {bs_InvalidNumber sub_InvalidNumber : List Value} {sn_InvalidNumber : List Str} {ab_InvalidNumber : Bool} {col_InvalidNumber : Option Bool} {dd_InvalidNumber : Option Addr} {k0_InvalidNumber k1_InvalidNumber k2_InvalidNumber k3_InvalidNumber k5_InvalidNumber : Option Value} (cl_InvalidNumber : K.lookup e_InvalidNumber = some (excClassObj nm_InvalidNumber q_InvalidNumber e_InvalidNumber N_InvalidNumber bs_InvalidNumber (.ref e_QueueError :: tailE) true sn_InvalidNumber sub_InvalidNumber ab_InvalidNumber col_InvalidNumber dd_InvalidNumber k0_InvalidNumber k1_InvalidNumber k2_InvalidNumber k3_InvalidNumber k5_InvalidNumber "Exception.__new__"))
    (sa_InvalidNumber : PySem.W.findIn K (.ref e_InvalidNumber) "__setattr__" = some (some (.builtin "object.__setattr__"))) (ex_InvalidNumber : PySem.W.subIn K (.ref e_InvalidNumber) (.type "BaseException") = some true) (ty_InvalidNumber : PySem.W.typeIn K (.ref e_InvalidNumber) = some (.type "type")) (kc_InvalidNumber : PySem.W.keepIn K (.ref e_InvalidNumber) = true)
    (xa_InvalidNumber : PySem.W.findIn K (.ref e_InvalidNumber) "__getattribute__" = some (some (.builtin "BaseException.__getattribute__"))) (xb_InvalidNumber : PySem.W.findIn K (.ref e_InvalidNumber) "__getattr__" = some none) (xd_InvalidNumber : PySem.W.hasDictIn K e_InvalidNumber = true) (xe_InvalidNumber : PySem.W.findIn K (.ref e_InvalidNumber) "__class__" = some (some (.builtin "object.__class__"))) (xm_InvalidNumber : PySem.W.mroIn K e_InvalidNumber (.type "object") = some true) (no_InvalidNumber : PySem.W.findIn K (.ref e_InvalidNumber) "given" = some none)
    {fI_InvalidNumber : Addr} {od_InvalidNumber an_InvalidNumber : Option Addr} {sl_InvalidNumber : Array (Option Value)} {oc_InvalidNumber kV_InvalidNumber dc_InvalidNumber pm_InvalidNumber cd_InvalidNumber ct_InvalidNumber : Value} (ia_InvalidNumber : PySem.W.findIn K (.ref e_InvalidNumber) "__init__" = some (some (.ref fI_InvalidNumber))) (it_InvalidNumber : PySem.W.typeIn K (.ref fI_InvalidNumber) = some (.type "function"))
    (il_InvalidNumber : K.lookup fI_InvalidNumber = some ⟨oc_InvalidNumber, od_InvalidNumber, .func (PySem.W.fnOf "__init__" "InvalidNumber.__init__" (defArgs si_InvalidNumber) (defBody si_InvalidNumber) (defScope si_InvalidNumber) .none kV_InvalidNumber dc_InvalidNumber pm_InvalidNumber an_InvalidNumber cd_InvalidNumber ct_InvalidNumber), sl_InvalidNumber⟩) (ic_InvalidNumber : PySem.W.codeIn K cd_InvalidNumber "InvalidNumber.__init__" = true) (ik_InvalidNumber : PySem.W.keepIn K (.ref fI_InvalidNumber) = true)
    (sx_InvalidNumber_Held : PySem.W.subIn K (.ref e_InvalidNumber) (.ref e_Held) = some false)
    {nm_InvalidCount q_InvalidCount : Str} {N_InvalidCount : Addr} {bs_InvalidCount sub_InvalidCount : List Value} {sn_InvalidCount : List Str} {ab_InvalidCount : Bool} {col_InvalidCount : Option Bool} {dd_InvalidCount : Option Addr} {k0_InvalidCount k1_InvalidCount k2_InvalidCount k3_InvalidCount k5_InvalidCount : Option Value} (cl_InvalidCount : K.lookup e_InvalidCount = some (excClassObj nm_InvalidCount q_InvalidCount e_InvalidCount N_InvalidCount bs_InvalidCount (.ref e_QueueError :: tailE) true sn_InvalidCount sub_InvalidCount ab_InvalidCount col_InvalidCount dd_InvalidCount k0_InvalidCount k1_InvalidCount k2_InvalidCount k3_InvalidCount k5_InvalidCount "Exception.__new__"))
    (sa_InvalidCount : PySem.W.findIn K (.ref e_InvalidCount) "__setattr__" = some (some (.builtin "object.__setattr__"))) (ex_InvalidCount : PySem.W.subIn K (.ref e_InvalidCount) (.type "BaseException") = some true) (ty_InvalidCount : PySem.W.typeIn K (.ref e_InvalidCount) = some (.type "type")) (kc_InvalidCount : PySem.W.keepIn K (.ref e_InvalidCount) = true)
    (xa_InvalidCount : PySem.W.findIn K (.ref e_InvalidCount) "__getattribute__" = some (some (.builtin "BaseException.__getattribute__"))) (xb_InvalidCount : PySem.W.findIn K (.ref e_InvalidCount) "__getattr__" = some none) (xd_InvalidCount : PySem.W.hasDictIn K e_InvalidCount = true) (xe_InvalidCount : PySem.W.findIn K (.ref e_InvalidCount) "__class__" = some (some (.builtin "object.__class__"))) (xm_InvalidCount : PySem.W.mroIn K e_InvalidCount (.type "object") = some true) (no_InvalidCount : PySem.W.findIn K (.ref e_InvalidCount) "given" = some none)
    {fI_InvalidCount : Addr} {od_InvalidCount an_InvalidCount : Option Addr} {sl_InvalidCount : Array (Option Value)} {oc_InvalidCount kV_InvalidCount dc_InvalidCount pm_InvalidCount cd_InvalidCount ct_InvalidCount : Value} (ia_InvalidCount : PySem.W.findIn K (.ref e_InvalidCount) "__init__" = some (some (.ref fI_InvalidCount))) (it_InvalidCount : PySem.W.typeIn K (.ref fI_InvalidCount) = some (.type "function"))
    (il_InvalidCount : K.lookup fI_InvalidCount = some ⟨oc_InvalidCount, od_InvalidCount, .func (PySem.W.fnOf "__init__" "InvalidCount.__init__" (defArgs si_InvalidCount) (defBody si_InvalidCount) (defScope si_InvalidCount) .none kV_InvalidCount dc_InvalidCount pm_InvalidCount an_InvalidCount cd_InvalidCount ct_InvalidCount), sl_InvalidCount⟩) (ic_InvalidCount : PySem.W.codeIn K cd_InvalidCount "InvalidCount.__init__" = true) (ik_InvalidCount : PySem.W.keepIn K (.ref fI_InvalidCount) = true)
    (sx_InvalidCount_Held : PySem.W.subIn K (.ref e_InvalidCount) (.ref e_Held) = some false)
    {nm_Held q_Held : Str} {N_Held : Addr} {bs_Held sub_Held : List Value} {sn_Held : List Str} {ab_Held : Bool} {col_Held : Option Bool} {dd_Held : Option Addr} {k0_Held k1_Held k2_Held k3_Held k5_Held : Option Value} (cl_Held : K.lookup e_Held = some (excClassObj nm_Held q_Held e_Held N_Held bs_Held (.ref e_QueueError :: tailE) true sn_Held sub_Held ab_Held col_Held dd_Held k0_Held k1_Held k2_Held k3_Held k5_Held "Exception.__new__"))
    (sa_Held : PySem.W.findIn K (.ref e_Held) "__setattr__" = some (some (.builtin "object.__setattr__"))) (ex_Held : PySem.W.subIn K (.ref e_Held) (.type "BaseException") = some true) (ty_Held : PySem.W.typeIn K (.ref e_Held) = some (.type "type")) (kc_Held : PySem.W.keepIn K (.ref e_Held) = true)
    (xa_Held : PySem.W.findIn K (.ref e_Held) "__getattribute__" = some (some (.builtin "BaseException.__getattribute__"))) (xb_Held : PySem.W.findIn K (.ref e_Held) "__getattr__" = some none) (xd_Held : PySem.W.hasDictIn K e_Held = true) (xe_Held : PySem.W.findIn K (.ref e_Held) "__class__" = some (some (.builtin "object.__class__"))) (xm_Held : PySem.W.mroIn K e_Held (.type "object") = some true) (no_Held : PySem.W.findIn K (.ref e_Held) "group" = some none)
    {fI_Held : Addr} {od_Held an_Held : Option Addr} {sl_Held : Array (Option Value)} {oc_Held kV_Held dc_Held pm_Held cd_Held ct_Held : Value} (ia_Held : PySem.W.findIn K (.ref e_Held) "__init__" = some (some (.ref fI_Held))) (it_Held : PySem.W.typeIn K (.ref fI_Held) = some (.type "function"))
    (il_Held : K.lookup fI_Held = some ⟨oc_Held, od_Held, .func (PySem.W.fnOf "__init__" "Held.__init__" (defArgs si_Held) (defBody si_Held) (defScope si_Held) .none kV_Held dc_Held pm_Held an_Held cd_Held ct_Held), sl_Held⟩) (ic_Held : PySem.W.codeIn K cd_Held "Held.__init__" = true) (ik_Held : PySem.W.keepIn K (.ref fI_Held) = true)
    (nt_Held : PySem.W.findIn K (.ref e_Held) "number" = some none)
    (sx_Held_Held : PySem.W.subIn K (.ref e_Held) (.ref e_Held) = some true)
    (kg_Leases : PySem.W.plainGet K e_Leases Str.empty = true) (kd_Leases : PySem.W.hasDictIn K e_Leases = true) (kp_Leases : PySem.W.plainOver K e_Leases = true) (ks_Leases : PySem.W.findIn K (.ref e_Leases) "__setattr__" = some (some (.builtin "object.__setattr__")))
    (kf_Leases__rows : PySem.W.findIn K (.ref e_Leases) "_rows" = some none)
    (km_Leases : PySem.W.makesIn K e_Leases = true) (kk_Leases : PySem.W.keepIn K (.ref e_Leases) = true)
    {f_Leases___init__ : Addr} {od_Leases___init__ an_Leases___init__ : Option Addr} {sl_Leases___init__ : Array (Option Value)} {oc_Leases___init__ kV_Leases___init__ dc_Leases___init__ pm_Leases___init__ cd_Leases___init__ ct_Leases___init__ : Value}
    (ma_Leases___init__ : PySem.W.findIn K (.ref e_Leases) "__init__" = some (some (.ref f_Leases___init__))) (mf_Leases___init__ : PySem.W.isFn K (.ref f_Leases___init__) = true) (ml_Leases___init__ : K.lookup f_Leases___init__ = some ⟨oc_Leases___init__, od_Leases___init__, .func (PySem.W.fnOf "__init__" "Leases.__init__" (defArgs s_Leases___init__) (defBody s_Leases___init__) (defScope s_Leases___init__) .none kV_Leases___init__ dc_Leases___init__ pm_Leases___init__ an_Leases___init__ cd_Leases___init__ ct_Leases___init__), sl_Leases___init__⟩) (mc_Leases___init__ : PySem.W.codeIn K cd_Leases___init__ "Leases.__init__" = true) (mk_Leases___init__ : PySem.W.keepIn K (.ref f_Leases___init__) = true)
    {f_Leases_of : Addr} {od_Leases_of an_Leases_of : Option Addr} {sl_Leases_of : Array (Option Value)} {oc_Leases_of kV_Leases_of dc_Leases_of pm_Leases_of cd_Leases_of ct_Leases_of : Value}
    (ma_Leases_of : PySem.W.findIn K (.ref e_Leases) "of" = some (some (.ref f_Leases_of))) (mf_Leases_of : PySem.W.isFn K (.ref f_Leases_of) = true) (ml_Leases_of : K.lookup f_Leases_of = some ⟨oc_Leases_of, od_Leases_of, .func (PySem.W.fnOf "of" "Leases.of" (defArgs s_Leases_of) (defBody s_Leases_of) (defScope s_Leases_of) .none kV_Leases_of dc_Leases_of pm_Leases_of an_Leases_of cd_Leases_of ct_Leases_of), sl_Leases_of⟩) (mc_Leases_of : PySem.W.codeIn K cd_Leases_of "Leases.of" = true) (mk_Leases_of : PySem.W.keepIn K (.ref f_Leases_of) = true)
    {f_Leases_give : Addr} {od_Leases_give an_Leases_give : Option Addr} {sl_Leases_give : Array (Option Value)} {oc_Leases_give kV_Leases_give dc_Leases_give pm_Leases_give cd_Leases_give ct_Leases_give : Value}
    (ma_Leases_give : PySem.W.findIn K (.ref e_Leases) "give" = some (some (.ref f_Leases_give))) (mf_Leases_give : PySem.W.isFn K (.ref f_Leases_give) = true) (ml_Leases_give : K.lookup f_Leases_give = some ⟨oc_Leases_give, od_Leases_give, .func (PySem.W.fnOf "give" "Leases.give" (defArgs s_Leases_give) (defBody s_Leases_give) (defScope s_Leases_give) .none kV_Leases_give dc_Leases_give pm_Leases_give an_Leases_give cd_Leases_give ct_Leases_give), sl_Leases_give⟩) (mc_Leases_give : PySem.W.codeIn K cd_Leases_give "Leases.give" = true) (mk_Leases_give : PySem.W.keepIn K (.ref f_Leases_give) = true)
    {f_Leases_holder : Addr} {od_Leases_holder an_Leases_holder : Option Addr} {sl_Leases_holder : Array (Option Value)} {oc_Leases_holder kV_Leases_holder dc_Leases_holder pm_Leases_holder cd_Leases_holder ct_Leases_holder : Value}
    (ma_Leases_holder : PySem.W.findIn K (.ref e_Leases) "holder" = some (some (.ref f_Leases_holder))) (mf_Leases_holder : PySem.W.isFn K (.ref f_Leases_holder) = true) (ml_Leases_holder : K.lookup f_Leases_holder = some ⟨oc_Leases_holder, od_Leases_holder, .func (PySem.W.fnOf "holder" "Leases.holder" (defArgs s_Leases_holder) (defBody s_Leases_holder) (defScope s_Leases_holder) .none kV_Leases_holder dc_Leases_holder pm_Leases_holder an_Leases_holder cd_Leases_holder ct_Leases_holder), sl_Leases_holder⟩) (mc_Leases_holder : PySem.W.codeIn K cd_Leases_holder "Leases.holder" = true) (mk_Leases_holder : PySem.W.keepIn K (.ref f_Leases_holder) = true)
    {f_Leases_drop : Addr} {od_Leases_drop an_Leases_drop : Option Addr} {sl_Leases_drop : Array (Option Value)} {oc_Leases_drop kV_Leases_drop dc_Leases_drop pm_Leases_drop cd_Leases_drop ct_Leases_drop : Value}
    (ma_Leases_drop : PySem.W.findIn K (.ref e_Leases) "drop" = some (some (.ref f_Leases_drop))) (mf_Leases_drop : PySem.W.isFn K (.ref f_Leases_drop) = true) (ml_Leases_drop : K.lookup f_Leases_drop = some ⟨oc_Leases_drop, od_Leases_drop, .func (PySem.W.fnOf "drop" "Leases.drop" (defArgs s_Leases_drop) (defBody s_Leases_drop) (defScope s_Leases_drop) .none kV_Leases_drop dc_Leases_drop pm_Leases_drop an_Leases_drop cd_Leases_drop ct_Leases_drop), sl_Leases_drop⟩) (mc_Leases_drop : PySem.W.codeIn K cd_Leases_drop "Leases.drop" = true) (mk_Leases_drop : PySem.W.keepIn K (.ref f_Leases_drop) = true)
    {f_Leases_listed : Addr} {od_Leases_listed an_Leases_listed : Option Addr} {sl_Leases_listed : Array (Option Value)} {oc_Leases_listed kV_Leases_listed dc_Leases_listed pm_Leases_listed cd_Leases_listed ct_Leases_listed : Value}
    (ma_Leases_listed : PySem.W.findIn K (.ref e_Leases) "listed" = some (some (.ref f_Leases_listed))) (mf_Leases_listed : PySem.W.isFn K (.ref f_Leases_listed) = true) (ml_Leases_listed : K.lookup f_Leases_listed = some ⟨oc_Leases_listed, od_Leases_listed, .func (PySem.W.fnOf "listed" "Leases.listed" (defArgs s_Leases_listed) (defBody s_Leases_listed) (defScope s_Leases_listed) .none kV_Leases_listed dc_Leases_listed pm_Leases_listed an_Leases_listed cd_Leases_listed ct_Leases_listed), sl_Leases_listed⟩) (mc_Leases_listed : PySem.W.codeIn K cd_Leases_listed "Leases.listed" = true) (mk_Leases_listed : PySem.W.keepIn K (.ref f_Leases_listed) = true)
    {f_Leases_held : Addr} {od_Leases_held an_Leases_held : Option Addr} {sl_Leases_held : Array (Option Value)} {oc_Leases_held kV_Leases_held dc_Leases_held pm_Leases_held cd_Leases_held ct_Leases_held : Value}
    (ma_Leases_held : PySem.W.findIn K (.ref e_Leases) "held" = some (some (.ref f_Leases_held))) (mf_Leases_held : PySem.W.isFn K (.ref f_Leases_held) = true) (ml_Leases_held : K.lookup f_Leases_held = some ⟨oc_Leases_held, od_Leases_held, .func (PySem.W.fnOf "held" "Leases.held" (defArgs s_Leases_held) (defBody s_Leases_held) (defScope s_Leases_held) .none kV_Leases_held dc_Leases_held pm_Leases_held an_Leases_held cd_Leases_held ct_Leases_held), sl_Leases_held⟩) (mc_Leases_held : PySem.W.codeIn K cd_Leases_held "Leases.held" = true) (mk_Leases_held : PySem.W.keepIn K (.ref f_Leases_held) = true)
    {f_Leases_ended : Addr} {od_Leases_ended an_Leases_ended : Option Addr} {sl_Leases_ended : Array (Option Value)} {oc_Leases_ended kV_Leases_ended dc_Leases_ended pm_Leases_ended cd_Leases_ended ct_Leases_ended : Value}
    (ma_Leases_ended : PySem.W.findIn K (.ref e_Leases) "ended" = some (some (.ref f_Leases_ended))) (mf_Leases_ended : PySem.W.isFn K (.ref f_Leases_ended) = true) (ml_Leases_ended : K.lookup f_Leases_ended = some ⟨oc_Leases_ended, od_Leases_ended, .func (PySem.W.fnOf "ended" "Leases.ended" (defArgs s_Leases_ended) (defBody s_Leases_ended) (defScope s_Leases_ended) .none kV_Leases_ended dc_Leases_ended pm_Leases_ended an_Leases_ended cd_Leases_ended ct_Leases_ended), sl_Leases_ended⟩) (mc_Leases_ended : PySem.W.codeIn K cd_Leases_ended "Leases.ended" = true) (mk_Leases_ended : PySem.W.keepIn K (.ref f_Leases_ended) = true)
    (z_int : PySem.W.nsIn K mainGlobals "int" = some none)
    (z_abs : PySem.W.nsIn K mainGlobals "abs" = some none)
    (z_len : PySem.W.nsIn K mainGlobals "len" = some none)
    (z_sum : PySem.W.nsIn K mainGlobals "sum" = some none)
    (z_list : PySem.W.nsIn K mainGlobals "list" = some none)
    (z_isinstance : PySem.W.nsIn K mainGlobals "isinstance" = some none)
    (z_str : PySem.W.nsIn K mainGlobals "str" = some none)
    (z_bool : PySem.W.nsIn K mainGlobals "bool" = some none)
    (z_tuple : PySem.W.nsIn K mainGlobals "tuple" = some none)
    (z_sorted : PySem.W.nsIn K mainGlobals "sorted" = some none)
    (z_range : PySem.W.nsIn K mainGlobals "range" = some none)
    (z_max : PySem.W.nsIn K mainGlobals "max" = some none)
    (z_min : PySem.W.nsIn K mainGlobals "min" = some none)
    (z_repr : PySem.W.nsIn K mainGlobals "repr" = some none)
    {t_MOST_NAME : Tok} (v_MOST_NAME : PySem.W.nsIn K mainGlobals "MOST_NAME" = some (some (.int (8) t_MOST_NAME)))
    {t_MOST_NUMBER : Tok} (v_MOST_NUMBER : PySem.W.nsIn K mainGlobals "MOST_NUMBER" = some (some (.int (999999999999) t_MOST_NUMBER)))
    : ∃ fd : FuncData, (∀ (s : Shared) (v : Value), BindsTo s fd ⟨[v], []⟩ [("_law_script", v)]) ∧ ∀ base : Heap, K.In base → base.Ns mainGlobals mg → FnG l.prog w K mg base CX0 8 fa fd ["_law_script"] (sp_law K) := by
  have hl : PySem.W.nsIn K mainGlobals "law" = some (some (.ref f35)) := a35
  have e := hfa.symm.trans (PySem.W.mg_of X G a35)
  cases e
  have T : Txt K mg e_InvalidName e_InvalidNumber e_InvalidCount e_Held e_QueueError e_Leases := ⟨PySem.W.mg_of X G ga_InvalidName, ga_InvalidName, PySem.W.mg_of X G ga_InvalidNumber, ga_InvalidNumber, PySem.W.mg_of X G ga_InvalidCount, ga_InvalidCount, PySem.W.mg_of X G ga_Held, ga_Held, PySem.W.mg_of X G ga_QueueError, ga_QueueError, PySem.W.mg_of X G ga_Leases, ga_Leases, ⟨⟨xa_InvalidName, xb_InvalidName, ex_InvalidName, xd_InvalidName⟩, ty_InvalidName, xe_InvalidName, zhn, zht, xm_InvalidName⟩, no_InvalidName, sx_InvalidName_Held, ⟨⟨xa_InvalidNumber, xb_InvalidNumber, ex_InvalidNumber, xd_InvalidNumber⟩, ty_InvalidNumber, xe_InvalidNumber, zhn, zht, xm_InvalidNumber⟩, no_InvalidNumber, sx_InvalidNumber_Held, ⟨⟨xa_InvalidCount, xb_InvalidCount, ex_InvalidCount, xd_InvalidCount⟩, ty_InvalidCount, xe_InvalidCount, zhn, zht, xm_InvalidCount⟩, no_InvalidCount, sx_InvalidCount_Held, ⟨⟨xa_Held, xb_Held, ex_Held, xd_Held⟩, ty_Held, xe_Held, zhn, zht, xm_Held⟩, no_Held, nt_Held, sx_Held_Held, ⟨.type "type", qa_QueueError, qb_QueueError, qc_QueueError⟩, ⟨kg_Leases, kd_Leases, kp_Leases, ks_Leases⟩, kf_Leases__rows, PySem.W.mg_none_of X G z_int, PySem.W.mg_none_of X G z_abs, PySem.W.mg_none_of X G z_len, PySem.W.mg_none_of X G z_sum, PySem.W.mg_none_of X G z_list, PySem.W.mg_none_of X G z_isinstance, PySem.W.mg_none_of X G z_str, PySem.W.mg_none_of X G z_bool, PySem.W.mg_none_of X G z_tuple, PySem.W.mg_none_of X G z_sorted, PySem.W.mg_none_of X G z_range, PySem.W.mg_none_of X G z_max, PySem.W.mg_none_of X G z_min, PySem.W.mg_none_of X G z_repr, ⟨_, PySem.W.mg_of X G v_MOST_NAME, ⟨_, rfl⟩⟩, ⟨_, PySem.W.mg_of X G v_MOST_NUMBER, ⟨_, rfl⟩⟩⟩
  have D__law_box : Df K mg "_law_box" s__law_box ["_law_great"] := df_mk X G a22 l22 c22 k22 fun _ _ _ _ _ _ us hl => match us, hl with | [_], _ => rfl
  have D__law_cell : Df K mg "_law_cell" s__law_cell ["_law_script", "_law_k"] := df_mk X G a21 l21 c21 k21 fun _ _ _ _ _ _ us hl => match us, hl with | [_, _], _ => rfl
  have D__law_take : Df K mg "_law_take" s__law_take ["_law_box_here", "_law_many"] := df_mk X G a23 l23 c23 k23 fun _ _ _ _ _ _ us hl => match us, hl with | [_, _], _ => rfl
  have D__law_mixed : Df K mg "_law_mixed" s__law_mixed ["_law_box_here", "_law_items"] := df_mk X G a24 l24 c24 k24 fun _ _ _ _ _ _ us hl => match us, hl with | [_, _], _ => rfl
  have D__law_seat : Df K mg "_law_seat" s__law_seat ["_law_box_here"] := df_mk X G a25 l25 c25 k25 fun _ _ _ _ _ _ us hl => match us, hl with | [_], _ => rfl
  have D__law_row : Df K mg "_law_row" s__law_row ["_law_box_here", "_law_seat_here"] := df_mk X G a29 l29 c29 k29 fun _ _ _ _ _ _ us hl => match us, hl with | [_, _], _ => rfl
  have D__law_holding : Df K mg "_law_holding" s__law_holding ["_law_rows", "_law_club", "_law_no"] := df_mk X G a26 l26 c26 k26 fun _ _ _ _ _ _ us hl => match us, hl with | [_, _, _], _ => rfl
  have D__law_held_by : Df K mg "_law_held_by" s__law_held_by ["_law_rows", "_law_who", "_law_club"] := df_mk X G a27 l27 c27 k27 fun _ _ _ _ _ _ us hl => match us, hl with | [_, _, _], _ => rfl
  have D__law_due : Df K mg "_law_due" s__law_due ["_law_rows", "_law_row_here"] := df_mk X G a28 l28 c28 k28 fun _ _ _ _ _ _ us hl => match us, hl with | [_, _], _ => rfl
  have D_is_signs : Df K mg "is_signs" s_is_signs ["value"] := df_mk X G a10 l10 c10 k10 fun _ _ _ _ _ _ us hl => match us, hl with | [_], _ => rfl
  have D_is_name : Df K mg "is_name" s_is_name ["value"] := df_mk X G a13 l13 c13 k13 fun _ _ _ _ _ _ us hl => match us, hl with | [_], _ => rfl
  have D_is_integer : Df K mg "is_integer" s_is_integer ["value"] := df_mk X G a7 l7 c7 k7 fun _ _ _ _ _ _ us hl => match us, hl with | [_], _ => rfl
  have D_is_within : Df K mg "is_within" s_is_within ["value", "least", "most"] := df_mk X G a8 l8 c8 k8 fun _ _ _ _ _ _ us hl => match us, hl with | [_, _, _], _ => rfl
  have D_is_number : Df K mg "is_number" s_is_number ["value"] := df_mk X G a16 l16 c16 k16 fun _ _ _ _ _ _ us hl => match us, hl with | [_], _ => rfl
  have D_is_token : Df K mg "is_token" s_is_token ["value"] := df_mk X G a17 l17 c17 k17 fun _ _ _ _ _ _ us hl => match us, hl with | [_], _ => rfl
  have D_is_count : Df K mg "is_count" s_is_count ["value"] := df_mk X G a9 l9 c9 k9 fun _ _ _ _ _ _ us hl => match us, hl with | [_], _ => rfl
  have D_Leases_of : Dm K e_Leases "of" "Leases.of" s_Leases_of ["self", "member", "group"] := ⟨f_Leases_of, _, fun_mk ml_Leases_of mc_Leases_of mk_Leases_of, ⟨kg_Leases, kd_Leases, kp_Leases, ks_Leases⟩, ⟨ma_Leases_of, mf_Leases_of, mk_Leases_of⟩, (fun_mk ml_Leases_of mc_Leases_of mk_Leases_of).binds fun _ _ _ _ _ _ us hl => match us, hl with | [_, _, _], _ => rfl⟩
  have D_Leases_give : Dm K e_Leases "give" "Leases.give" s_Leases_give ["self", "member", "group", "number", "token", "end"] := ⟨f_Leases_give, _, fun_mk ml_Leases_give mc_Leases_give mk_Leases_give, ⟨kg_Leases, kd_Leases, kp_Leases, ks_Leases⟩, ⟨ma_Leases_give, mf_Leases_give, mk_Leases_give⟩, (fun_mk ml_Leases_give mc_Leases_give mk_Leases_give).binds fun _ _ _ _ _ _ us hl => match us, hl with | [_, _, _, _, _, _], _ => rfl⟩
  have D__law_give : Df K mg "_law_give" s__law_give ["_law_leases", "_law_row_here", "_law_by_names"] := df_mk X G a30 l30 c30 k30 fun _ _ _ _ _ _ us hl => match us, hl with | [_, _, _], _ => rfl
  have D_Leases_holder : Dm K e_Leases "holder" "Leases.holder" s_Leases_holder ["self", "group", "number"] := ⟨f_Leases_holder, _, fun_mk ml_Leases_holder mc_Leases_holder mk_Leases_holder, ⟨kg_Leases, kd_Leases, kp_Leases, ks_Leases⟩, ⟨ma_Leases_holder, mf_Leases_holder, mk_Leases_holder⟩, (fun_mk ml_Leases_holder mc_Leases_holder mk_Leases_holder).binds fun _ _ _ _ _ _ us hl => match us, hl with | [_, _, _], _ => rfl⟩
  have D_Leases_drop : Dm K e_Leases "drop" "Leases.drop" s_Leases_drop ["self", "group", "number"] := ⟨f_Leases_drop, _, fun_mk ml_Leases_drop mc_Leases_drop mk_Leases_drop, ⟨kg_Leases, kd_Leases, kp_Leases, ks_Leases⟩, ⟨ma_Leases_drop, mf_Leases_drop, mk_Leases_drop⟩, (fun_mk ml_Leases_drop mc_Leases_drop mk_Leases_drop).binds fun _ _ _ _ _ _ us hl => match us, hl with | [_, _, _], _ => rfl⟩
  have D__law_did : Df K mg "_law_did" s__law_did ["_law_box_here", "_law_seat_here"] := df_mk X G a31 l31 c31 k31 fun _ _ _ _ _ _ us hl => match us, hl with | [_, _], _ => rfl
  have D__law_pair_right : Df K mg "_law_pair_right" s__law_pair_right ["_law_leases", "_law_rows", "_law_who", "_law_club", "_law_no"] := df_mk X G a32 l32 c32 k32 fun _ _ _ _ _ _ us hl => match us, hl with | [_, _, _, _, _], _ => rfl
  have D_Leases_listed : Dm K e_Leases "listed" "Leases.listed" s_Leases_listed ["self"] := ⟨f_Leases_listed, _, fun_mk ml_Leases_listed mc_Leases_listed mk_Leases_listed, ⟨kg_Leases, kd_Leases, kp_Leases, ks_Leases⟩, ⟨ma_Leases_listed, mf_Leases_listed, mk_Leases_listed⟩, (fun_mk ml_Leases_listed mc_Leases_listed mk_Leases_listed).binds fun _ _ _ _ _ _ us hl => match us, hl with | [_], _ => rfl⟩
  have D_Leases_held : Dm K e_Leases "held" "Leases.held" s_Leases_held ["self", "group"] := ⟨f_Leases_held, _, fun_mk ml_Leases_held mc_Leases_held mk_Leases_held, ⟨kg_Leases, kd_Leases, kp_Leases, ks_Leases⟩, ⟨ma_Leases_held, mf_Leases_held, mk_Leases_held⟩, (fun_mk ml_Leases_held mc_Leases_held mk_Leases_held).binds fun _ _ _ _ _ _ us hl => match us, hl with | [_, _], _ => rfl⟩
  have D_Leases_ended : Dm K e_Leases "ended" "Leases.ended" s_Leases_ended ["self", "time"] := ⟨f_Leases_ended, _, fun_mk ml_Leases_ended mc_Leases_ended mk_Leases_ended, ⟨kg_Leases, kd_Leases, kp_Leases, ks_Leases⟩, ⟨ma_Leases_ended, mf_Leases_ended, mk_Leases_ended⟩, (fun_mk ml_Leases_ended mc_Leases_ended mk_Leases_ended).binds fun _ _ _ _ _ _ us hl => match us, hl with | [_, _], _ => rfl⟩
  have D__law_told_right : Df K mg "_law_told_right" s__law_told_right ["_law_box_here", "_law_seat_here"] := df_mk X G a33 l33 c33 k33 fun _ _ _ _ _ _ us hl => match us, hl with | [_, _], _ => rfl
  have D__law_all_right : Df K mg "_law_all_right" s__law_all_right ["_law_seat_here"] := df_mk X G a34 l34 c34 k34 fun _ _ _ _ _ _ us hl => match us, hl with | [_], _ => rfl
  have D_law : Df K mg "law" s_law ["_law_script"] := df_mk X G a35 l35 c35 k35 fun _ _ _ _ _ _ us hl => match us, hl with | [_], _ => rfl
  refine ⟨PySem.W.fnOf "law" "law" (defArgs s_law) (defBody s_law) (defScope s_law) .none kV35 dc35 pm35 an35 cd35 ct35, fun s v => .of_eq rfl, fun base _ _ => ?_⟩
  have EC_InvalidName : ErrC K e_InvalidName e_QueueError := ⟨⟨nm_InvalidName, q_InvalidName, N_InvalidName, bs_InvalidName, sn_InvalidName, sub_InvalidName, ab_InvalidName, col_InvalidName, dd_InvalidName, k0_InvalidName, k1_InvalidName, k2_InvalidName, k3_InvalidName, k5_InvalidName, cl_InvalidName⟩, sa_InvalidName, ex_InvalidName, ty_InvalidName, kc_InvalidName⟩
  have R_InvalidName : Er l.prog w K mg base 1 "InvalidName" "given" e_InvalidName := ⟨PySem.W.mg_of X G ga_InvalidName, e_QueueError, fI_InvalidName, _, ["self", "given"], EC_InvalidName, ia_InvalidName, it_InvalidName, oki_InvalidName T (fun_mk il_InvalidName ic_InvalidName ik_InvalidName) EC_InvalidName, (fun_mk il_InvalidName ic_InvalidName ik_InvalidName).binds fun _ _ _ _ _ _ us hl => match us, hl with | [_, _], _ => rfl⟩
  have EC_InvalidNumber : ErrC K e_InvalidNumber e_QueueError := ⟨⟨nm_InvalidNumber, q_InvalidNumber, N_InvalidNumber, bs_InvalidNumber, sn_InvalidNumber, sub_InvalidNumber, ab_InvalidNumber, col_InvalidNumber, dd_InvalidNumber, k0_InvalidNumber, k1_InvalidNumber, k2_InvalidNumber, k3_InvalidNumber, k5_InvalidNumber, cl_InvalidNumber⟩, sa_InvalidNumber, ex_InvalidNumber, ty_InvalidNumber, kc_InvalidNumber⟩
  have R_InvalidNumber : Er l.prog w K mg base 1 "InvalidNumber" "given" e_InvalidNumber := ⟨PySem.W.mg_of X G ga_InvalidNumber, e_QueueError, fI_InvalidNumber, _, ["self", "given"], EC_InvalidNumber, ia_InvalidNumber, it_InvalidNumber, oki_InvalidNumber T (fun_mk il_InvalidNumber ic_InvalidNumber ik_InvalidNumber) EC_InvalidNumber, (fun_mk il_InvalidNumber ic_InvalidNumber ik_InvalidNumber).binds fun _ _ _ _ _ _ us hl => match us, hl with | [_, _], _ => rfl⟩
  have EC_InvalidCount : ErrC K e_InvalidCount e_QueueError := ⟨⟨nm_InvalidCount, q_InvalidCount, N_InvalidCount, bs_InvalidCount, sn_InvalidCount, sub_InvalidCount, ab_InvalidCount, col_InvalidCount, dd_InvalidCount, k0_InvalidCount, k1_InvalidCount, k2_InvalidCount, k3_InvalidCount, k5_InvalidCount, cl_InvalidCount⟩, sa_InvalidCount, ex_InvalidCount, ty_InvalidCount, kc_InvalidCount⟩
  have R_InvalidCount : Er l.prog w K mg base 1 "InvalidCount" "given" e_InvalidCount := ⟨PySem.W.mg_of X G ga_InvalidCount, e_QueueError, fI_InvalidCount, _, ["self", "given"], EC_InvalidCount, ia_InvalidCount, it_InvalidCount, oki_InvalidCount T (fun_mk il_InvalidCount ic_InvalidCount ik_InvalidCount) EC_InvalidCount, (fun_mk il_InvalidCount ic_InvalidCount ik_InvalidCount).binds fun _ _ _ _ _ _ us hl => match us, hl with | [_, _], _ => rfl⟩
  have EC_Held : ErrC K e_Held e_QueueError := ⟨⟨nm_Held, q_Held, N_Held, bs_Held, sn_Held, sub_Held, ab_Held, col_Held, dd_Held, k0_Held, k1_Held, k2_Held, k3_Held, k5_Held, cl_Held⟩, sa_Held, ex_Held, ty_Held, kc_Held⟩
  have R_Held : Er2 l.prog w K mg base 1 "Held" "group" "number" e_Held := ⟨PySem.W.mg_of X G ga_Held, e_QueueError, fI_Held, _, ["self", "group", "number"], EC_Held, ia_Held, it_Held, oki_Held T (fun_mk il_Held ic_Held ik_Held) EC_Held, (fun_mk il_Held ic_Held ik_Held).binds fun _ _ _ _ _ _ us hl => match us, hl with | [_, _, _], _ => rfl⟩
  have C__law_box : Ct l.prog w K mg base CX0 1 "_law_box" ["_law_great"] (sp__law_box K) := ok__law_box T D__law_box
  have C__law_cell : Ct l.prog w K mg base CX0 1 "_law_cell" ["_law_script", "_law_k"] (sp__law_cell K) := ok__law_cell T D__law_cell
  have C__law_take : Ct l.prog w K mg base CX0 1 "_law_take" ["_law_box_here", "_law_many"] (sp__law_take K) := ok__law_take T D__law_take
  have C__law_mixed : Ct l.prog w K mg base CX0 2 "_law_mixed" ["_law_box_here", "_law_items"] (sp__law_mixed K) := ok__law_mixed T C__law_take D__law_mixed
  have N_Leases : Kn l.prog w K mg base 1 "Leases" e_Leases (sp_Leases___init__ K) := ⟨f_Leases___init__, _, ["self"], ⟨km_Leases, ma_Leases___init__, mf_Leases___init__, kk_Leases⟩, ok_Leases___init__ T (fun_mk ml_Leases___init__ mc_Leases___init__ mk_Leases___init__), PySem.W.mg_of X G ga_Leases, (fun_mk ml_Leases___init__ mc_Leases___init__ mk_Leases___init__).binds fun _ _ _ _ _ _ us hl => match us, hl with | [_], _ => rfl⟩
  have C__law_seat : Ct l.prog w K mg base CX0 3 "_law_seat" ["_law_box_here"] (sp__law_seat K) := ok__law_seat T C__law_take C__law_mixed N_Leases D__law_seat
  have C__law_row : Ct l.prog w K mg base CX0 2 "_law_row" ["_law_box_here", "_law_seat_here"] (sp__law_row K) := ok__law_row T C__law_take D__law_row
  have C__law_holding : Ct l.prog w K mg base CX0 1 "_law_holding" ["_law_rows", "_law_club", "_law_no"] (sp__law_holding K) := ok__law_holding D__law_holding
  have C__law_held_by : Ct l.prog w K mg base CX0 1 "_law_held_by" ["_law_rows", "_law_who", "_law_club"] (sp__law_held_by K) := ok__law_held_by D__law_held_by
  have C__law_due : Ct l.prog w K mg base CX0 2 "_law_due" ["_law_rows", "_law_row_here"] (sp__law_due K) := ok__law_due C__law_holding C__law_held_by D__law_due
  have C_is_signs : Ct l.prog w K mg base CX0 1 "is_signs" ["value"] (sp_is_signs K) := ok_is_signs T D_is_signs
  have C_is_name : Ct l.prog w K mg base CX0 2 "is_name" ["value"] (sp_is_name K) := ok_is_name T C_is_signs D_is_name
  have C_is_integer : Ct l.prog w K mg base CX0 1 "is_integer" ["value"] (sp_is_integer K) := ok_is_integer T D_is_integer
  have C_is_within : Ct l.prog w K mg base CX0 2 "is_within" ["value", "least", "most"] (sp_is_within K) := ok_is_within C_is_integer D_is_within
  have C_is_number : Ct l.prog w K mg base CX0 3 "is_number" ["value"] (sp_is_number K) := ok_is_number T C_is_within D_is_number
  have C_is_token : Ct l.prog w K mg base CX0 4 "is_token" ["value"] (sp_is_token K) := ok_is_token T C_is_number D_is_token
  have C_is_count : Ct l.prog w K mg base CX0 2 "is_count" ["value"] (sp_is_count K) := ok_is_count C_is_integer D_is_count
  have M_Leases_of : Mt l.prog w K mg base CX0 1 e_Leases "of" ["self", "member", "group"] (sp_Leases_of K) := ok_Leases_of T D_Leases_of
  have M_Leases_give : Mt l.prog w K mg base (L2.CX l.prog w) 5 e_Leases "give" ["self", "member", "group", "number", "token", "end"] (sp_Leases_give K) := ok_Leases_give T R_InvalidName R_InvalidNumber R_InvalidCount R_Held C_is_name C_is_integer C_is_token C_is_count M_Leases_of D_Leases_give
  have MK_Leases_give_end_token_group_number_member : MtK l.prog w K mg base (L2.CX l.prog w) 5 e_Leases "give" ["self", "member", "group", "number", "token", "end"] ["end", "token", "group", "number", "member"] perm_4_2_3_1_0 (sp_Leases_give K) := M_Leases_give.kw D_Leases_give (fun _ _ _ _ _ _ _ ws hl => match ws, hl with | [_, _, _, _, _], _ => rfl) perm_4_2_3_1_0_ok
  have C__law_give : Ct l.prog w K mg base CX0 6 "_law_give" ["_law_leases", "_law_row_here", "_law_by_names"] (sp__law_give K) := ok__law_give T M_Leases_give MK_Leases_give_end_token_group_number_member D__law_give
  have M_Leases_holder : Mt l.prog w K mg base CX0 3 e_Leases "holder" ["self", "group", "number"] (sp_Leases_holder K) := ok_Leases_holder T C_is_integer C_is_name D_Leases_holder
  have M_Leases_drop : Mt l.prog w K mg base CX0 4 e_Leases "drop" ["self", "group", "number"] (sp_Leases_drop K) := ok_Leases_drop T M_Leases_holder D_Leases_drop
  have MK_Leases_drop_number_group : MtK l.prog w K mg base CX0 4 e_Leases "drop" ["self", "group", "number"] ["number", "group"] perm_1_0 (sp_Leases_drop K) := M_Leases_drop.kw D_Leases_drop (fun _ _ _ _ _ _ _ ws hl => match ws, hl with | [_, _], _ => rfl) perm_1_0_ok
  have C__law_did : Ct l.prog w K mg base CX0 7 "_law_did" ["_law_box_here", "_law_seat_here"] (sp__law_did K) := ok__law_did T C__law_take C__law_row C__law_due C__law_give C__law_holding M_Leases_drop MK_Leases_drop_number_group D__law_did
  have MK_Leases_of_group_member : MtK l.prog w K mg base CX0 1 e_Leases "of" ["self", "member", "group"] ["group", "member"] perm_1_0 (sp_Leases_of K) := M_Leases_of.kw D_Leases_of (fun _ _ _ _ _ _ _ ws hl => match ws, hl with | [_, _], _ => rfl) perm_1_0_ok
  have MK_Leases_holder_number_group : MtK l.prog w K mg base CX0 3 e_Leases "holder" ["self", "group", "number"] ["number", "group"] perm_1_0 (sp_Leases_holder K) := M_Leases_holder.kw D_Leases_holder (fun _ _ _ _ _ _ _ ws hl => match ws, hl with | [_, _], _ => rfl) perm_1_0_ok
  have C__law_pair_right : Ct l.prog w K mg base CX0 4 "_law_pair_right" ["_law_leases", "_law_rows", "_law_who", "_law_club", "_law_no"] (sp__law_pair_right K) := ok__law_pair_right T C__law_holding C__law_held_by M_Leases_of M_Leases_holder MK_Leases_of_group_member MK_Leases_holder_number_group D__law_pair_right
  have M_Leases_listed : Mt l.prog w K mg base CX0 1 e_Leases "listed" ["self"] (sp_Leases_listed K) := ok_Leases_listed T D_Leases_listed
  have M_Leases_held : Mt l.prog w K mg base CX0 1 e_Leases "held" ["self", "group"] (sp_Leases_held K) := ok_Leases_held T D_Leases_held
  have M_Leases_ended : Mt l.prog w K mg base (L2.CX l.prog w) 3 e_Leases "ended" ["self", "time"] (sp_Leases_ended K) := ok_Leases_ended T R_InvalidCount C_is_count D_Leases_ended
  have MK_Leases_held_group : MtK l.prog w K mg base CX0 1 e_Leases "held" ["self", "group"] ["group"] perm_0 (sp_Leases_held K) := M_Leases_held.kw D_Leases_held (fun _ _ _ _ _ _ _ ws hl => match ws, hl with | [_], _ => rfl) perm_0_ok
  have MK_Leases_ended_time : MtK l.prog w K mg base (L2.CX l.prog w) 3 e_Leases "ended" ["self", "time"] ["time"] perm_0 (sp_Leases_ended K) := M_Leases_ended.kw D_Leases_ended (fun _ _ _ _ _ _ _ ws hl => match ws, hl with | [_], _ => rfl) perm_0_ok
  have C__law_told_right : Ct l.prog w K mg base CX0 5 "_law_told_right" ["_law_box_here", "_law_seat_here"] (sp__law_told_right K) := ok__law_told_right T C__law_take C__law_pair_right M_Leases_listed M_Leases_held M_Leases_ended MK_Leases_held_group MK_Leases_ended_time D__law_told_right
  have C__law_all_right : Ct l.prog w K mg base CX0 5 "_law_all_right" ["_law_seat_here"] (sp__law_all_right K) := ok__law_all_right T C__law_pair_right D__law_all_right
  have C_law : Cg l.prog w K mg base CX0 8 "law" ["_law_script"] (sp_law K) := ok_law T C__law_box C__law_cell C__law_seat C__law_did C__law_take C__law_told_right C__law_all_right M_Leases_ended M_Leases_held M_Leases_listed D_law
  exact law_gn C_law hfa l35
theorem walk {l : PySem.W.OpenLaw} {q : Program} {loose : List Str} {XP : (Str → Option Value) → Heap → Prop} {YP : World → Heap → Prop} {d : DefRec} {K : Params → PySem.W.Frag} (hn : l.most = some 63) (hdf : d.params.defaults = [])
    (hY : ∀ (w : World) (h : Heap), YP w h → (K w.params).In h)
    (F : ∀ (w : World) (mg : Str → Option Value) (fa : Addr) (h : Heap), (K w.params).In h → h.Ns mainGlobals mg → mg d.name = some (.ref fa) →
      ∃ fd : FuncData, (∀ (s : Shared) (u : Value), BindsTo s fd ⟨[u], []⟩ [("_law_script", u)]) ∧ ∀ base : Heap, (K w.params).In base → base.Ns mainGlobals mg → FnG l.prog w (K w.params) mg base CX0 8 fa fd ["_law_script"] (sp_law (K w.params))) :
    PySem.W.WalkO q loose XP YP l.row.toRowW d [] (fun f vs => PySem.call f vs) :=
  walk_g (n := 63) (k := 8) (x := "_law_script") (CX := CX0) (sp := fun w => sp_law (K w.params)) hn (by decide) hdf ⟨⟨rfl, by decide, by decide⟩, rfl⟩ hY F (fun _ _ a ns hl hS => law_asks a ns hl hS) fun _ _ _ _ z => z
end L40_

open PySem PySem.W PyProof.Rows in
set_option maxRecDepth 100000 in
set_option maxHeartbeats 0 in
theorem PySem.Challenge.cw_inorderonce_k40_leases_given_and_dropped_holds : PySem.Challenge.rw_inorderonce_k40_leases_given_and_dropped.Holds := by
  w_on; o_law; k_head; (case hw => w_witness2)
  k_fill
  refine L40_.walk (l := PySem.Challenge.rw_inorderonce_k40_leases_given_and_dropped) rfl rfl (fun w h Y => PySem.W.kIn_of Y) ?F
  case F =>
    intro w mg fa h KX G hmg
    refine' L40_.all_mk KX G hmg ?a22 ?l22 ?c22 ?k22 ?a21 ?l21 ?c21 ?k21 ?a23 ?l23 ?c23 ?k23 ?a24 ?l24 ?c24 ?k24 ?a25 ?l25 ?c25 ?k25 ?a29 ?l29 ?c29 ?k29 ?a26 ?l26 ?c26 ?k26 ?a27 ?l27 ?c27 ?k27 ?a28 ?l28 ?c28 ?k28 ?a10 ?l10 ?c10 ?k10 ?a13 ?l13 ?c13 ?k13 ?a7 ?l7 ?c7 ?k7 ?a8 ?l8 ?c8 ?k8 ?a16 ?l16 ?c16 ?k16 ?a17 ?l17 ?c17 ?k17 ?a9 ?l9 ?c9 ?k9 ?a30 ?l30 ?c30 ?k30 ?a31 ?l31 ?c31 ?k31 ?a32 ?l32 ?c32 ?k32 ?a33 ?l33 ?c33 ?k33 ?a34 ?l34 ?c34 ?k34 ?a35 ?l35 ?c35 ?k35 ?zhn ?zht ?ga_InvalidName ?ga_InvalidNumber ?ga_InvalidCount ?ga_Held ?ga_QueueError ?ga_Leases ?qa_QueueError ?qb_QueueError ?qc_QueueError ?cl_InvalidName ?sa_InvalidName ?ex_InvalidName ?ty_InvalidName ?kc_InvalidName ?xa_InvalidName ?xb_InvalidName ?xd_InvalidName ?xe_InvalidName ?xm_InvalidName ?no_InvalidName ?ia_InvalidName ?it_InvalidName ?il_InvalidName ?ic_InvalidName ?ik_InvalidName ?sx_InvalidName_Held ?cl_InvalidNumber ?sa_InvalidNumber ?ex_InvalidNumber ?ty_InvalidNumber ?kc_InvalidNumber ?xa_InvalidNumber ?xb_InvalidNumber ?xd_InvalidNumber ?xe_InvalidNumber ?xm_InvalidNumber ?no_InvalidNumber ?ia_InvalidNumber ?it_InvalidNumber ?il_InvalidNumber ?ic_InvalidNumber ?ik_InvalidNumber ?sx_InvalidNumber_Held ?cl_InvalidCount ?sa_InvalidCount ?ex_InvalidCount ?ty_InvalidCount ?kc_InvalidCount ?xa_InvalidCount ?xb_InvalidCount ?xd_InvalidCount ?xe_InvalidCount ?xm_InvalidCount ?no_InvalidCount ?ia_InvalidCount ?it_InvalidCount ?il_InvalidCount ?ic_InvalidCount ?ik_InvalidCount ?sx_InvalidCount_Held ?cl_Held ?sa_Held ?ex_Held ?ty_Held ?kc_Held ?xa_Held ?xb_Held ?xd_Held ?xe_Held ?xm_Held ?no_Held ?ia_Held ?it_Held ?il_Held ?ic_Held ?ik_Held ?nt_Held ?sx_Held_Held ?kg_Leases ?kd_Leases ?kp_Leases ?ks_Leases ?kf_Leases__rows ?km_Leases ?kk_Leases ?ma_Leases___init__ ?mf_Leases___init__ ?ml_Leases___init__ ?mc_Leases___init__ ?mk_Leases___init__ ?ma_Leases_of ?mf_Leases_of ?ml_Leases_of ?mc_Leases_of ?mk_Leases_of ?ma_Leases_give ?mf_Leases_give ?ml_Leases_give ?mc_Leases_give ?mk_Leases_give ?ma_Leases_holder ?mf_Leases_holder ?ml_Leases_holder ?mc_Leases_holder ?mk_Leases_holder ?ma_Leases_drop ?mf_Leases_drop ?ml_Leases_drop ?mc_Leases_drop ?mk_Leases_drop ?ma_Leases_listed ?mf_Leases_listed ?ml_Leases_listed ?mc_Leases_listed ?mk_Leases_listed ?ma_Leases_held ?mf_Leases_held ?ml_Leases_held ?mc_Leases_held ?mk_Leases_held ?ma_Leases_ended ?mf_Leases_ended ?ml_Leases_ended ?mc_Leases_ended ?mk_Leases_ended ?z_int ?z_abs ?z_len ?z_sum ?z_list ?z_isinstance ?z_str ?z_bool ?z_tuple ?z_sorted ?z_range ?z_max ?z_min ?z_repr ?v_MOST_NAME ?v_MOST_NUMBER
    (case a22 => k_is)
    (case l22 => k_is)
    (case c22 => k_is)
    (case k22 => k_is)
    (case a21 => k_is)
    (case l21 => k_is)
    (case c21 => k_is)
    (case k21 => k_is)
    (case a23 => k_is)
    (case l23 => k_is)
    (case c23 => k_is)
    (case k23 => k_is)
    (case a24 => k_is)
    (case l24 => k_is)
    (case c24 => k_is)
    (case k24 => k_is)
    (case a25 => k_is)
    (case l25 => k_is)
    (case c25 => k_is)
    (case k25 => k_is)
    (case a29 => k_is)
    (case l29 => k_is)
    (case c29 => k_is)
    (case k29 => k_is)
    (case a26 => k_is)
    (case l26 => k_is)
    (case c26 => k_is)
    (case k26 => k_is)
    (case a27 => k_is)
    (case l27 => k_is)
    (case c27 => k_is)
    (case k27 => k_is)
    (case a28 => k_is)
    (case l28 => k_is)
    (case c28 => k_is)
    (case k28 => k_is)
    (case a10 => k_is)
    (case l10 => k_is)
    (case c10 => k_is)
    (case k10 => k_is)
    (case a13 => k_is)
    (case l13 => k_is)
    (case c13 => k_is)
    (case k13 => k_is)
    (case a7 => k_is)
    (case l7 => k_is)
    (case c7 => k_is)
    (case k7 => k_is)
    (case a8 => k_is)
    (case l8 => k_is)
    (case c8 => k_is)
    (case k8 => k_is)
    (case a16 => k_is)
    (case l16 => k_is)
    (case c16 => k_is)
    (case k16 => k_is)
    (case a17 => k_is)
    (case l17 => k_is)
    (case c17 => k_is)
    (case k17 => k_is)
    (case a9 => k_is)
    (case l9 => k_is)
    (case c9 => k_is)
    (case k9 => k_is)
    (case a30 => k_is)
    (case l30 => k_is)
    (case c30 => k_is)
    (case k30 => k_is)
    (case a31 => k_is)
    (case l31 => k_is)
    (case c31 => k_is)
    (case k31 => k_is)
    (case a32 => k_is)
    (case l32 => k_is)
    (case c32 => k_is)
    (case k32 => k_is)
    (case a33 => k_is)
    (case l33 => k_is)
    (case c33 => k_is)
    (case k33 => k_is)
    (case a34 => k_is)
    (case l34 => k_is)
    (case c34 => k_is)
    (case k34 => k_is)
    (case a35 => k_is)
    (case l35 => k_is)
    (case c35 => k_is)
    (case k35 => k_is)
    (case zhn => k_is)
    (case zht => k_is)
    (case ga_InvalidName => k_is)
    (case ga_InvalidNumber => k_is)
    (case ga_InvalidCount => k_is)
    (case ga_Held => k_is)
    (case ga_QueueError => k_is)
    (case ga_Leases => k_is)
    (case qa_QueueError => k_is)
    (case qb_QueueError => k_is)
    (case qc_QueueError => k_is)
    (case cl_InvalidName => k_is)
    (case sa_InvalidName => k_is)
    (case ex_InvalidName => k_is)
    (case ty_InvalidName => k_is)
    (case kc_InvalidName => k_is)
    (case xa_InvalidName => k_is)
    (case xb_InvalidName => k_is)
    (case xd_InvalidName => k_is)
    (case xe_InvalidName => k_is)
    (case xm_InvalidName => k_is)
    (case no_InvalidName => k_is)
    (case ia_InvalidName => k_is)
    (case it_InvalidName => k_is)
    (case il_InvalidName => k_is)
    (case ic_InvalidName => k_is)
    (case ik_InvalidName => k_is)
    (case sx_InvalidName_Held => k_is)
    (case cl_InvalidNumber => k_is)
    (case sa_InvalidNumber => k_is)
    (case ex_InvalidNumber => k_is)
    (case ty_InvalidNumber => k_is)
    (case kc_InvalidNumber => k_is)
    (case xa_InvalidNumber => k_is)
    (case xb_InvalidNumber => k_is)
    (case xd_InvalidNumber => k_is)
    (case xe_InvalidNumber => k_is)
    (case xm_InvalidNumber => k_is)
    (case no_InvalidNumber => k_is)
    (case ia_InvalidNumber => k_is)
    (case it_InvalidNumber => k_is)
    (case il_InvalidNumber => k_is)
    (case ic_InvalidNumber => k_is)
    (case ik_InvalidNumber => k_is)
    (case sx_InvalidNumber_Held => k_is)
    (case cl_InvalidCount => k_is)
    (case sa_InvalidCount => k_is)
    (case ex_InvalidCount => k_is)
    (case ty_InvalidCount => k_is)
    (case kc_InvalidCount => k_is)
    (case xa_InvalidCount => k_is)
    (case xb_InvalidCount => k_is)
    (case xd_InvalidCount => k_is)
    (case xe_InvalidCount => k_is)
    (case xm_InvalidCount => k_is)
    (case no_InvalidCount => k_is)
    (case ia_InvalidCount => k_is)
    (case it_InvalidCount => k_is)
    (case il_InvalidCount => k_is)
    (case ic_InvalidCount => k_is)
    (case ik_InvalidCount => k_is)
    (case sx_InvalidCount_Held => k_is)
    (case cl_Held => k_is)
    (case sa_Held => k_is)
    (case ex_Held => k_is)
    (case ty_Held => k_is)
    (case kc_Held => k_is)
    (case xa_Held => k_is)
    (case xb_Held => k_is)
    (case xd_Held => k_is)
    (case xe_Held => k_is)
    (case xm_Held => k_is)
    (case no_Held => k_is)
    (case ia_Held => k_is)
    (case it_Held => k_is)
    (case il_Held => k_is)
    (case ic_Held => k_is)
    (case ik_Held => k_is)
    (case nt_Held => k_is)
    (case sx_Held_Held => k_is)
    (case kg_Leases => k_is)
    (case kd_Leases => k_is)
    (case kp_Leases => k_is)
    (case ks_Leases => k_is)
    (case kf_Leases__rows => k_is)
    (case km_Leases => k_is)
    (case kk_Leases => k_is)
    (case ma_Leases___init__ => k_is)
    (case mf_Leases___init__ => k_is)
    (case ml_Leases___init__ => k_is)
    (case mc_Leases___init__ => k_is)
    (case mk_Leases___init__ => k_is)
    (case ma_Leases_of => k_is)
    (case mf_Leases_of => k_is)
    (case ml_Leases_of => k_is)
    (case mc_Leases_of => k_is)
    (case mk_Leases_of => k_is)
    (case ma_Leases_give => k_is)
    (case mf_Leases_give => k_is)
    (case ml_Leases_give => k_is)
    (case mc_Leases_give => k_is)
    (case mk_Leases_give => k_is)
    (case ma_Leases_holder => k_is)
    (case mf_Leases_holder => k_is)
    (case ml_Leases_holder => k_is)
    (case mc_Leases_holder => k_is)
    (case mk_Leases_holder => k_is)
    (case ma_Leases_drop => k_is)
    (case mf_Leases_drop => k_is)
    (case ml_Leases_drop => k_is)
    (case mc_Leases_drop => k_is)
    (case mk_Leases_drop => k_is)
    (case ma_Leases_listed => k_is)
    (case mf_Leases_listed => k_is)
    (case ml_Leases_listed => k_is)
    (case mc_Leases_listed => k_is)
    (case mk_Leases_listed => k_is)
    (case ma_Leases_held => k_is)
    (case mf_Leases_held => k_is)
    (case ml_Leases_held => k_is)
    (case mc_Leases_held => k_is)
    (case mk_Leases_held => k_is)
    (case ma_Leases_ended => k_is)
    (case mf_Leases_ended => k_is)
    (case ml_Leases_ended => k_is)
    (case mc_Leases_ended => k_is)
    (case mk_Leases_ended => k_is)
    (case z_int => k_is)
    (case z_abs => k_is)
    (case z_len => k_is)
    (case z_sum => k_is)
    (case z_list => k_is)
    (case z_isinstance => k_is)
    (case z_str => k_is)
    (case z_bool => k_is)
    (case z_tuple => k_is)
    (case z_sorted => k_is)
    (case z_range => k_is)
    (case z_max => k_is)
    (case z_min => k_is)
    (case z_repr => k_is)
    (case v_MOST_NAME => k_is)
    (case v_MOST_NUMBER => k_is)

